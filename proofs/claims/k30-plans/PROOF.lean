import PyProof.Rows.All
import HandS.ForMost
import HandS.Exc
import HandS.TryOnly
import HandS.ExcOwn
import HandS.WordsExc
import HandS.CallSlots
import HandS.Wide
import HandS.Lambda
import HandS.TupAny
import HandS.TupMul
import HandS.TupLe
import HandS.Flow
import HandS.IsInst
import HandS.Conv
import HandS.SortInts
import KE.GoesNew
import KE.GoesEnum
import HandS.Defaults
import KE.IntBitsLaws
import HandS.ExcInit
import HandS.ExcField
import HandS.Deep
import KE.KSortedM
import HandS.EndTab
import HandS.MakeKwOnly
import KE.DataFind
import HandS.Style
import KE.KExcIs
import PyProof.InstNe
import HandS.OwnEq
import PySem.Challenge.RW_waymoves_k30_plans_told
set_option Elab.async false
set_option linter.all false
set_option maxRecDepth 100000
set_option maxHeartbeats 4000000
section
/-! The layer of data over HandS: what stands in a slot as plain data, owned lists, steps between worlds. -/
namespace Wm
open PySem PySem.Spec PyProof.Rows L2

/-- plain data -/
inductive D where
  | non | bl (b : Bool) | int (i : Int) | str (x : Str)
  | tup (xs : List D) | lst (xs : List D) | ins (c : Str) (fs : List (Str × D)) | scr (ns : List Int)
  | emp

/-- what a slot holds: nothing known, shared data, a list of one's own, a list of the caller's that may be written -/
inductive SD where
  | no | sh (d : D) | own (xs : List D) | byr (xs : List D) | xn (c : Str) (fs : List (Str × D)) | gv

/-- the tables of code objects, the code objects of lambdas -/
structure TC where
  tabs : List (Addr × Str) := []
  codes : List (Addr × Str) := []
  know : List (D × V) := []
structure KT0 (T : TC) (H : Hp) : Prop where
  t : LamX.Tabs T.tabs H
  c : ∀ p ∈ T.codes, H p.1 = some (LamX.CodeO p.1 p.2)
theorem KT0.ext {T : TC} {H H' : Hp} (k : KT0 T H) (e : ∀ b o, H b = some o → H' b = some o) : KT0 T H' := ⟨k.t.ext e, fun p hp => e _ _ (k.c p hp)⟩
/-- the written part and its classes by name -/
structure Gx where
  K : PySem.W.Frag
  cls : Str → Addr
  xof : Addr → Option (Str × Addr)
  tabs : TC
/-- the classes by name; the exceptions that are held, each with its class and its own dict -/
structure Cl where
  at' : Str → Addr
  xof : Addr → Option (Str × Addr)
  tabs : TC
abbrev gk (K : PySem.W.Frag) (cl : Cl) : Gx := ⟨K, cl.at', cl.xof, cl.tabs⟩
/-- no object of the program's own stands there -/
def NoD (H : Hp) (b : Addr) : Prop := ∀ o, H b = some o → ∃ ps, o = .tbl ps
theorem noD_none {H : Hp} {b : Addr} (h : H b = none) : NoD H b := fun o e => by rw [h] at e; cases e
theorem noD_not {H : Hp} {b : Addr} {o : HO} (h : H b = some o) (ht : ∀ ps, o ≠ .tbl ps := by intro _ z; cases z) : ¬ NoD H b := fun z => by
  obtain ⟨ps, e⟩ := z o h
  exact ht ps e
theorem noD_ne {H : Hp} {b : Addr} (h : ¬ NoD H b) : H b ≠ none := fun z => h (noD_none z)

def LO (K : PySem.W.Frag) (O : List Addr) (H : Hp) (a : Addr) (vs : List V) : Prop :=
  vs.length ≤ sizeLine ∧ H a = some (.lst vs) ∧ a ∉ O
/-- the script's list: locked, or of the written part -/
def ScO (K : PySem.W.Frag) (O : List Addr) (H : Hp) (a : Addr) (vs : List V) : Prop :=
  vs.length ≤ sizeLine ∧ ((Rd H a (.lst vs) ∧ a ∉ O) ∨
    ∃ (o : Obj) (its : Array Value) (n : Nat), K.lookup a = some o ∧ o.cls = .type "list" ∧ o.dict = none ∧ o.data = .seq its n ∧ its.size ≤ sizeLine ∧ Vals vs its.toList)
theorem ScO.sq {K : PySem.W.Frag} {O : List Addr} {H : Hp} {a : Addr} {vs : List V} (h : ScO K O H a vs) : SqL K H a vs := by
  rcases h.2 with h | h
  · exact .inl h.1
  · exact .inr h
def TO (K : PySem.W.Frag) (O : List Addr) (H : Hp) (a : Addr) (vs : List V) : Prop :=
  vs.length ≤ sizeLine ∧ ((Rd H a (.tup vs) ∧ a ∉ O) ∨
    ∃ (o : Obj) (its : Array Value) (n : Nat), K.lookup a = some o ∧ o.cls = .type "tuple" ∧ o.data = .seq its n ∧ its.size ≤ sizeLine ∧ Vals vs its.toList)
theorem LO.sq {K : PySem.W.Frag} {O : List Addr} {H : Hp} {a : Addr} {vs : List V} (h : LO K O H a vs) : SqL K H a vs := SqL.of h.2.1
theorem TO.sq {K : PySem.W.Frag} {O : List Addr} {H : Hp} {a : Addr} {vs : List V} (h : TO K O H a vs) : SqT K H a vs := by
  rcases h.2 with h | h
  · exact .inl h.1
  · exact .inr h

mutual
def Rp (G : Gx) (O : List Addr) (H : Hp) : D → V → Prop
  | .non, v => v = .non
  | .bl b, v => v = .bl b
  | .int i, v => v = .int i
  | .str x, v => v = .str x
  | .tup ds, v => ∃ a vs, v = .ref a ∧ TO G.K O H a vs ∧ RpA G O H ds vs
  | .lst ds, v => ∃ a vs, v = .ref a ∧ LO G.K O H a vs ∧ RpA G O H ds vs
  | .ins c fs, v => ∃ a dx gs, v = .ref a ∧ H a = some (.ins (G.cls c) dx gs) ∧ a ∉ O ∧ RpF G O H fs gs
  | .scr ns, v => ∃ a, v = .ref a ∧ ScO G.K O H a (ns.map V.int)
  | .emp, v => ∃ a, v = .ref a ∧ H a = some (.dK []) ∧ a ∉ O
def RpA (G : Gx) (O : List Addr) (H : Hp) : List D → List V → Prop
  | [], vs => vs = []
  | d :: ds, vs => ∃ v r, vs = v :: r ∧ Rp G O H d v ∧ RpA G O H ds r
def RpF (G : Gx) (O : List Addr) (H : Hp) : List (Str × D) → List (Str × V) → Prop
  | [], gs => gs = []
  | (n, d) :: fs, gs => ∃ v r, gs = (n, v) :: r ∧ Rp G O H d v ∧ RpF G O H fs r
end

/-- from one world to a later one: O must not be met by data, W may be written -/
structure Stp (O W : List Addr) (H : Hp) (O' W' : List Addr) (H' : Hp) : Prop where
  keep : ∀ b o, H b = some o → b ∉ W → (∀ ps, o ≠ .tbl ps) → H' b = some o
  wnew : ∀ b ∈ W', b ∈ W ∨ NoD H b
  onew : ∀ b ∈ O', b ∈ O ∨ NoD H b
  trk : ∀ b, ¬ NoD H b → ¬ NoD H' b
  ofz : ∀ b ∈ O, b ∉ W → b ∈ O'
structure Wf (O W : List Addr) (H : Hp) : Prop where
  sub : ∀ b ∈ W, b ∈ O
  trk : ∀ b ∈ O, ¬ NoD H b

theorem Stp.refl {O W : List Addr} {H : Hp} : Stp O W H O W H := ⟨fun _ _ h _ _ => h, fun _ h => .inl h, fun _ h => .inl h, fun _ h => h, fun _ h _ => h⟩
theorem Stp.trans {O W O1 W1 O2 W2 : List Addr} {H H1 H2 : Hp} (w : Wf O W H) (a : Stp O W H O1 W1 H1) (b : Stp O1 W1 H1 O2 W2 H2) : Stp O W H O2 W2 H2 where
  keep := fun c o h hc ht => b.keep c o (a.keep c o h hc ht) (fun z => by
    rcases a.wnew c z with q | q
    · exact hc q
    · exact noD_not h ht q) ht
  wnew := fun c hc => by
    rcases b.wnew c hc with q | q
    · exact a.wnew c q
    · by_cases h : NoD H c
      · exact .inr h
      · exact absurd q (a.trk c h)
  onew := fun c hc => by
    rcases b.onew c hc with q | q
    · exact a.onew c q
    · by_cases h : NoD H c
      · exact .inr h
      · exact absurd q (a.trk c h)
  trk := fun c h => b.trk c (a.trk c h)
  ofz := fun c h hc => b.ofz c (a.ofz c h hc) fun z => by
    rcases a.wnew c z with q | q
    · exact hc q
    · exact w.trk c h q

section
variable {G : Gx} {O W O' W' : List Addr} {H H' : Hp}
theorem Stp.at (s : Stp O W H O' W' H') (w : Wf O W H) {a : Addr} {o : HO} (h : H a = some o) (ha : a ∉ O) (ht : ∀ ps, o ≠ .tbl ps := by intro _ z; cases z) : H' a = some o ∧ a ∉ O' :=
  ⟨s.keep a o h (fun z => ha (w.sub a z)) ht, fun z => by
    rcases s.onew a z with q | q
    · exact ha q
    · exact noD_not h ht q⟩
theorem LO.step {a : Addr} {vs : List V} (w : Wf O W H) (s : Stp O W H O' W' H') (h : LO G.K O H a vs) : LO G.K O' H' a vs := ⟨h.1, (s.at w h.2.1 h.2.2).1, (s.at w h.2.1 h.2.2).2⟩
theorem TO.step {a : Addr} {vs : List V} (w : Wf O W H) (s : Stp O W H O' W' H') (h : TO G.K O H a vs) : TO G.K O' H' a vs := by
  refine ⟨h.1, ?_⟩
  rcases h.2 with ⟨r | ⟨o, r⟩, hn⟩ | h
  · exact .inl ⟨.inl (s.at w r hn).1, (s.at w r hn).2⟩
  · exact .inl ⟨.inr ⟨o, (s.at w r hn).1⟩, (s.at w r hn).2⟩
  · exact .inr h
/-- data stands where what stands in it stands -/
theorem LO.less {a : Addr} {vs : List V} (h : ∀ b ∈ O', b ∈ O) (r : LO G.K O H a vs) : LO G.K O' H a vs := ⟨r.1, r.2.1, fun z => r.2.2 (h a z)⟩
theorem TO.less {a : Addr} {vs : List V} (h : ∀ b ∈ O', b ∈ O) (r : TO G.K O H a vs) : TO G.K O' H a vs := by
  refine ⟨r.1, ?_⟩
  rcases r.2 with ⟨r, hn⟩ | r
  · exact .inl ⟨r, fun z => hn (h a z)⟩
  · exact .inr r
mutual
theorem Rp.step (w : Wf O W H) (s : Stp O W H O' W' H') : ∀ {d : D} {v : V}, Rp G O H d v → Rp G O' H' d v
  | .non, v, h => by simpa only [Rp] using h
  | .bl b, v, h => by simpa only [Rp] using h
  | .int i, v, h => by simpa only [Rp] using h
  | .str x, v, h => by simpa only [Rp] using h
  | .tup ds, v, h => by
    simp only [Rp] at h ⊢
    obtain ⟨a, vs, e, t, r⟩ := h
    exact ⟨a, vs, e, t.step w s, RpA.step w s r⟩
  | .lst ds, v, h => by
    simp only [Rp] at h ⊢
    obtain ⟨a, vs, e, t, r⟩ := h
    exact ⟨a, vs, e, t.step w s, RpA.step w s r⟩
  | .ins c fs, v, h => by
    simp only [Rp] at h ⊢
    obtain ⟨a, dx, gs, e, t, n, r⟩ := h
    exact ⟨a, dx, gs, e, (s.at w t n).1, (s.at w t n).2, RpF.step w s r⟩
  | .scr ns, v, h => by
    simp only [Rp] at h ⊢
    obtain ⟨a, e, t⟩ := h
    refine ⟨a, e, t.1, ?_⟩
    rcases t.2 with ⟨r | ⟨o, r⟩, hn⟩ | h
    · exact .inl ⟨.inl (s.at w r hn).1, (s.at w r hn).2⟩
    · exact .inl ⟨.inr ⟨o, (s.at w r hn).1⟩, (s.at w r hn).2⟩
    · exact .inr h
  | .emp, v, h => by
    simp only [Rp] at h ⊢
    obtain ⟨a, e, t, n⟩ := h
    exact ⟨a, e, (s.at w t n).1, (s.at w t n).2⟩
theorem RpA.step (w : Wf O W H) (s : Stp O W H O' W' H') : ∀ {ds : List D} {vs : List V}, RpA G O H ds vs → RpA G O' H' ds vs
  | [], vs, h => by simpa only [RpA] using h
  | d :: ds, vs, h => by
    simp only [RpA] at h ⊢
    obtain ⟨v, r, e, h1, h2⟩ := h
    exact ⟨v, r, e, Rp.step w s h1, RpA.step w s h2⟩
theorem RpF.step (w : Wf O W H) (s : Stp O W H O' W' H') : ∀ {ds : List (Str × D)} {vs : List (Str × V)}, RpF G O H ds vs → RpF G O' H' ds vs
  | [], vs, h => by simpa only [RpF] using h
  | (n, d) :: ds, vs, h => by
    simp only [RpF] at h ⊢
    obtain ⟨v, r, e, h1, h2⟩ := h
    exact ⟨v, r, e, Rp.step w s h1, RpF.step w s h2⟩
end
mutual
theorem Rp.less (h : ∀ b ∈ O', b ∈ O) : ∀ {d : D} {v : V}, Rp G O H d v → Rp G O' H d v
  | .non, v, q => by simpa only [Rp] using q
  | .bl b, v, q => by simpa only [Rp] using q
  | .int i, v, q => by simpa only [Rp] using q
  | .str x, v, q => by simpa only [Rp] using q
  | .tup ds, v, q => by
    simp only [Rp] at q ⊢
    obtain ⟨a, vs, e, t, r⟩ := q
    exact ⟨a, vs, e, t.less h, RpA.less h r⟩
  | .lst ds, v, q => by
    simp only [Rp] at q ⊢
    obtain ⟨a, vs, e, t, r⟩ := q
    exact ⟨a, vs, e, t.less h, RpA.less h r⟩
  | .ins c fs, v, q => by
    simp only [Rp] at q ⊢
    obtain ⟨a, dx, gs, e, t, n, r⟩ := q
    exact ⟨a, dx, gs, e, t, fun z => n (h a z), RpF.less h r⟩
  | .scr ns, v, q => by
    simp only [Rp] at q ⊢
    obtain ⟨a, e, t⟩ := q
    refine ⟨a, e, t.1, ?_⟩
    rcases t.2 with ⟨r, hn⟩ | r
    · exact .inl ⟨r, fun z => hn (h a z)⟩
    · exact .inr r
  | .emp, v, q => by
    simp only [Rp] at q ⊢
    obtain ⟨a, e, t, n⟩ := q
    exact ⟨a, e, t, fun z => n (h a z)⟩
theorem RpA.less (h : ∀ b ∈ O', b ∈ O) : ∀ {ds : List D} {vs : List V}, RpA G O H ds vs → RpA G O' H ds vs
  | [], vs, q => by simpa only [RpA] using q
  | d :: ds, vs, q => by
    simp only [RpA] at q ⊢
    obtain ⟨v, r, e, h1, h2⟩ := q
    exact ⟨v, r, e, Rp.less h h1, RpA.less h h2⟩
theorem RpF.less (h : ∀ b ∈ O', b ∈ O) : ∀ {ds : List (Str × D)} {vs : List (Str × V)}, RpF G O H ds vs → RpF G O' H ds vs
  | [], vs, q => by simpa only [RpF] using q
  | (n, d) :: ds, vs, q => by
    simp only [RpF] at q ⊢
    obtain ⟨v, r, e, h1, h2⟩ := q
    exact ⟨v, r, e, Rp.less h h1, RpF.less h h2⟩
end
end

/-- a list that is written: at a, of xs -/
def OwnAt (G : Gx) (O W : List Addr) (H : Hp) (a : Addr) (xs : List D) : Prop :=
  a ∈ W ∧ ∃ vs, H a = some (.lst vs) ∧ vs.length ≤ sizeLine ∧ RpA G O H xs vs
/-- what stands in a slot; vs0: the arguments at the entry -/
def SlotR (G : Gx) (O W : List Addr) (H : Hp) (ov ov0 : Option V) : SD → Prop
  | .no => True
  | .sh d => ∃ v, ov = some v ∧ Rp G O H d v
  | .own xs => ∃ a, ov = some (.ref a) ∧ OwnAt G O W H a xs
  | .byr xs => ∃ a, ov = some (.ref a) ∧ ov0 = some (.ref a) ∧ OwnAt G O W H a xs
  | .xn c fs => ∃ a p gs, ov = some (.ref a) ∧ G.xof a = some (c, p) ∧ H p = some (.xd gs) ∧ p ∉ O ∧ RpF G O H fs gs
  | .gv => ov = ov0
def SD.mine : SD → Bool
  | .own _ => true
  | .byr _ => true
  | _ => false
/-- what is known of tables, code objects, and what a lambda has caught -/
structure KT (G : Gx) (O : List Addr) (H : Hp) : Prop where
  tc : KT0 G.tabs H
  k : ∀ q ∈ G.tabs.know, Rp G O H q.1 q.2
theorem KT.nil {G : Gx} {O : List Addr} {H : Hp} (h : G.tabs = {}) : KT G O H := ⟨by rw [h]; exact ⟨fun _ h => absurd h (by simp), fun _ h => absurd h (by simp)⟩, fun _ z => by rw [h] at z; exact absurd z (by simp)⟩
structure SR (G : Gx) (vs0 : List V) (O W : List Addr) (σ : L2.St) (H : Hp) (ρ : List SD) : Prop where
  wf : Wf O W H
  len : σ.length = ρ.length
  slot : ∀ (i : Nat) (s : SD), ρ[i]? = some s → SlotR G O W H (σ[i]?.join) vs0[i]? s
  apart : ∀ (i j : Nat) (s t : SD) (a : Addr), ρ[i]? = some s → ρ[j]? = some t → s.mine = true → t.mine = true → σ[i]? = some (some (.ref a)) → σ[j]? = some (some (.ref a)) → i = j
  tabs : KT G O H
/-- what an expression gives -/
def ResR (G : Gx) (O W : List Addr) (σ : L2.St) (H : Hp) (ρ : List SD) (v : V) : SD → Prop
  | .sh d => Rp G O H d v
  | .own xs => ∃ a, v = .ref a ∧ OwnAt G O W H a xs ∧ ∀ (i : Nat) (s : SD), ρ[i]? = some s → s.mine = true → σ[i]? ≠ some (some (.ref a))
  | _ => False
end Wm
end

section
/-! What an expression computes on data, and that it does. -/
namespace Wm
open PySem PySem.Spec PyProof.Rows L2

/-- what comes of a piece: a thing, an exception, or nothing that is told -/
inductive Rs (α : Type) where
  | ok (a : α) | exc (c : Str) (fs : List (Str × D)) (ρ : List SD) | bad
def Rs.bind {α β : Type} : Rs α → (α → Rs β) → Rs β
  | .ok a, f => f a
  | .exc c fs ρ, _ => .exc c fs ρ
  | .bad, _ => .bad
theorem Rs.bind_ok {α β : Type} (a : α) (f : α → Rs β) : (Rs.ok a).bind f = f a := rfl
abbrev Sx := List SD → Rs (SD × List SD)
abbrev Sb := List SD → Rs (Bool × List SD)
abbrev So := List SD → Rs (List D × List SD)
inductive Fl where
  | nx (ρ : List SD) | rt (r : SD) (ρ : List SD) | bk (ρ : List SD) | ct (ρ : List SD)
abbrev Ss := List SD → Rs Fl

abbrev gx (X : Cx) (cl : Cl) : Gx := gk X.K cl

/-- what is asked behind an exception -/
def ExcA (G : Gx) (vs0 : List V) (Wx : WX) (O W : List Addr) (σ : L2.St) (H : Hp) (c : Str) (fs : List (Str × D)) (ρ' : List SD) : Prop :=
  ∀ p gs O' W' H', Stp O W H O' W' H' → SR G vs0 O' W' σ H' ρ' → (H' p = some (.xd gs) ∧ p ∉ O') → RpF G O' H' fs gs → Wx (.ref (G.cls c)) (some p) σ H'
def AftE (G : Gx) (vs0 : List V) (Wx : WX) (O W : List Addr) (σ : L2.St) (H : Hp) (Q : VK) : Rs (SD × List SD) → Prop
  | .ok (r, ρ') => ∀ v O' W' H', Stp O W H O' W' H' → SR G vs0 O' W' σ H' ρ' → ResR G O' W' σ H' ρ' v r → Q v H'
  | .exc c fs ρ' => ExcA G vs0 Wx O W σ H c fs ρ'
  | .bad => False
def AftB (G : Gx) (vs0 : List V) (Wx : WX) (O W : List Addr) (σ : L2.St) (H : Hp) (Q : Bool → Hp → Prop) : Rs (Bool × List SD) → Prop
  | .ok (r, ρ') => ∀ O' W' H', Stp O W H O' W' H' → SR G vs0 O' W' σ H' ρ' → Q r H'
  | .exc c fs ρ' => ExcA G vs0 Wx O W σ H c fs ρ'
  | .bad => False
/-- an operand: data, or a list of one's own that is only looked at -/
def Op1 (G : Gx) (O W : List Addr) (H : Hp) (d : D) (v : V) : Prop := Rp G O H d v ∨ ∃ a xs, d = .lst xs ∧ v = .ref a ∧ OwnAt G O W H a xs
def OpA (G : Gx) (O W : List Addr) (H : Hp) : List D → List V → Prop
  | [], vs => vs = []
  | d :: ds, vs => ∃ v r, vs = v :: r ∧ Op1 G O W H d v ∧ OpA G O W H ds r
def AftO (G : Gx) (vs0 : List V) (Wx : WX) (O W : List Addr) (σ : L2.St) (H : Hp) (Q : List V → Hp → Prop) : Rs (List D × List SD) → Prop
  | .ok (ds, ρ') => ∀ vs O' W' H', Stp O W H O' W' H' → SR G vs0 O' W' σ H' ρ' → OpA G O' W' H' ds vs → Q vs H'
  | .exc c fs ρ' => ExcA G vs0 Wx O W σ H c fs ρ'
  | .bad => False

structure EJ (X : Cx) (cl : Cl) (vs0 : List V) (Wx : WX) (e : Expr) (f : Sx) : Prop where
  ex : ∃ t, PE X e t ∧ ∀ O W σ H ρ Q, SR (gx X cl) vs0 O W σ H ρ → AftE (gx X cl) vs0 Wx O W σ H Q (f ρ) → t σ H Q
structure TJ (X : Cx) (cl : Cl) (vs0 : List V) (Wx : WX) (e : Expr) (f : Sb) : Prop where
  ex : ∃ t, PT X e t ∧ ∀ O W σ H ρ Q, SR (gx X cl) vs0 O W σ H ρ → AftB (gx X cl) vs0 Wx O W σ H Q (f ρ) → t σ H Q

/-! ### worlds -/
section
variable {G : Gx} {vs0 : List V} {O W O' W' O1 W1 : List Addr} {σ : L2.St} {H H' H1 : Hp} {ρ ρ' : List SD} {Wx : WX}
theorem ExcA.back {c : Str} {fs : List (Str × D)} (w : Wf O W H) (s : Stp O W H O1 W1 H1) (h : ExcA G vs0 Wx O W σ H c fs ρ') : ExcA G vs0 Wx O1 W1 σ H1 c fs ρ' :=
  fun p gs O' W' H' s' r hp hf => h p gs O' W' H' (s.trans w s') r hp hf
theorem AftE.back {Q : VK} (w : Wf O W H) (s : Stp O W H O1 W1 H1) : ∀ {r : Rs (SD × List SD)}, AftE G vs0 Wx O W σ H Q r → AftE G vs0 Wx O1 W1 σ H1 Q r
  | .ok (_, _), h => fun v O' W' H' s' sr rr => h v O' W' H' (s.trans w s') sr rr
  | .exc _ _ _, h => ExcA.back w s h
  | .bad, h => h
theorem AftB.back {Q : Bool → Hp → Prop} (w : Wf O W H) (s : Stp O W H O1 W1 H1) : ∀ {r : Rs (Bool × List SD)}, AftB G vs0 Wx O W σ H Q r → AftB G vs0 Wx O1 W1 σ H1 Q r
  | .ok (_, _), h => fun O' W' H' s' sr => h O' W' H' (s.trans w s') sr
  | .exc _ _ _, h => ExcA.back w s h
  | .bad, h => h
theorem AftO.back {Q : List V → Hp → Prop} (w : Wf O W H) (s : Stp O W H O1 W1 H1) : ∀ {r : Rs (List D × List SD)}, AftO G vs0 Wx O W σ H Q r → AftO G vs0 Wx O1 W1 σ H1 Q r
  | .ok (_, _), h => fun v O' W' H' s' sr rr => h v O' W' H' (s.trans w s') sr rr
  | .exc _ _ _, h => ExcA.back w s h
  | .bad, h => h

/-- an object that is no table and no code object is written -/
theorem tabs_but {T : TC} {H H' : Hp} {p : Addr} {o : HO} (t : KT0 T H) (hp : H p = some o) (k : ∀ b u, b ≠ p → H b = some u → H' b = some u) (ht : ∀ ps, o ≠ .tbl ps := by intro _ z; cases z) (hx : ∀ f, o ≠ .ext f := by intro _ z; cases z) : KT0 T H' := ⟨fun q hq => by
  obtain ⟨ps, h1, h2, h3⟩ := t.t q hq
  refine ⟨ps, k _ _ (fun z => ?_) h1, h2, fun pos cv hc => ?_⟩
  · rw [z, hp] at h1; exact ht ps (Option.some.inj h1)
  · obtain ⟨c, e1, e2⟩ := h3 pos cv hc
    refine ⟨c, e1, k _ _ (fun z => ?_) e2⟩
    rw [z, hp] at e2; exact hx _ (Option.some.inj e2), fun q hq => k _ _ (fun z => hx _ (Option.some.inj (hp.symm.trans (by rw [← z]; exact t.c q hq)))) (t.c q hq)⟩
theorem noD_same {b : Addr} (h : Same H H') (n : ¬ NoD H b) : ¬ NoD H' b := fun z => n fun o e => z o (h b o e)
theorem Stp.same (h : Same H H') : Stp O W H O W H' := ⟨fun b o e _ _ => h b o e, fun _ h => .inl h, fun _ h => .inl h, fun b hb => noD_same h hb, fun _ h _ => h⟩
theorem Stp.new {a : Addr} (h : Same H H') (n : H a = none) : Stp O W H (a :: O) (a :: W) H' := ⟨fun b o e _ _ => h b o e, fun b hb => by
  rcases List.mem_cons.mp hb with e | e
  · right; rw [e]; exact noD_none n
  · exact .inl e, fun b hb => by
  rcases List.mem_cons.mp hb with e | e
  · right; rw [e]; exact noD_none n
  · exact .inl e, fun b hb => noD_same h hb, fun _ h _ => List.mem_cons_of_mem _ h⟩
theorem Wf.same (w : Wf O W H) (h : Same H H') : Wf O W H' := ⟨w.sub, fun b hb => noD_same h (w.trk b hb)⟩
theorem Wf.new {a : Addr} (w : Wf O W H) (h : Same H H') (n : ¬ NoD H' a) : Wf (a :: O) (a :: W) H' := ⟨fun b hb => by
  rcases List.mem_cons.mp hb with e | e
  · rw [e]; exact List.mem_cons_self
  · exact List.mem_cons_of_mem _ (w.sub b e), fun b hb => by
  rcases List.mem_cons.mp hb with e | e
  · rw [e]; exact n
  · exact (w.same h).trk b e⟩
/-- the lists of one's own are as they were, and may be written still -/
theorem OwnAt.step {a : Addr} {xs : List D} (w : Wf O W H) (s : Stp O W H O' W' H') (hw : ∀ b ∈ W, b ∈ W') (hk : ∀ b o, b ∈ W → H b = some o → H' b = some o) (h : OwnAt G O W H a xs) : OwnAt G O' W' H' a xs := by
  obtain ⟨h1, vs, h2, h3, h4⟩ := h
  exact ⟨hw a h1, vs, hk a _ h1 h2, h3, RpA.step w s h4⟩
theorem SlotR.step {ov ov0 : Option V} {s : SD} (w : Wf O W H) (st : Stp O W H O' W' H') (hw : ∀ b ∈ W, b ∈ W') (hk : ∀ b o, b ∈ W → H b = some o → H' b = some o) (h : SlotR G O W H ov ov0 s) : SlotR G O' W' H' ov ov0 s := by
  cases s with
  | no => trivial
  | sh d => obtain ⟨v, e, r⟩ := h; exact ⟨v, e, r.step w st⟩
  | own xs => obtain ⟨a, e, r⟩ := h; exact ⟨a, e, r.step w st hw hk⟩
  | byr xs => obtain ⟨a, e, e0, r⟩ := h; exact ⟨a, e, e0, r.step w st hw hk⟩
  | xn c fs => obtain ⟨a, p, gs, e, x, t, n, r⟩ := h; exact ⟨a, p, gs, e, x, (st.at w t n).1, (st.at w t n).2, RpF.step w st r⟩
  | gv => exact h
theorem SR.step (r : SR G vs0 O W σ H ρ) (w' : Wf O' W' H') (st : Stp O W H O' W' H') (hw : ∀ b ∈ W, b ∈ W') (hk : ∀ b o, b ∈ W → H b = some o → H' b = some o) (tb : KT0 G.tabs H') : SR G vs0 O' W' σ H' ρ :=
  ⟨w', r.len, fun i s e => (r.slot i s e).step r.wf st hw hk, r.apart, tb, fun q hq => (r.tabs.k q hq).step r.wf st⟩
theorem SR.same (r : SR G vs0 O W σ H ρ) (h : Same H H') : SR G vs0 O W σ H' ρ := r.step (r.wf.same h) (Stp.same h) (fun _ h => h) (fun b o _ e => h b o e) (r.tabs.tc.ext h)
theorem SR.new {a : Addr} (r : SR G vs0 O W σ H ρ) (h : Same H H') (n : H a = none) (n' : ¬ NoD H' a) : SR G vs0 (a :: O) (a :: W) σ H' ρ :=
  r.step (r.wf.new h n') (Stp.new h n) (fun _ h => List.mem_cons_of_mem _ h) (fun b o _ e => h b o e) (r.tabs.tc.ext h)

/-- a list is given up: it is data from now on -/
abbrev off (a : Addr) (l : List Addr) : List Addr := l.filter fun b => decide (b ≠ a)
theorem mem_off {a b : Addr} {l : List Addr} : b ∈ off a l ↔ b ∈ l ∧ b ≠ a := by simp [off]
theorem Stp.off {a : Addr} (ha : a ∈ W) : Stp O W H (off a O) (off a W) H :=
  ⟨fun _ _ h _ _ => h, fun b hb => .inl (mem_off.mp hb).1, fun b hb => .inl (mem_off.mp hb).1, fun _ h => h, fun b hb hn => mem_off.mpr ⟨hb, fun e => hn (e ▸ ha)⟩⟩
theorem Wf.off {a : Addr} (w : Wf O W H) : Wf (off a O) (off a W) H :=
  ⟨fun b hb => mem_off.mpr ⟨w.sub b (mem_off.mp hb).1, (mem_off.mp hb).2⟩, fun b hb => w.trk b (mem_off.mp hb).1⟩
theorem less_off {a : Addr} : ∀ b ∈ off a O, b ∈ O := fun b hb => (mem_off.mp hb).1
theorem OwnAt.off {a b : Addr} {xs : List D} (h : OwnAt G O W H b xs) (hn : b ≠ a) : OwnAt G (off a O) (off a W) H b xs := by
  obtain ⟨h1, vs, h2, h3, h4⟩ := h
  exact ⟨mem_off.mpr ⟨h1, hn⟩, vs, h2, h3, h4.less less_off⟩
theorem OwnAt.data {a : Addr} {xs : List D} (h : OwnAt G O W H a xs) : Rp G (Wm.off a O) H (.lst xs) (.ref a) := by
  obtain ⟨h1, vs, h2, h3, h4⟩ := h
  simp only [Rp]
  exact ⟨a, vs, rfl, ⟨h3, h2, fun z => (mem_off.mp z).2 rfl⟩, h4.less less_off⟩
/-- no slot holds a: it is given up -/
theorem SR.off {a : Addr} (r : SR G vs0 O W σ H ρ) (hn : ∀ (i : Nat) (s : SD), ρ[i]? = some s → s.mine = true → σ[i]? ≠ some (some (.ref a))) : SR G vs0 (off a O) (off a W) σ H ρ := by
  refine ⟨r.wf.off, r.len, fun i s e => ?_, r.apart, r.tabs.tc, fun q hq => (r.tabs.k q hq).less less_off⟩
  have q := r.slot i s e
  have nn := hn i s e
  cases s with
  | no => trivial
  | sh d => obtain ⟨v, e, r⟩ := q; exact ⟨v, e, r.less less_off⟩
  | own xs =>
    obtain ⟨b, e, r⟩ := q
    refine ⟨b, e, r.off fun z => nn rfl ?_⟩
    subst z
    cases hh : σ[i]? with
    | none => rw [hh] at e; cases e
    | some o => rw [hh] at e; exact congrArg some e
  | byr xs =>
    obtain ⟨b, e, e0, r⟩ := q
    refine ⟨b, e, e0, r.off fun z => nn rfl ?_⟩
    subst z
    cases hh : σ[i]? with
    | none => rw [hh] at e; cases e
    | some o => rw [hh] at e; exact congrArg some e
  | xn c fs => obtain ⟨b, p, gs, e, x, t, n, r⟩ := q; exact ⟨b, p, gs, e, x, t, fun z => n (less_off p z), RpF.less less_off r⟩
  | gv => exact q
def SD.frz : SD → D
  | .sh d => d
  | .own xs => .lst xs
  | .byr xs => .lst xs
  | .no => .non
  | .xn _ _ => .non
  | .gv => .non
/-- what an expression gave, as data -/
theorem ResR.frz {v : V} {r : SD} (sr : SR G vs0 O W σ H ρ) (h : ResR G O W σ H ρ v r) : ∃ O' W', Stp O W H O' W' H ∧ SR G vs0 O' W' σ H ρ ∧ Rp G O' H r.frz v := by
  cases r with
  | no => exact h.elim
  | byr xs => exact h.elim
  | xn _ _ => exact h.elim
  | gv => exact h.elim
  | sh d => exact ⟨O, W, Stp.refl, sr, h⟩
  | own xs =>
    obtain ⟨a, e, o, n⟩ := h
    subst e
    exact ⟨off a O, off a W, Stp.off o.1, sr.off n, o.data⟩
theorem join_some {o : Option (Option V)} {v : V} (h : o.join = some v) : o = some (some v) := by
  cases o with
  | none => cases h
  | some o => exact congrArg some h
theorem SR.get {i : Nat} {d : D} (r : SR G vs0 O W σ H ρ) (h : ρ[i]? = some (.sh d)) : ∃ v, σ[i]? = some (some v) ∧ Rp G O H d v := by
  obtain ⟨v, e, q⟩ := r.slot i _ h
  exact ⟨v, join_some e, q⟩
theorem SR.getOwn {i : Nat} {s : SD} {xs : List D} (r : SR G vs0 O W σ H ρ) (h : ρ[i]? = some s) (hs : s = .own xs ∨ s = .byr xs) : ∃ a, σ[i]? = some (some (.ref a)) ∧ OwnAt G O W H a xs := by
  rcases hs with rfl | rfl
  · obtain ⟨a, e, q⟩ := r.slot i _ h
    exact ⟨a, join_some e, q⟩
  · obtain ⟨a, e, _, q⟩ := r.slot i _ h
    exact ⟨a, join_some e, q⟩
/-- a slot is filled with data -/
theorem SR.set {i : Nat} {d : D} {v : V} (r : SR G vs0 O W σ H ρ) (h : Rp G O H d v) : SR G vs0 O W (σ.set i (some v)) H (ρ.set i (.sh d)) := by
  refine ⟨r.wf, by rw [List.length_set, List.length_set, r.len], fun j s e => ?_, fun j k s t a e1 e2 m1 m2 s1 s2 => ?_, r.tabs⟩
  · by_cases hj : i = j
    · subst hj
      by_cases hl : i < ρ.length
      · rw [List.getElem?_set_self hl] at e; cases e
        rw [List.getElem?_set_self (by rw [r.len]; exact hl)]
        exact ⟨v, rfl, h⟩
      · rw [List.getElem?_eq_none (by rw [List.length_set]; omega)] at e; cases e
    · rw [List.getElem?_set_ne hj] at e
      rw [List.getElem?_set_ne hj]
      exact r.slot j s e
  · have nj : i ≠ j := fun z => by
      subst z
      by_cases hl : i < ρ.length
      · rw [List.getElem?_set_self hl] at e1; cases e1; cases m1
      · rw [List.getElem?_eq_none (by rw [List.length_set]; omega)] at e1; cases e1
    have nk : i ≠ k := fun z => by
      subst z
      by_cases hl : i < ρ.length
      · rw [List.getElem?_set_self hl] at e2; cases e2; cases m2
      · rw [List.getElem?_eq_none (by rw [List.length_set]; omega)] at e2; cases e2
    rw [List.getElem?_set_ne nj] at e1 s1
    rw [List.getElem?_set_ne nk] at e2 s2
    exact r.apart j k s t a e1 e2 m1 m2 s1 s2
/-- .. with a list of one's own -/
theorem SR.setOwn {i : Nat} {xs : List D} {a : Addr} (r : SR G vs0 O W σ H ρ) (h : OwnAt G O W H a xs) (hn : ∀ (i : Nat) (s : SD), ρ[i]? = some s → s.mine = true → σ[i]? ≠ some (some (.ref a))) :
    SR G vs0 O W (σ.set i (some (.ref a))) H (ρ.set i (.own xs)) := by
  refine ⟨r.wf, by rw [List.length_set, List.length_set, r.len], fun j s e => ?_, fun j k s t b e1 e2 m1 m2 s1 s2 => ?_, r.tabs⟩
  · by_cases hj : i = j
    · subst hj
      by_cases hl : i < ρ.length
      · rw [List.getElem?_set_self hl] at e; cases e
        rw [List.getElem?_set_self (by rw [r.len]; exact hl)]
        exact ⟨a, rfl, h⟩
      · rw [List.getElem?_eq_none (by rw [List.length_set]; omega)] at e; cases e
    · rw [List.getElem?_set_ne hj] at e
      rw [List.getElem?_set_ne hj]
      exact r.slot j s e
  · have inb : ∀ {k : Nat} {t : SD}, (ρ.set i (.own xs))[k]? = some t → k < σ.length := fun {k t} e => by
      have := (List.getElem?_eq_some_iff.mp e).1
      rw [List.length_set] at this
      rw [r.len]; exact this
    by_cases nj : i = j
    · by_cases nk : i = k
      · exact nj.symm.trans nk
      · subst nj
        rw [List.getElem?_set_self (inb e1)] at s1
        rw [List.getElem?_set_ne nk] at e2 s2
        cases s1
        exact absurd s2 (hn k t e2 m2)
    · by_cases nk : i = k
      · subst nk
        rw [List.getElem?_set_self (inb e2)] at s2
        rw [List.getElem?_set_ne nj] at e1 s1
        cases s2
        exact absurd s1 (hn j s e1 m1)
      · rw [List.getElem?_set_ne nj] at e1 s1
        rw [List.getElem?_set_ne nk] at e2 s2
        exact r.apart j k s t b e1 e2 m1 m2 s1 s2
/-- a result goes into a slot -/
theorem SR.put {i : Nat} {v : V} {s : SD} (r : SR G vs0 O W σ H ρ) (h : ResR G O W σ H ρ v s) : SR G vs0 O W (σ.set i (some v)) H (ρ.set i s) := by
  cases s with
  | no => exact h.elim
  | byr xs => exact h.elim
  | xn _ _ => exact h.elim
  | gv => exact h.elim
  | sh d => exact r.set h
  | own xs =>
    obtain ⟨a, e, o, n⟩ := h
    subst e
    exact r.setOwn o n
/-- a slot's own list becomes data -/
theorem SR.demote {i : Nat} {s : SD} {xs : List D} (r : SR G vs0 O W σ H ρ) (h : ρ[i]? = some s) (hs : s = .own xs ∨ s = .byr xs) :
    ∃ a O' W', σ[i]? = some (some (.ref a)) ∧ Stp O W H O' W' H ∧ SR G vs0 O' W' σ H (ρ.set i (.sh (.lst xs))) ∧ Rp G O' H (.lst xs) (.ref a) := by
  obtain ⟨a, e, o⟩ := r.getOwn h hs
  have hm : s.mine = true := by rcases hs with rfl | rfl <;> rfl
  refine ⟨a, Wm.off a O, Wm.off a W, e, Stp.off o.1, ⟨r.wf.off, by rw [List.length_set, r.len], fun j t q => ?_, fun j k t u b e1 e2 m1 m2 s1 s2 => ?_, r.tabs.tc, fun q hq => (r.tabs.k q hq).less less_off⟩, o.data⟩
  · by_cases hj : i = j
    · subst hj
      rw [List.getElem?_set_self (List.getElem?_eq_some_iff.mp h).1] at q; cases q
      rw [e]
      exact ⟨.ref a, rfl, o.data⟩
    · rw [List.getElem?_set_ne hj] at q
      have z := r.slot j t q
      have ne : ∀ b, t.mine = true → (σ[j]?).join = some (.ref b) → b ≠ a := fun b m w y => by
        subst y
        exact hj (r.apart i j s t b h q hm m e (join_some w))
      cases t with
      | no => trivial
      | sh d => obtain ⟨v, e, r⟩ := z; exact ⟨v, e, r.less less_off⟩
      | own ys => obtain ⟨b, e, r⟩ := z; exact ⟨b, e, r.off (ne b rfl e)⟩
      | byr ys => obtain ⟨b, e, e0, r⟩ := z; exact ⟨b, e, e0, r.off (ne b rfl e)⟩
      | xn c fs => obtain ⟨b, p, gs, e, x, t, n, r⟩ := z; exact ⟨b, p, gs, e, x, t, fun z => n (less_off p z), RpF.less less_off r⟩
      | gv => exact z
  · have nj : i ≠ j := fun z => by
      subst z
      rw [List.getElem?_set_self (List.getElem?_eq_some_iff.mp h).1] at e1; cases e1; cases m1
    have nk : i ≠ k := fun z => by
      subst z
      rw [List.getElem?_set_self (List.getElem?_eq_some_iff.mp h).1] at e2; cases e2; cases m2
    rw [List.getElem?_set_ne nj] at e1
    rw [List.getElem?_set_ne nk] at e2
    exact r.apart j k t u b e1 e2 m1 m2 s1 s2
end

/-! ### constants, names -/
section
variable {X : Cx} {cl : Cl} {vs0 : List V} {Wx : WX}
def xC (d : D) : Sx := fun ρ => .ok (.sh d, ρ)
theorem ej_c {e : Expr} {v : V} {d : D} (h : PE X e (tC v)) (r : ∀ O H, Rp (gx X cl) O H d v) : EJ X cl vs0 Wx e (xC d) :=
  ⟨⟨_, h, fun O W σ H ρ Q sr q => q v O W H Stp.refl sr (r O H)⟩⟩
theorem ej_int {i : Int} {j pos} : EJ X cl vs0 Wx (.Constant (.int i) j pos) (xC (.int i)) := ej_c pe_int fun _ _ => by simp only [Rp]
theorem ej_bl {i : Bool} {j pos} : EJ X cl vs0 Wx (.Constant (.bool i) j pos) (xC (.bl i)) := ej_c pe_bl fun _ _ => by simp only [Rp]
theorem ej_str {i : Str} {j pos} : EJ X cl vs0 Wx (.Constant (.str i) j pos) (xC (.str i)) := ej_c pe_str fun _ _ => by simp only [Rp]
theorem ej_non {j pos} : EJ X cl vs0 Wx (.Constant .none j pos) (xC .non) := ej_c pe_non fun _ _ => by simp only [Rp]
/-- a module's int -/
theorem ej_globI {x : Str} {i : Int} {t : Tok} {pos : Pos} (hg : Gl X x) (hm : X.mg x = some (.int i t)) (hd : (x == ("__debug__" : Str)) = false := by decide) : EJ X cl vs0 Wx (.Name x pos) (xC (.int i)) :=
  ej_c (pe_glob (v := .int i) hg hm ⟨t, rfl⟩ hd) fun _ _ => by simp only [Rp]
/-- a name, for good: a list of one's own is given up -/
def xVar (i : Nat) : Sx := fun ρ => match ρ[i]? with
  | some (.sh d) => .ok (.sh d, ρ)
  | some (.own xs) => .ok (.sh (.lst xs), ρ.set i (.sh (.lst xs)))
  | some (.byr xs) => .ok (.sh (.lst xs), ρ.set i (.sh (.lst xs)))
  | _ => .bad
theorem ej_var {i : Nat} {e : Expr} (h : PE X e (tVar i)) : EJ X cl vs0 Wx e (xVar i) := by
  refine ⟨⟨_, h, fun O W σ H ρ Q sr q => ?_⟩⟩
  unfold xVar at q
  split at q
  · rename_i d e
    obtain ⟨v, e1, r⟩ := sr.get e
    exact ⟨v, e1, q v O W H Stp.refl sr r⟩
  · rename_i xs e
    obtain ⟨a, O', W', e1, st, sr', r⟩ := sr.demote e (.inl rfl)
    exact ⟨_, e1, q (.ref a) O' W' H st sr' r⟩
  · rename_i xs e
    obtain ⟨a, O', W', e1, st, sr', r⟩ := sr.demote e (.inr rfl)
    exact ⟨_, e1, q (.ref a) O' W' H st sr' r⟩
  · exact q.elim
end

/-! ### operands -/
/-- a name that is looked at late, or an expression -/
inductive LOp where
  | va (i : Nat) | ex (f : Sx)
def lookD (ρ : List SD) (i : Nat) : Rs D := match ρ[i]? with
  | some (.sh d) => .ok d
  | some (.own xs) => .ok (.lst xs)
  | some (.byr xs) => .ok (.lst xs)
  | _ => .bad
def ops : List LOp → So
  | [], ρ => .ok ([], ρ)
  | .va i :: r, ρ => (lookD ρ i).bind fun _ => (ops r ρ).bind fun p => (lookD p.2 i).bind fun d => .ok (d :: p.1, p.2)
  | .ex f :: r, ρ => (f ρ).bind fun p => (ops r p.2).bind fun q => .ok (p.1.frz :: q.1, q.2)
def LJ (X : Cx) (cl : Cl) (vs0 : List V) (Wx : WX) (e : Expr) : LOp → Prop
  | .va i => PE X e (tVar i)
  | .ex f => EJ X cl vs0 Wx e f
def tAll : List TE → TA
  | [] => tNil
  | t :: ts => tCons t (tAll ts)
inductive PEs (X : Cx) : List Expr → List TE → Prop where
  | nil : PEs X [] []
  | cons {e : Expr} {t : TE} {es : List Expr} {ts : List TE} : PE X e t → PEs X es ts → PEs X (e :: es) (t :: ts)
structure OJ (X : Cx) (cl : Cl) (vs0 : List V) (Wx : WX) (es : List Expr) (fl : List LOp) : Prop where
  ex : ∃ ts, PEs X es ts ∧ PA X es (tAll ts) ∧ ∀ O W σ H ρ R, SR (gx X cl) vs0 O W σ H ρ → AftO (gx X cl) vs0 Wx O W σ H R (ops fl ρ) → tAll ts σ H R
section
variable {X : Cx} {cl : Cl} {vs0 : List V} {Wx : WX}
theorem lookD_sr {G : Gx} {O W : List Addr} {σ : L2.St} {H : Hp} {ρ : List SD} {i : Nat} {d : D} (sr : SR G vs0 O W σ H ρ) (h : lookD ρ i = .ok d) : ∃ v, σ[i]? = some (some v) ∧ Op1 G O W H d v := by
  unfold lookD at h
  split at h
  · rename_i d' e
    cases h
    obtain ⟨v, e1, r⟩ := sr.get e
    exact ⟨v, e1, .inl r⟩
  · rename_i xs e
    cases h
    obtain ⟨a, e1, o⟩ := sr.getOwn e (.inl rfl)
    exact ⟨_, e1, .inr ⟨a, xs, rfl, rfl, o⟩⟩
  · rename_i xs e
    cases h
    obtain ⟨a, e1, o⟩ := sr.getOwn e (.inr rfl)
    exact ⟨_, e1, .inr ⟨a, xs, rfl, rfl, o⟩⟩
  · cases h
theorem tVar_at {i : Nat} {σ : L2.St} {H : Hp} {Q : VK} {v : V} (h : σ[i]? = some (some v)) (q : Q v H) : tVar i σ H Q := ⟨v, h, q⟩
theorem lookD_noexc {ρ : List SD} {i : Nat} {c : Str} {fs : List (Str × D)} {ρ' : List SD} : lookD ρ i ≠ .exc c fs ρ' := by
  unfold lookD
  split <;> exact fun z => nomatch z
theorem oj_nil : OJ X cl vs0 Wx [] [] := ⟨⟨[], .nil, pa_nil, fun O W σ H ρ R sr h => h [] O W H Stp.refl sr rfl⟩⟩
theorem oj_cons {e : Expr} {es : List Expr} {o : LOp} {fl : List LOp} (h : LJ X cl vs0 Wx e o) (hr : OJ X cl vs0 Wx es fl) (hs : starEach (e :: es) X.env = (false, eval e X.env) :: starEach es X.env := by rfl) : OJ X cl vs0 Wx (e :: es) (o :: fl) := by
  obtain ⟨ts, p1, p2, p3⟩ := hr.ex
  cases o with
  | va i =>
    refine ⟨⟨tVar i :: ts, .cons h p1, pa_cons h p2 hs, fun O W σ H ρ R sr hw => ?_⟩⟩
    have hw' : AftO (gx X cl) vs0 Wx O W σ H R ((lookD ρ i).bind fun _ => (ops fl ρ).bind fun p => (lookD p.2 i).bind fun d => .ok (d :: p.1, p.2)) := hw
    cases e0 : lookD ρ i with
    | bad => rw [e0] at hw'; exact hw'.elim
    | exc c fs ρ' => exact absurd e0 lookD_noexc
    | ok d0 =>
      rw [e0] at hw'
      obtain ⟨v, ev, _⟩ := lookD_sr sr e0
      refine ⟨v, ev, p3 O W σ H ρ _ sr ?_⟩
      have hw2 : AftO (gx X cl) vs0 Wx O W σ H R ((ops fl ρ).bind fun p => (lookD p.2 i).bind fun d => .ok (d :: p.1, p.2)) := hw'
      cases e1 : ops fl ρ with
      | bad => rw [e1] at hw2; exact hw2
      | exc c fs ρ' => rw [e1] at hw2; exact hw2
      | ok p =>
        obtain ⟨ds, ρ1⟩ := p
        rw [e1] at hw2
        have hw3 : AftO (gx X cl) vs0 Wx O W σ H R ((lookD ρ1 i).bind fun d => .ok (d :: ds, ρ1)) := hw2
        intro vs O' W' H' st sr' ho
        cases e2 : lookD ρ1 i with
        | bad => rw [e2] at hw3; exact hw3.elim
        | exc c fs ρ' => exact absurd e2 lookD_noexc
        | ok d =>
          rw [e2] at hw3
          obtain ⟨v', ev', r'⟩ := lookD_sr sr' e2
          rw [ev] at ev'; cases ev'
          exact hw3 (v :: vs) O' W' H' st sr' ⟨v, vs, rfl, r', ho⟩
  | ex f =>
    obtain ⟨t, q1, q2⟩ := h.ex
    refine ⟨⟨t :: ts, .cons q1 p1, pa_cons q1 p2 hs, fun O W σ H ρ R sr hw => ?_⟩⟩
    have hw' : AftO (gx X cl) vs0 Wx O W σ H R ((f ρ).bind fun p => (ops fl p.2).bind fun q => .ok (p.1.frz :: q.1, q.2)) := hw
    refine q2 O W σ H ρ _ sr ?_
    cases e0 : f ρ with
    | bad => rw [e0] at hw'; exact hw'
    | exc c fs ρ' => rw [e0] at hw'; exact hw'
    | ok p =>
      obtain ⟨r, ρ1⟩ := p
      rw [e0] at hw'
      have hw2 : AftO (gx X cl) vs0 Wx O W σ H R ((ops fl ρ1).bind fun q => .ok (r.frz :: q.1, q.2)) := hw'
      intro v O1 W1 H1 st1 sr1 rr
      obtain ⟨O2, W2, st2, sr2, rp⟩ := rr.frz sr1
      have st12 := st1.trans sr.wf st2
      refine p3 O2 W2 σ H1 ρ1 _ sr2 ?_
      cases e1 : ops fl ρ1 with
      | bad => rw [e1] at hw2; exact hw2
      | exc c fs ρ' => rw [e1] at hw2; exact ExcA.back sr.wf st12 hw2
      | ok q =>
        obtain ⟨ds, ρ2⟩ := q
        rw [e1] at hw2
        intro vs O' W' H' st sr' ho
        exact hw2 (v :: vs) O' W' H' (st12.trans sr.wf st) sr' ⟨v, vs, rfl, .inl (rp.step sr2.wf st), ho⟩
end
end Wm
end

section
/-! Operations on data: operators, comparisons, tests, displays, subscripts, slices, built-ins. -/
namespace Wm
open PySem PySem.Spec PyProof.Rows L2

/-- behind an operation: the heap grew at most -/
def AftP (G : Gx) (O : List Addr) (H : Hp) (Q : VK) : Rs SD → Prop
  | .ok (.sh d) => ∀ v H', Same H H' → Rp G O H' d v → Q v H'
  | .ok (.own xs) => ∀ a vs H', Same H H' → H a = none → H' a = some (.lst vs) → vs.length ≤ sizeLine → RpA G O H xs vs → Q (.ref a) H'
  | _ => False
def PrimR (X : Cx) (cl : Cl) (rd : List V → Hp → VK → Prop) (p : List D → Rs SD) : Prop :=
  ∀ O W H ds vs Q, Wf O W H → OpA (gx X cl) O W H ds vs → AftP (gx X cl) O H Q (p ds) → rd vs H Q
def Rs.fin (ρ : List SD) : Rs SD → Rs (SD × List SD)
  | .ok (.sh d) => .ok (.sh d, ρ)
  | .ok (.own xs) => .ok (.own xs, ρ)
  | _ => .bad
def xPrim (fl : List LOp) (p : List D → Rs SD) : Sx := fun ρ => (ops fl ρ).bind fun q => (p q.1).fin q.2
section
variable {X : Cx} {cl : Cl} {vs0 : List V} {Wx : WX}
theorem prim_core {ts : List TE} {fl : List LOp} {p : List D → Rs SD} {rd : List V → Hp → VK → Prop} (hr : PrimR X cl rd p)
    (h : ∀ O W σ H ρ R, SR (gx X cl) vs0 O W σ H ρ → AftO (gx X cl) vs0 Wx O W σ H R (ops fl ρ) → tAll ts σ H R) :
    ∀ O W σ H ρ Q, SR (gx X cl) vs0 O W σ H ρ → AftE (gx X cl) vs0 Wx O W σ H Q (xPrim fl p ρ) → tAll ts σ H fun vs H1 => rd vs H1 Q := by
  intro O W σ H ρ Q sr hw
  refine h O W σ H ρ _ sr ?_
  unfold xPrim at hw
  cases e : ops fl ρ with
  | bad => rw [e] at hw; exact hw
  | exc c fs ρ' => rw [e] at hw; exact hw
  | ok q =>
    obtain ⟨ds, ρ1⟩ := q
    rw [e] at hw
    have hw2 : AftE (gx X cl) vs0 Wx O W σ H Q ((p ds).fin ρ1) := hw
    intro vs O' W' H' st sr' ho
    refine hr O' W' H' ds vs Q sr'.wf ho ?_
    cases e2 : p ds with
    | bad => rw [e2] at hw2; exact hw2
    | exc c fs ρ' => rw [e2] at hw2; exact hw2
    | ok r =>
      rw [e2] at hw2
      cases r with
      | no => exact hw2
      | byr xs => exact hw2
      | xn _ _ => exact hw2
      | gv => exact hw2
      | sh d => exact fun v H2 sm rp => hw2 v O' W' H2 (st.trans sr.wf (Stp.same sm)) (sr'.same sm) rp
      | own xs =>
        intro a vs' H2 sm n n2 hl ra
        refine hw2 (.ref a) (a :: O') (a :: W') H2 (st.trans sr.wf (Stp.new sm n)) (sr'.new sm n (noD_not n2)) ⟨a, rfl, ⟨List.mem_cons_self, vs', n2, hl, ra.step sr'.wf (Stp.new sm n)⟩, fun i s e m z => ?_⟩
        have : ∃ xs, s = .own xs ∨ s = .byr xs := by
          cases s with
          | own xs => exact ⟨xs, .inl rfl⟩
          | byr xs => exact ⟨xs, .inr rfl⟩
          | xn _ _ => cases m
          | gv => cases m
          | no => cases m
          | sh d => cases m
        obtain ⟨ys, hs⟩ := this
        obtain ⟨b, eb, ob⟩ := sr'.getOwn e hs
        rw [eb] at z; cases z
        exact sr'.wf.trk _ (sr'.wf.sub _ ob.1) (noD_none n)

/-! ### operands by kind -/
variable {G : Gx} {O W : List Addr} {H H' : Hp} {ds : List D} {vs : List V} {d e : D} {v : V}
theorem RpA.length : ∀ {ds : List D} {vs : List V}, RpA G O H ds vs → ds.length = vs.length
  | [], vs, h => by simp only [RpA] at h; rw [h]; rfl
  | d :: ds, vs, h => by
    simp only [RpA] at h
    obtain ⟨v, r, e, _, h2⟩ := h
    rw [e, List.length_cons, List.length_cons, RpA.length h2]
theorem RpA.append : ∀ {ds es : List D} {vs ws : List V}, RpA G O H ds vs → RpA G O H es ws → RpA G O H (ds ++ es) (vs ++ ws)
  | [], es, vs, ws, h, q => by simp only [RpA] at h; rw [h]; exact q
  | d :: ds, es, vs, ws, h, q => by
    simp only [RpA] at h
    obtain ⟨v, r, e, h1, h2⟩ := h
    rw [e]
    show RpA G O H (d :: (ds ++ es)) (v :: (r ++ ws))
    simp only [RpA]
    exact ⟨v, _, rfl, h1, RpA.append h2 q⟩
theorem RpA.getV : ∀ {ds : List D} {vs : List V} {i : Nat} {v : V}, RpA G O H ds vs → vs[i]? = some v → ∃ d, ds[i]? = some d ∧ Rp G O H d v
  | [], vs, i, v, h, q => by simp only [RpA] at h; rw [h] at q; cases i <;> cases q
  | d :: ds, vs, i, v, h, q => by
    simp only [RpA] at h
    obtain ⟨w, r, e, h1, h2⟩ := h
    rw [e] at q
    cases i with
    | zero => cases q; exact ⟨d, rfl, h1⟩
    | succ i => exact RpA.getV (ds := ds) (i := i) h2 q
theorem RpA.getD : ∀ {ds : List D} {vs : List V} {i : Nat} {d : D}, RpA G O H ds vs → ds[i]? = some d → ∃ v, vs[i]? = some v ∧ Rp G O H d v
  | [], vs, i, d, h, q => by cases i <;> cases q
  | d' :: ds, vs, i, d, h, q => by
    simp only [RpA] at h
    obtain ⟨w, r, e, h1, h2⟩ := h
    rw [e]
    cases i with
    | zero => cases q; exact ⟨w, rfl, h1⟩
    | succ i => exact RpA.getD (ds := ds) (i := i) h2 q
theorem RpA.drop : ∀ {ds : List D} {vs : List V} (n : Nat), RpA G O H ds vs → RpA G O H (ds.drop n) (vs.drop n)
  | ds, vs, 0, h => h
  | [], vs, n + 1, h => by simp only [RpA] at h; rw [h]; simp only [List.drop_nil, RpA]
  | d :: ds, vs, n + 1, h => by
    simp only [RpA] at h
    obtain ⟨w, r, e, h1, h2⟩ := h
    rw [e]
    exact RpA.drop n h2
theorem RpA.take : ∀ {ds : List D} {vs : List V} (n : Nat), RpA G O H ds vs → RpA G O H (ds.take n) (vs.take n)
  | ds, vs, 0, h => by simp only [List.take_zero, RpA]
  | [], vs, n + 1, h => by simp only [RpA] at h; rw [h]; simp only [List.take_nil, RpA]
  | d :: ds, vs, n + 1, h => by
    simp only [RpA] at h
    obtain ⟨w, r, e, h1, h2⟩ := h
    rw [e]
    show RpA G O H (d :: ds.take n) (w :: r.take n)
    simp only [RpA]
    exact ⟨w, _, rfl, h1, RpA.take n h2⟩
theorem RpA.rep {ds : List D} {vs : List V} (h : RpA G O H ds vs) : ∀ n : Nat, RpA G O H (List.replicate n ds).flatten (List.replicate n vs).flatten
  | 0 => by simp only [List.replicate_zero, List.flatten_nil, RpA]
  | n + 1 => by
    rw [List.replicate_succ, List.replicate_succ, List.flatten_cons, List.flatten_cons]
    exact h.append (RpA.rep h n)
theorem RpA.ints : ∀ {ns : List Int} {vs : List V}, RpA G O H (ns.map D.int) vs → vs = ns.map V.int
  | [], vs, h => by simpa only [List.map_nil, RpA] using h
  | n :: ns, vs, h => by
    simp only [List.map_cons, RpA, Rp] at h
    obtain ⟨v, r, e, h1, h2⟩ := h
    rw [e, h1, RpA.ints h2]; rfl
theorem RpA.bls : ∀ {ns : List Bool} {vs : List V}, RpA G O H (ns.map D.bl) vs → vs = ns.map V.bl
  | [], vs, h => by simpa only [List.map_nil, RpA] using h
  | n :: ns, vs, h => by
    simp only [List.map_cons, RpA, Rp] at h
    obtain ⟨v, r, e, h1, h2⟩ := h
    rw [e, h1, RpA.bls h2]; rfl
theorem Op1.int {i : Int} (h : Op1 G O W H (.int i) v) : v = .int i := by
  rcases h with h | ⟨_, _, h, _⟩
  · simpa only [Rp] using h
  · cases h
theorem Op1.bl {i : Bool} (h : Op1 G O W H (.bl i) v) : v = .bl i := by
  rcases h with h | ⟨_, _, h, _⟩
  · simpa only [Rp] using h
  · cases h
theorem Op1.str {i : Str} (h : Op1 G O W H (.str i) v) : v = .str i := by
  rcases h with h | ⟨_, _, h, _⟩
  · simpa only [Rp] using h
  · cases h
theorem Op1.non (h : Op1 G O W H .non v) : v = .non := by
  rcases h with h | ⟨_, _, h, _⟩
  · simpa only [Rp] using h
  · cases h
theorem Op1.tup (h : Op1 G O W H (.tup ds) v) : ∃ a vs, v = .ref a ∧ TO G.K O H a vs ∧ RpA G O H ds vs := by
  rcases h with h | ⟨_, _, h, _⟩
  · simpa only [Rp] using h
  · cases h
theorem Op1.lst (h : Op1 G O W H (.lst ds) v) : ∃ a vs, v = .ref a ∧ H a = some (.lst vs) ∧ vs.length ≤ sizeLine ∧ RpA G O H ds vs := by
  rcases h with h | ⟨a, _, h, e, _, vs, h2, h3, h4⟩
  · simp only [Rp] at h
    obtain ⟨a, vs, e, t, r⟩ := h
    exact ⟨a, vs, e, t.2.1, t.1, r⟩
  · cases h
    exact ⟨a, vs, e, h2, h3, h4⟩
theorem Op1.scr {ns : List Int} (h : Op1 G O W H (.scr ns) v) : ∃ a, v = .ref a ∧ ScO G.K O H a (ns.map V.int) := by
  rcases h with h | ⟨_, _, h, _⟩
  · simpa only [Rp] using h
  · cases h
theorem RpA.ofInts : ∀ {ns : List Int}, RpA G O H (ns.map D.int) (ns.map V.int)
  | [] => by simp only [List.map_nil, RpA]
  | n :: ns => by
    simp only [List.map_cons, RpA, Rp]
    exact ⟨_, _, rfl, rfl, RpA.ofInts⟩
theorem OpA.one (h : OpA G O W H [d] vs) : ∃ v, vs = [v] ∧ Op1 G O W H d v := by
  obtain ⟨v, r, e, h1, h2⟩ := h
  have h2 : r = [] := h2
  subst h2
  exact ⟨v, e, h1⟩
theorem OpA.two (h : OpA G O W H [d, e] vs) : ∃ v w, vs = [v, w] ∧ Op1 G O W H d v ∧ Op1 G O W H e w := by
  obtain ⟨v, r, ev, h1, h2⟩ := h
  obtain ⟨w, ew, h3⟩ := OpA.one h2
  subst ew
  exact ⟨v, w, ev, h1, h3⟩
/-- a new tuple -/
theorem rp_tup {p : Addr} (w : Wf O W H) (n : H p = none) (hl : vs.length ≤ sizeLine) (h : RpA G O H ds vs) : Rp G O (upd H p (.tup vs)) (.tup ds) (.ref p) := by
  simp only [Rp]
  refine ⟨p, vs, rfl, ⟨hl, .inl ⟨.inl upd_same, fun z => w.trk p z (noD_none n)⟩⟩, h.step w (Stp.same fun b o e => ?_)⟩
  rw [upd_ne (ne_of_none e n)]
  exact e
theorem same_upd {p : Addr} {o : HO} (n : H p = none) : Same H (upd H p o) := fun b x e => by
  rw [upd_ne (ne_of_none e n)]
  exact e
end

/-! ### operators -/
def rd1 (r : V → Hp → VK → Prop) : List V → Hp → VK → Prop := fun vs H Q => match vs with
  | [x] => r x H Q
  | _ => False
def rd2 (r : R2) : List V → Hp → VK → Prop := fun vs H Q => match vs with
  | [x, y] => r x y H Q
  | _ => False
section
variable {X : Cx} {cl : Cl} {vs0 : List V} {Wx : WX}
theorem two_of {a b : Expr} {fl : List LOp} (h : OJ X cl vs0 Wx [a, b] fl) : ∃ ta tb, PE X a ta ∧ PE X b tb ∧ ∀ O W σ H ρ R, SR (gx X cl) vs0 O W σ H ρ → AftO (gx X cl) vs0 Wx O W σ H R (ops fl ρ) → tAll [ta, tb] σ H R := by
  obtain ⟨ts, p, _, q⟩ := h.ex
  cases p with
  | cons p1 p =>
    cases p with
    | cons p2 p =>
      cases p
      exact ⟨_, _, p1, p2, q⟩
theorem one_of {a : Expr} {fl : List LOp} (h : OJ X cl vs0 Wx [a] fl) : ∃ ta, PE X a ta ∧ ∀ O W σ H ρ R, SR (gx X cl) vs0 O W σ H ρ → AftO (gx X cl) vs0 Wx O W σ H R (ops fl ρ) → tAll [ta] σ H R := by
  obtain ⟨ts, p, _, q⟩ := h.ex
  cases p with
  | cons p1 p =>
    cases p
    exact ⟨_, p1, q⟩
theorem ej_bin {op : Operator} {a b : Expr} {pos : Pos} {r : R2} {fl : List LOp} {p : List D → Rs SD} (ho : OpR X (binaryOp op) r) (hp : PrimR X cl (rd2 r) p) (h : OJ X cl vs0 Wx [a, b] fl) : EJ X cl vs0 Wx (.BinOp a op b pos) (xPrim fl p) := by
  obtain ⟨ta, tb, ha, hb, q⟩ := two_of h
  exact ⟨⟨_, pe_op ho ha hb, prim_core hp q⟩⟩
theorem ej_un {op : UnaryOp} {a : Expr} {pos : Pos} {r : V → Hp → VK → Prop} {fl : List LOp} {p : List D → Rs SD} (ho : UnR X (unaryOp op) r) (hp : PrimR X cl (rd1 r) p) (h : OJ X cl vs0 Wx [a] fl) : EJ X cl vs0 Wx (.UnaryOp op a pos) (xPrim fl p) := by
  obtain ⟨ta, ha, q⟩ := one_of h
  exact ⟨⟨_, pe_un ho ha, prim_core hp q⟩⟩
theorem ej_cmp {op : CmpOp} {a b : Expr} {pos : Pos} {r : R2} {fl : List LOp} {p : List D → Rs SD} (ho : OpR X (compareOp op) r) (hp : PrimR X cl (rd2 r) p) (h : OJ X cl vs0 Wx [a, b] fl) (hm : behindInMarks op b = false) : EJ X cl vs0 Wx (.Compare a [op] [b] pos) (xPrim fl p) := by
  obtain ⟨ta, tb, ha, hb, q⟩ := two_of h
  exact ⟨⟨_, pe_cmpR ho ha hb hm, prim_core hp q⟩⟩
theorem ej_ix {a b : Expr} {pos : Pos} {r : R2} {fl : List LOp} {p : List D → Rs SD} (ho : IxR X r) (hp : PrimR X cl (rd2 r) p) (h : OJ X cl vs0 Wx [a, b] fl) (hs : PlainIx b) : EJ X cl vs0 Wx (.Subscript a b pos) (xPrim fl p) := by
  obtain ⟨ta, tb, ha, hb, q⟩ := two_of h
  exact ⟨⟨_, pe_ix ho ha hb hs, prim_core hp q⟩⟩

def pAdd : List D → Rs SD
  | [.int i, .int j] => .ok (.sh (.int (i + j)))
  | [.tup xs, .tup ys] => if xs.length + ys.length ≤ sizeLine then .ok (.sh (.tup (xs ++ ys))) else .bad
  | [.lst xs, .lst ys] => if xs.length + ys.length ≤ sizeLine then .ok (.own (xs ++ ys)) else .bad
  | [.scr ns, .lst ys] => if ns.length + ys.length ≤ sizeLine then .ok (.own (ns.map .int ++ ys)) else .bad
  | _ => .bad
/-- the script and a list -/
def rCatC (K : PySem.W.Frag) : R2 := fun x y H Q => ∃ l b xs zs, x = .ref l ∧ y = .ref b ∧ SqL K H l xs ∧ H b = some (.lst zs) ∧ xs.length + zs.length ≤ sizeLine ∧ ∀ p, H p = none → Q (.ref p) (upd H p (.lst (xs ++ zs)))
theorem list_addW (l : Addr) (items : Array Value) (n : Nat) (dd : Option Addr) (sl : Array (Option Value)) (b : Addr) (items2 : Array Value) (n2 : Nat) (hsz : items.size + items2.size ≤ sizeLine) :
    Meets (Builtin.«list.__add__» ⟨[.ref l, .ref b], []⟩) (fun _ R s => s.heap.get? l = some { cls := .type "list", dict := dd, data := .seq items n, slots := sl } ∧ s.heap.get? b = some { cls := .type "list", data := .seq items2 n2 } ∧
      R (.ok (.ret (Value.ref s.heap.objs.size))) { s with heap := s.heap.push { cls := Value.type "list", data := Data.seq (items ++ items2) } }) :=
  .of_wp fun prog w A R s h => by
    obtain ⟨hp, g, d, tk, os⟩ := s
    obtain ⟨hl, hb, h⟩ := h
    have ff := AutoSeq1.sub_list_list
    wp_walk using wpAny_loadPart' hl, wpAny_loadPart' hb
    exact ⟨_, rfl, h⟩
theorem op_catC : OpR X (binaryOp .Add) (rCatC X.K) := by
  intro pins s σ H x y v u Q I rx ry h
  obtain ⟨l, b, xs, zs, rfl, rfl, hH, hB, hz, q⟩ := h
  cases rx
  cases ry
  obtain ⟨its, r, ⟨⟨oc, od, odt, osl⟩, n, e, hc, hd, hs⟩, _⟩ := I.list hH
  obtain ⟨z2, its2, n2, r2, hl2, e2⟩ := I.lstM hB
  have hl := r.length
  simp only at hc hd hs
  subst hc hd hs
  refine concat_meets ⟨_, e, rfl⟩ ⟨_, e2, rfl⟩ noFill_list_add seq_list_add F.slot_list_add F.entry_list_add (F.args_list_add_2 _ _)
    (list_addW l its.toArray n none osl b its2.toArray n2 (by rw [List.size_toArray, List.size_toArray]; omega)) ⟨e, e2, ?_⟩
  rw [show its.toArray ++ its2.toArray = (its ++ its2).toArray by simp]
  exact ⟨.ref _, _, I.lnew (t' := s.toks) (r.append r2) (by rw [List.length_append]; omega), rfl, q _ I.fresh⟩
theorem op_addD : OpR X (binaryOp .Add) (fun x y H Q => rI0 (fun i j => .int (i + j)) x y H Q ∨ rCatA X.K x y H Q ∨ rCat x y H Q ∨ rCatC X.K x y H Q) := op_add.or (op_catA.or (op_cat.or op_catC))
theorem pr_add : PrimR X cl (rd2 fun x y H Q => rI0 (fun i j => .int (i + j)) x y H Q ∨ rCatA X.K x y H Q ∨ rCat x y H Q ∨ rCatC X.K x y H Q) pAdd := by
  intro O W H ds vs Q w ho hp
  unfold pAdd at hp
  split at hp
  · obtain ⟨x, y, rfl, h1, h2⟩ := ho.two
    exact .inl ⟨_, _, h1.int, h2.int, hp _ H (Same.refl H) (by simp only [Rp])⟩
  · obtain ⟨x, y, rfl, h1, h2⟩ := ho.two
    split at hp
    · rename_i hz
      obtain ⟨a, xs, e1, t1, r1⟩ := h1.tup
      obtain ⟨b, ys, e2, t2, r2⟩ := h2.tup
      have l1 := r1.length
      have l2 := r2.length
      have hz' : xs.length + ys.length ≤ sizeLine := by omega
      refine .inr (.inl ⟨a, b, xs, ys, e1, e2, t1.sq, t2.sq, hz', fun z => ?_, fun _ z => ?_, fun _ _ p n => ?_⟩)
      · subst z
        refine hp _ H (Same.refl H) ?_
        have : (_ : List D) = [] := List.eq_nil_of_length_eq_zero l1
        rw [this, List.nil_append]
        simp only [Rp]
        exact ⟨b, ys, rfl, t2, r2⟩
      · subst z
        refine hp _ H (Same.refl H) ?_
        have : (_ : List D) = [] := List.eq_nil_of_length_eq_zero l2
        rw [this, List.append_nil]
        simp only [Rp]
        exact ⟨a, xs, rfl, t1, r1⟩
      · exact hp _ _ (same_upd n) (rp_tup w n (by rw [List.length_append]; exact hz') (r1.append r2))
    · exact hp.elim
  · obtain ⟨x, y, rfl, h1, h2⟩ := ho.two
    split at hp
    · rename_i hz
      obtain ⟨a, xs, e1, t1, z1, r1⟩ := h1.lst
      obtain ⟨b, ys, e2, t2, z2, r2⟩ := h2.lst
      have l1 := r1.length
      have l2 := r2.length
      have hz' : xs.length + ys.length ≤ sizeLine := by omega
      exact .inr (.inr (.inl ⟨a, b, xs, ys, e1, e2, t1, t2, hz', fun p n => hp p _ _ (same_upd n) n upd_same (by rw [List.length_append]; exact hz') (r1.append r2)⟩))
    · exact hp.elim
  · obtain ⟨x, y, rfl, h1, h2⟩ := ho.two
    split at hp
    · rename_i ns es hz
      obtain ⟨a, e1, t1⟩ := h1.scr
      obtain ⟨b, ys, e2, t2, z2, r2⟩ := h2.lst
      have l2 := r2.length
      have hz' : (ns.map V.int).length + ys.length ≤ sizeLine := by rw [List.length_map]; omega
      exact .inr (.inr (.inr ⟨a, b, _, ys, e1, e2, t1.sq, t2, hz', fun p n => hp p _ _ (same_upd n) n upd_same (by rw [List.length_append]; exact hz') (RpA.append RpA.ofInts r2)⟩))
    · exact hp.elim
  · exact hp.elim
theorem ej_add {a b : Expr} {pos : Pos} {fl : List LOp} (h : OJ X cl vs0 Wx [a, b] fl) : EJ X cl vs0 Wx (.BinOp a .Add b pos) (xPrim fl pAdd) := ej_bin op_addD pr_add h
end
end Wm
end

section
/-! More operations on data. -/
namespace Wm
open PySem PySem.Spec PyProof.Rows L2

/-! ### data compared -/
mutual
def eqD : D → D → Bool
  | .non, .non => true
  | .bl a, .bl b => a == b
  | .bl a, .int j => (if a then 1 else 0) == j
  | .int i, .bl b => i == (if b then 1 else 0)
  | .int i, .int j => i == j
  | .str x, .str y => x == y
  | .lst xs, .lst ys => eqDs xs ys
  | .tup xs, .tup ys => eqDs xs ys
  | _, _ => false
def eqDs : List D → List D → Bool
  | [], [] => true
  | x :: xs, y :: ys => eqD x y && eqDs xs ys
  | _, _ => false
end
mutual
def okN : Nat → D → Bool
  | _, .non => true
  | _, .bl _ => true
  | _, .int _ => true
  | _, .str x => PyData.strOk x
  | n + 1, .tup xs => okNs n xs
  | n + 1, .lst xs => okNs n xs
  | _, _ => false
def okNs : Nat → List D → Bool
  | _, [] => true
  | n, x :: xs => okN n x && okNs n xs
end
mutual
def D.py : D → PyData
  | .non => .none
  | .bl b => .bool b
  | .int i => .int i
  | .str x => .str x
  | .tup xs => .tuple (pys xs)
  | .lst xs => .list (pys xs)
  | .ins _ _ => .none
  | .scr _ => .none
  | .emp => .none
def pys : List D → List PyData
  | [] => []
  | x :: xs => x.py :: pys xs
end
mutual
theorem okN_lay : ∀ {n : Nat} {d : D}, okN n d = true → d.py.canLay0 = true ∧ d.py.depth ≤ n
  | n, .non, _ => by simp [D.py, PyData.canLay0, PyData.depth]
  | n, .bl _, _ => by simp [D.py, PyData.canLay0, PyData.depth]
  | n, .int _, _ => by simp [D.py, PyData.canLay0, PyData.depth]
  | n, .str x, h => by simp only [okN] at h; simp [D.py, PyData.canLay0, PyData.depth, h]
  | 0, .tup xs, h => by simp [okN] at h
  | 0, .lst xs, h => by simp [okN] at h
  | n + 1, .tup xs, h => by
    simp only [okN] at h
    have := okNs_lay h
    simp only [D.py, PyData.canLay0, PyData.depth]
    exact ⟨this.1, Nat.succ_le_succ this.2⟩
  | n + 1, .lst xs, h => by
    simp only [okN] at h
    have := okNs_lay h
    simp only [D.py, PyData.canLay0, PyData.depth]
    exact ⟨this.1, Nat.succ_le_succ this.2⟩
  | n, .ins _ _, h => by cases n <;> simp [okN] at h
  | n, .scr _, h => by cases n <;> simp [okN] at h
theorem okNs_lay : ∀ {n : Nat} {ds : List D}, okNs n ds = true → PyData.canLayAll0 (pys ds) = true ∧ PyData.depthAll (pys ds) ≤ n
  | n, [], _ => by simp [pys, PyData.canLayAll0, PyData.depthAll]
  | n, d :: ds, h => by
    simp only [okNs, Bool.and_eq_true] at h
    have h1 := okN_lay h.1
    have h2 := okNs_lay h.2
    simp only [pys, PyData.canLayAll0, PyData.depthAll, Bool.and_eq_true]
    exact ⟨⟨h1.1, h2.1⟩, Nat.max_le.mpr ⟨h1.2, h2.2⟩⟩
end
mutual
theorem eqD_py : ∀ {n m : Nat} {d e : D}, okN n d = true → okN m e = true → PyData.eqv d.py e.py = eqD d e
  | n, m, d, .ins _ _, _, h => by cases m <;> simp [okN] at h
  | n, m, .ins _ _, e, h, _ => by cases n <;> simp [okN] at h
  | n, m, d, .scr _, _, h => by cases m <;> simp [okN] at h
  | n, m, .scr _, e, h, _ => by cases n <;> simp [okN] at h
  | n, m, .non, .non, _, _ | n, m, .non, .bl _, _, _ | n, m, .non, .int _, _, _ | n, m, .non, .str _, _, _ | n, m, .non, .tup _, _, _ | n, m, .non, .lst _, _, _ => by simp [D.py, PyData.eqv, eqD]
  | n, m, .bl _, .non, _, _ | n, m, .bl _, .bl _, _, _ | n, m, .bl _, .int _, _, _ | n, m, .bl _, .str _, _, _ | n, m, .bl _, .tup _, _, _ | n, m, .bl _, .lst _, _, _ => by simp [D.py, PyData.eqv, eqD]
  | n, m, .int _, .non, _, _ | n, m, .int _, .bl _, _, _ | n, m, .int _, .int _, _, _ | n, m, .int _, .str _, _, _ | n, m, .int _, .tup _, _, _ | n, m, .int _, .lst _, _, _ => by simp [D.py, PyData.eqv, eqD]
  | n, m, .str _, .non, _, _ | n, m, .str _, .bl _, _, _ | n, m, .str _, .int _, _, _ | n, m, .str _, .str _, _, _ | n, m, .str _, .tup _, _, _ | n, m, .str _, .lst _, _, _ => by simp [D.py, PyData.eqv, eqD]
  | n, m, .tup _, .non, _, _ | n, m, .tup _, .bl _, _, _ | n, m, .tup _, .int _, _, _ | n, m, .tup _, .str _, _, _ | n, m, .tup _, .lst _, _, _ => by simp [D.py, PyData.eqv, eqD]
  | n, m, .lst _, .non, _, _ | n, m, .lst _, .bl _, _, _ | n, m, .lst _, .int _, _, _ | n, m, .lst _, .str _, _, _ | n, m, .lst _, .tup _, _, _ => by simp [D.py, PyData.eqv, eqD]
  | 0, m, .tup xs, .tup ys, h, _ => by simp [okN] at h
  | n + 1, 0, .tup xs, .tup ys, _, h => by simp [okN] at h
  | 0, m, .lst xs, .lst ys, h, _ => by simp [okN] at h
  | n + 1, 0, .lst xs, .lst ys, _, h => by simp [okN] at h
  | n + 1, m + 1, .tup xs, .tup ys, h, h' => by
    simp only [okN] at h h'
    simp only [D.py, PyData.eqv, eqD]
    exact eqDs_py h h'
  | n + 1, m + 1, .lst xs, .lst ys, h, h' => by
    simp only [okN] at h h'
    simp only [D.py, PyData.eqv, eqD]
    exact eqDs_py h h'
theorem eqDs_py : ∀ {n m : Nat} {ds es : List D}, okNs n ds = true → okNs m es = true → PyData.eqvAll (pys ds) (pys es) = eqDs ds es
  | n, m, [], [], _, _ => by simp [pys, PyData.eqvAll, eqDs]
  | n, m, [], _ :: _, _, _ => by simp [pys, PyData.eqvAll, eqDs]
  | n, m, _ :: _, [], _, _ => by simp [pys, PyData.eqvAll, eqDs]
  | n, m, d :: ds, e :: es, h, h' => by
    simp only [okNs, Bool.and_eq_true] at h h'
    simp only [pys, PyData.eqvAll, eqDs, eqD_py h.1 h'.1, eqDs_py h.2 h'.2]
end
section
variable {G : Gx} {O W : List Addr} {H : Hp}
mutual
theorem Rp.dp : ∀ {n : Nat} {d : D} {v : V}, okN n d = true → Rp G O H d v → Dp G.K H v d.py
  | n, .non, v, _, h => by simp only [Rp] at h; subst h; simp only [D.py]; exact .non
  | n, .bl b, v, _, h => by simp only [Rp] at h; subst h; simp only [D.py]; exact .bl b
  | n, .int b, v, _, h => by simp only [Rp] at h; subst h; simp only [D.py]; exact .int b
  | n, .str b, v, _, h => by simp only [Rp] at h; subst h; simp only [D.py]; exact .str b
  | 0, .tup ds, v, h, _ => by simp [okN] at h
  | 0, .lst ds, v, h, _ => by simp [okN] at h
  | n + 1, .tup ds, v, h, q => by
    simp only [Rp] at q
    obtain ⟨a, vs, rfl, t, r⟩ := q
    simp only [okN] at h
    simp only [D.py]
    exact .tup t.sq (RpA.dp h r)
  | n + 1, .lst ds, v, h, q => by
    simp only [Rp] at q
    obtain ⟨a, vs, rfl, t, r⟩ := q
    simp only [okN] at h
    simp only [D.py]
    exact .lst t.sq (RpA.dp h r)
  | n, .ins _ _, v, h, _ => by cases n <;> simp [okN] at h
  | n, .scr _, v, h, _ => by cases n <;> simp [okN] at h
theorem RpA.dp : ∀ {n : Nat} {ds : List D} {vs : List V}, okNs n ds = true → RpA G O H ds vs → DpAll G.K H vs (pys ds)
  | n, [], vs, _, h => by simp only [RpA] at h; subst h; simp only [pys]; exact .nil
  | n, d :: ds, vs, h, q => by
    simp only [RpA] at q
    obtain ⟨v, r, rfl, h1, h2⟩ := q
    simp only [okNs, Bool.and_eq_true] at h
    simp only [pys]
    exact .cons (Rp.dp h.1 h1) (RpA.dp h.2 h2)
end
theorem Op1.dp {n : Nat} {d : D} {v : V} (h : okN n d = true) (q : Op1 G O W H d v) : Dp G.K H v d.py := by
  rcases q with q | ⟨a, xs, rfl, rfl, _, vs, h2, h3, h4⟩
  · exact q.dp h
  · cases n with
    | zero => simp [okN] at h
    | succ n =>
      simp only [okN] at h
      simp only [D.py]
      exact .lst (SqL.of h2) (h4.dp h)
end
/-- depth and texts as must be -/
abbrev okD (d : D) : Bool := okN 60 d
theorem okD_shaped {d : D} (h : okD d = true) : SeqAt.shaped d.py = true := by
  have := okN_lay h
  unfold SeqAt.shaped
  rw [this.1, decide_eq_true (show d.py.depth ≤ 64 by omega)]
  rfl
def pEq : List D → Rs SD
  | [x, y] => if okD x && okD y then .ok (.sh (.bl (eqD x y))) else .bad
  | _ => .bad
def pNe : List D → Rs SD
  | [x, y] => if okD x && okD y then .ok (.sh (.bl (!eqD x y))) else .bad
  | _ => .bad
section
variable {X : Cx} {cl : Cl} {vs0 : List V} {Wx : WX}
theorem pr_eq : PrimR X cl (rd2 (rEqD X.K)) pEq := by
  intro O W H ds vs Q w ho hp
  unfold pEq at hp
  split at hp
  · split at hp
    · rename_i hk
      rw [Bool.and_eq_true] at hk
      obtain ⟨x, y, rfl, h1, h2⟩ := ho.two
      refine ⟨_, _, h1.dp hk.1, h2.dp hk.2, okD_shaped hk.1, okD_shaped hk.2, ?_⟩
      rw [eqD_py hk.1 hk.2]
      exact hp _ H (Same.refl H) (by simp only [Rp])
    · exact hp.elim
  · exact hp.elim
theorem pr_ne : PrimR X cl (rd2 (rNeD X.K)) pNe := by
  intro O W H ds vs Q w ho hp
  unfold pNe at hp
  split at hp
  · split at hp
    · rename_i hk
      rw [Bool.and_eq_true] at hk
      obtain ⟨x, y, rfl, h1, h2⟩ := ho.two
      refine ⟨_, _, h1.dp hk.1, h2.dp hk.2, okD_shaped hk.1, okD_shaped hk.2, ?_⟩
      rw [eqD_py hk.1 hk.2]
      exact hp _ H (Same.refl H) (by simp only [Rp])
    · exact hp.elim
  · exact hp.elim

/-! ### ints -/
def pI2 (C : Int → Int → Prop) [∀ i j, Decidable (C i j)] (g : Int → Int → D) : List D → Rs SD
  | [.int i, .int j] => if C i j then .ok (.sh (g i j)) else .bad
  | _ => .bad
theorem pr_I2 {C : Int → Int → Prop} [∀ i j, Decidable (C i j)] {g : Int → Int → D} {gv : Int → Int → V} {r : R2} (hg : ∀ (G : Gx) O H i j, Rp G O H (g i j) (gv i j)) (hr : ∀ x y H Q, rI C gv x y H Q → r x y H Q) : PrimR X cl (rd2 r) (pI2 C g) := by
  intro O W H ds vs Q w ho hp
  unfold pI2 at hp
  split at hp
  · split at hp
    · rename_i hc
      obtain ⟨x, y, rfl, h1, h2⟩ := ho.two
      exact hr _ _ _ _ ⟨_, _, h1.int, h2.int, hc, hp _ H (Same.refl H) (hg _ _ _ _ _)⟩
    · exact hp.elim
  · exact hp.elim
def pI0 (g : Int → Int → D) : List D → Rs SD
  | [.int i, .int j] => .ok (.sh (g i j))
  | _ => .bad
theorem pr_I0 {g : Int → Int → D} {gv : Int → Int → V} (hg : ∀ (G : Gx) O H i j, Rp G O H (g i j) (gv i j)) : PrimR X cl (rd2 (rI0 gv)) (pI0 g) := by
  intro O W H ds vs Q w ho hp
  unfold pI0 at hp
  split at hp
  · obtain ⟨x, y, rfl, h1, h2⟩ := ho.two
    exact ⟨_, _, h1.int, h2.int, hp _ H (Same.refl H) (hg _ _ _ _ _)⟩
  · exact hp.elim
abbrev pSub := pI0 fun i j => .int (i - j)
abbrev pLt := pI0 fun i j => .bl (decide (i < j))
abbrev pLe := pI0 fun i j => .bl (decide (i ≤ j))
abbrev pGt := pI0 fun i j => .bl (decide (j < i))
abbrev pGe := pI0 fun i j => .bl (decide (j ≤ i))
/-- the model asks nothing of these -/
noncomputable instance decMul (i j : Int) : Decidable (IntMulOk i j) := Classical.propDecidable _
def CDv (_ j : Int) : Prop := j ≠ 0 ∧ j.natAbs.log2 < 9000
instance (i j : Int) : Decidable (CDv i j) := by unfold CDv; infer_instance
def CMd (_ j : Int) : Prop := j ≠ 0
instance (i j : Int) : Decidable (CMd i j) := by unfold CMd; infer_instance
abbrev pFdiv := pI2 CDv fun i j => .int (i.fdiv j)
abbrev pMod := pI2 CMd fun i j => .int (i.fmod j)
theorem op_fdivD : OpR X (binaryOp .FloorDiv) (rI CDv fun i j => .int (i.fdiv j)) := opI fun i j _ _ _ _ _ hc q => floordiv_int hc.1 q (.inl (PyProof.noPylong_of_log2 hc.2))
instance (i j : Int) : Decidable (CPow i j) := by unfold CPow; infer_instance
abbrev pPow := pI2 CPow fun i j => .int (i ^ j.toNat)
theorem op_mulI : OpR X (binaryOp .Mult) (rI IntMulOk fun i j => .int (i * j)) := opI fun _ _ _ _ _ _ _ hc q => mul_int q hc
variable {a b : Expr} {pos : Pos} {fl : List LOp}
theorem ej_sub (h : OJ X cl vs0 Wx [a, b] fl) : EJ X cl vs0 Wx (.BinOp a .Sub b pos) (xPrim fl pSub) := ej_bin op_sub (pr_I0 fun _ _ _ _ _ => by simp only [Rp]) h
theorem ej_fdiv (h : OJ X cl vs0 Wx [a, b] fl) : EJ X cl vs0 Wx (.BinOp a .FloorDiv b pos) (xPrim fl pFdiv) := ej_bin op_fdivD (pr_I2 (fun _ _ _ _ _ => by simp only [Rp]) fun _ _ _ _ h => h) h
theorem ej_mod (h : OJ X cl vs0 Wx [a, b] fl) : EJ X cl vs0 Wx (.BinOp a .Mod b pos) (xPrim fl pMod) := ej_bin op_modN (pr_I2 (fun _ _ _ _ _ => by simp only [Rp]) fun _ _ _ _ h => h) h
theorem ej_pow (h : OJ X cl vs0 Wx [a, b] fl) : EJ X cl vs0 Wx (.BinOp a .Pow b pos) (xPrim fl pPow) := ej_bin op_pow (pr_I2 (fun _ _ _ _ _ => by simp only [Rp]) fun _ _ _ _ h => h) h
theorem ej_lt (h : OJ X cl vs0 Wx [a, b] fl) : EJ X cl vs0 Wx (.Compare a [.Lt] [b] pos) (xPrim fl pLt) := ej_cmp op_lt (pr_I0 fun _ _ _ _ _ => by simp only [Rp]) h (nomark _)
theorem ej_le (h : OJ X cl vs0 Wx [a, b] fl) : EJ X cl vs0 Wx (.Compare a [.LtE] [b] pos) (xPrim fl pLe) := ej_cmp op_le (pr_I0 fun _ _ _ _ _ => by simp only [Rp]) h (nomark _)
theorem ej_gt (h : OJ X cl vs0 Wx [a, b] fl) : EJ X cl vs0 Wx (.Compare a [.Gt] [b] pos) (xPrim fl pGt) := ej_cmp op_gt (pr_I0 fun _ _ _ _ _ => by simp only [Rp]) h (nomark _)
theorem ej_ge (h : OJ X cl vs0 Wx [a, b] fl) : EJ X cl vs0 Wx (.Compare a [.GtE] [b] pos) (xPrim fl pGe) := ej_cmp op_ge (pr_I0 fun _ _ _ _ _ => by simp only [Rp]) h (nomark _)
theorem ej_eq (hu : X.A.units + 64 < cLine) (h : OJ X cl vs0 Wx [a, b] fl) : EJ X cl vs0 Wx (.Compare a [.Eq] [b] pos) (xPrim fl pEq) := ej_cmp (op_eqD hu) pr_eq h (nomark _)
theorem ej_ne (hu : X.A.units + 64 < cLine) (h : OJ X cl vs0 Wx [a, b] fl) : EJ X cl vs0 Wx (.Compare a [.NotEq] [b] pos) (xPrim fl pNe) := ej_cmp (op_neD hu) pr_ne h (nomark _)
def pNeg : List D → Rs SD
  | [.int i] => .ok (.sh (.int (-i)))
  | _ => .bad
theorem ej_neg (h : OJ X cl vs0 Wx [a] fl) : EJ X cl vs0 Wx (.UnaryOp .USub a pos) (xPrim fl pNeg) := ej_un un_neg (fun O W H ds vs Q w ho hp => by
  unfold pNeg at hp
  split at hp
  · obtain ⟨x, rfl, h1⟩ := ho.one
    exact ⟨_, h1.int, hp _ H (Same.refl H) (by simp only [Rp])⟩
  · exact hp.elim) h
def pIsN : List D → Rs SD
  | [.non, .non] => .ok (.sh (.bl true))
  | [_, .non] => .ok (.sh (.bl false))
  | _ => .bad
def pNotN : List D → Rs SD
  | [.non, .non] => .ok (.sh (.bl false))
  | [_, .non] => .ok (.sh (.bl true))
  | _ => .bad
theorem Op1.notNon {G : Gx} {O W : List Addr} {H : Hp} {d : D} {v : V} (h : Op1 G O W H d v) (hd : d ≠ .non) : v ≠ .non := by
  rcases h with h | ⟨a, xs, rfl, rfl, _⟩
  · cases d <;> simp only [Rp] at h
    · exact absurd rfl hd
    · rw [h]; exact fun z => nomatch z
    · rw [h]; exact fun z => nomatch z
    · rw [h]; exact fun z => nomatch z
    · obtain ⟨a, vs, e, _⟩ := h; rw [e]; exact fun z => nomatch z
    · obtain ⟨a, vs, e, _⟩ := h; rw [e]; exact fun z => nomatch z
    · obtain ⟨a, vs, _, e, _⟩ := h; rw [e]; exact fun z => nomatch z
    · obtain ⟨a, e, _⟩ := h; rw [e]; exact fun z => nomatch z
    · obtain ⟨a, e, _⟩ := h; rw [e]; exact fun z => nomatch z
  · exact fun z => nomatch z
theorem ej_isN (h : OJ X cl vs0 Wx [a, b] fl) : EJ X cl vs0 Wx (.Compare a [.Is] [b] pos) (xPrim fl pIsN) := ej_cmp op_isN (fun O W H ds vs Q w ho hp => by
  unfold pIsN at hp
  split at hp
  · obtain ⟨x, y, rfl, h1, h2⟩ := ho.two
    refine ⟨h2.non, ?_⟩
    rw [h1.non]
    exact hp _ H (Same.refl H) (by simp [Rp])
  · rename_i d hd
    obtain ⟨x, y, rfl, h1, h2⟩ := ho.two
    refine ⟨h2.non, ?_⟩
    rw [decide_eq_false (h1.notNon fun z => hd z)]
    exact hp _ H (Same.refl H) (by simp [Rp])
  · exact hp.elim) h (nomark _)
theorem ej_notN (h : OJ X cl vs0 Wx [a, b] fl) : EJ X cl vs0 Wx (.Compare a [.IsNot] [b] pos) (xPrim fl pNotN) := ej_cmp op_notN (fun O W H ds vs Q w ho hp => by
  unfold pNotN at hp
  split at hp
  · obtain ⟨x, y, rfl, h1, h2⟩ := ho.two
    refine ⟨h2.non, ?_⟩
    rw [h1.non]
    exact hp _ H (Same.refl H) (by simp [Rp])
  · rename_i d hd
    obtain ⟨x, y, rfl, h1, h2⟩ := ho.two
    refine ⟨h2.non, ?_⟩
    rw [decide_eq_false (h1.notNon fun z => hd z)]
    exact hp _ H (Same.refl H) (by simp [Rp])
  · exact hp.elim) h (nomark _)
end
end Wm
end

section
/-! Products, subscripts, slices, displays, built-ins. -/
namespace Wm
open PySem PySem.Spec PyProof.Rows L2
theorem tuple_mulS (l : Addr) (items : Array Value) (n : Nat) (dd : Option Addr) (sl : Array (Option Value)) (x : Int) (u : Tok) (c0 : (decide (x < -(2 ^ 63)) || decide (x ≥ 2 ^ 63)) = false) (c1 : (items.isEmpty || x == 1) = true) :
    Meets (Builtin.«tuple.__mul__» ⟨[.ref l, .int x u], []⟩) (fun _ R s => s.heap.get? l = some { cls := .type "tuple", dict := dd, data := .seq items n, slots := sl } ∧
      R (.ok (.ret (Value.ref l))) s) :=
  .of_wp fun prog w A R s h => by
    obtain ⟨hp, g, d, tk, os⟩ := s
    obtain ⟨hl, h⟩ := h
    have f1 := AutoSeq1.idx_int
    wp_walk using wpAny_loadPart' hl
    repeat (first
      | (refine wpAny_ite_false (decide_eq_false (by rw [c0]; exact Bool.false_ne_true)) ?_; wp_walk using wpAny_loadPart' hl)
      | (refine wpAny_ite_true (decide_eq_true (by rw [c1])) ?_; wp_walk using wpAny_loadPart' hl))
    exact ⟨_, rfl, h⟩
theorem tuple_mul0 (l : Addr) (items : Array Value) (n : Nat) (dd : Option Addr) (sl : Array (Option Value)) (x : Int) (u : Tok) (c0 : (decide (x < -(2 ^ 63)) || decide (x ≥ 2 ^ 63)) = false) (c1 : (items.isEmpty || x == 1) = false) (c2 : (decide (x ≤ 0) || items.isEmpty) = true) :
    Meets (Builtin.«tuple.__mul__» ⟨[.ref l, .int x u], []⟩) (fun _ R s => s.heap.get? l = some { cls := .type "tuple", dict := dd, data := .seq items n, slots := sl } ∧
      R (.ok (.ret (Value.ref s.heap.objs.size))) { s with heap := s.heap.push { cls := Value.type "tuple", data := Data.seq #[] }, toks := s.toks }) :=
  .of_wp fun prog w A R s h => by
    obtain ⟨hp, g, d, tk, os⟩ := s
    obtain ⟨hl, h⟩ := h
    have f1 := AutoSeq1.idx_int
    wp_walk using wpAny_loadPart' hl
    repeat (first
      | (refine wpAny_ite_false (decide_eq_false (by rw [c0]; exact Bool.false_ne_true)) ?_; wp_walk using wpAny_loadPart' hl)
      | (refine wpAny_ite_false (decide_eq_false (by rw [c1]; exact Bool.false_ne_true)) ?_; wp_walk using wpAny_loadPart' hl)
      | (refine wpAny_ite_true (decide_eq_true (by rw [c2])) ?_; wp_walk using wpAny_loadPart' hl))
    exact ⟨_, rfl, h⟩

section
variable {X : Cx} {cl : Cl} {vs0 : List V} {Wx : WX}
/-! ### a tuple, a list so many times -/
def rRepS (K : PySem.W.Frag) : R2 := fun x y H Q => ∃ l k xs, x = .ref l ∧ y = .int k ∧ SqT K H l xs ∧ (xs = [] ∨ k = 1) ∧ -(2 ^ 63) ≤ k ∧ k < 2 ^ 63 ∧ Q (.ref l) H
def rRep0 (K : PySem.W.Frag) : R2 := fun x y H Q => ∃ l k xs, x = .ref l ∧ y = .int k ∧ SqT K H l xs ∧ xs ≠ [] ∧ k ≤ 0 ∧ -(2 ^ 63) ≤ k ∧ ∀ p, H p = none → Q (.ref p) (upd H p (.tup []))
theorem op_repS : OpR X (binaryOp .Mult) (rRepS X.K) := by
  intro pins s σ H x y v u Q I rx ry h
  obtain ⟨l, k, xs, rfl, rfl, hT, hne, h1, h2, q⟩ := h
  cases rx
  obtain ⟨t, rfl⟩ := ry
  obtain ⟨its, r, ⟨⟨cls, dd, data, sl⟩, ho, hc, n, hd⟩, hs⟩ := I.tuple hT
  simp only at hc hd
  subst hc hd
  have c0 : (decide (k < -(2 ^ 63)) || decide (k ≥ 2 ^ 63)) = false := by
    rw [decide_eq_false (by omega), decide_eq_false (by omega)] <;> rfl
  have c1 : (its.toArray.isEmpty || k == 1) = true := by
    rcases hne with z | z
    · subst z
      cases r
      rfl
    · rw [z]; simp
  refine wpAny_binaryOp_repeat_ref (T := "tuple") (U := "int") (by decide) ⟨_, ho, rfl⟩ (fun s' => typeIs_int s' k t) noFill_tuple_mul F.fills_int_mul F.slot_int_rmul repeat_tuple F.slot_int_index.lookup
    (call_meets F.slot_int_rmul (typeIs_int s k t) F.entry_int_rmul (F.args_int_rmul_2 _ _) (int_rmul_tuple k t l its.toArray n dd sl)
      ⟨ho, rfl, ⟨_, ho, rfl⟩, call_meets F.slot_tuple_mul ⟨_, ho, rfl⟩ F.entry_tuple_mul (F.args_tuple_mul_2 _ _) (tuple_mulS l its.toArray n dd sl k t c0 c1) ⟨ho, ?_⟩⟩)
  exact ⟨.ref l, H, I, rfl, q⟩
theorem op_rep0 : OpR X (binaryOp .Mult) (rRep0 X.K) := by
  intro pins s σ H x y v u Q I rx ry h
  obtain ⟨l, k, xs, rfl, rfl, hT, hne, h1, h2, q⟩ := h
  cases rx
  obtain ⟨t, rfl⟩ := ry
  obtain ⟨its, r, ⟨⟨cls, dd, data, sl⟩, ho, hc, n, hd⟩, hs⟩ := I.tuple hT
  simp only at hc hd
  subst hc hd
  have c0 : (decide (k < -(2 ^ 63)) || decide (k ≥ 2 ^ 63)) = false := by
    rw [decide_eq_false (by omega), decide_eq_false (by omega)] <;> rfl
  have hi : its.toArray.isEmpty = false := by
    cases r with
    | nil => exact absurd rfl hne
    | cons a b => rfl
  have c1 : (its.toArray.isEmpty || k == 1) = false := by
    rw [hi, Bool.false_or]
    exact beq_eq_false_iff_ne.mpr (by omega)
  have c2 : (decide (k ≤ 0) || its.toArray.isEmpty) = true := by
    rw [decide_eq_true h1]; rfl
  refine wpAny_binaryOp_repeat_ref (T := "tuple") (U := "int") (by decide) ⟨_, ho, rfl⟩ (fun s' => typeIs_int s' k t) noFill_tuple_mul F.fills_int_mul F.slot_int_rmul repeat_tuple F.slot_int_index.lookup
    (call_meets F.slot_int_rmul (typeIs_int s k t) F.entry_int_rmul (F.args_int_rmul_2 _ _) (int_rmul_tuple k t l its.toArray n dd sl)
      ⟨ho, rfl, ⟨_, ho, rfl⟩, call_meets F.slot_tuple_mul ⟨_, ho, rfl⟩ F.entry_tuple_mul (F.args_tuple_mul_2 _ _) (tuple_mul0 l its.toArray n dd sl k t c0 c1 c2) ⟨ho, ?_⟩⟩)
  refine ⟨.ref s.heap.objs.size, _, I.laid (t' := s.toks) (o := .tup []) (fun b ob q => Heap.get?_push_of_some _ q) (Nat.le_refl _) ?_, rfl, q _ (I.hok.fresh (Nat.le_refl _))⟩
  exact ⟨Nat.zero_le _, [], .nil, IsTup.new _ _⟩
noncomputable def pMul : List D → Rs SD
  | [.int i, .int j] => if IntMulOk i j then .ok (.sh (.int (i * j))) else .bad
  | [.tup xs, .int k] => if -(2 ^ 63) ≤ k ∧ k ≤ 1000 ∧ xs.length ≤ 1000 then .ok (.sh (.tup (List.replicate k.toNat xs).flatten)) else .bad
  | [.lst xs, .int k] => if -(2 ^ 63) ≤ k ∧ k < 2 ^ 63 ∧ xs.length * k.toNat ≤ sizeLine then .ok (.own (List.replicate k.toNat xs).flatten) else .bad
  | _ => .bad
theorem op_mulD : OpR X (binaryOp .Mult) (fun x y H Q => rI IntMulOk (fun i j => .int (i * j)) x y H Q ∨ rRepS X.K x y H Q ∨ rRep0 X.K x y H Q ∨ rRepT X.K x y H Q ∨ rRep x y H Q) := op_mulI.or (op_repS.or (op_rep0.or (op_repT.or op_rep)))
theorem pr_mul : PrimR X cl (rd2 fun x y H Q => rI IntMulOk (fun i j => .int (i * j)) x y H Q ∨ rRepS X.K x y H Q ∨ rRep0 X.K x y H Q ∨ rRepT X.K x y H Q ∨ rRep x y H Q) pMul := by
  intro O W H ds vs Q w ho hp
  unfold pMul at hp
  split at hp
  · obtain ⟨x, y, rfl, h1, h2⟩ := ho.two
    split at hp
    · rename_i hc
      exact .inl ⟨_, _, h1.int, h2.int, hc, hp _ H (Same.refl H) (by simp only [Rp])⟩
    · exact hp.elim
  · rename_i ds k
    obtain ⟨x, y, rfl, h1, h2⟩ := ho.two
    split at hp
    · rename_i hz
      obtain ⟨a, xs, e1, t1, r1⟩ := h1.tup
      have l1 := r1.length
      by_cases hk : k = 1
      · refine .inr (.inl ⟨a, k, xs, e1, h2.int, t1.sq, .inr hk, hz.1, by omega, hp _ H (Same.refl H) ?_⟩)
        subst hk
        simp only [Rp]
        exact ⟨a, xs, rfl, t1, by simpa using r1⟩
      · by_cases hx : xs = []
        · refine .inr (.inl ⟨a, k, xs, e1, h2.int, t1.sq, .inl hx, hz.1, by omega, hp _ H (Same.refl H) ?_⟩)
          subst hx
          have : ds = [] := List.eq_nil_of_length_eq_zero l1
          subst this
          simp only [Rp]
          exact ⟨a, [], rfl, t1, by simpa using RpA.rep r1 k.toNat⟩
        · by_cases h0 : k ≤ 0
          · refine .inr (.inr (.inl ⟨a, k, xs, e1, h2.int, t1.sq, hx, h0, hz.1, fun p n => hp _ _ (same_upd n) ?_⟩))
            have e0 : k.toNat = 0 := by omega
            rw [e0]
            exact rp_tup w n (Nat.zero_le _) (by simp only [List.replicate_zero, List.flatten_nil, RpA])
          · refine .inr (.inr (.inr (.inl ⟨a, k, xs, e1, h2.int, t1.sq, hx, by omega, hz.2.1, by omega, fun p n => hp _ _ (same_upd n) (rp_tup w n ?_ (RpA.rep r1 k.toNat))⟩)))
            rw [PyProof.Rows.lm_len_rep_flat, sizeLine_eq]
            have a1 : k.toNat * xs.length ≤ 1000 * 1000 := Nat.mul_le_mul (by omega) (by omega)
            omega
    · exact hp.elim
  · obtain ⟨x, y, rfl, h1, h2⟩ := ho.two
    split at hp
    · rename_i hz
      obtain ⟨a, xs, e1, t1, z1, r1⟩ := h1.lst
      have l1 := r1.length
      rw [l1] at hz
      refine .inr (.inr (.inr (.inr ⟨a, _, xs, e1, h2.int, t1, hz.1, hz.2.1, hz.2.2, fun p n => hp p _ _ (same_upd n) n upd_same ?_ (RpA.rep r1 _)⟩)))
      rw [PyProof.Rows.lm_len_rep_flat, Nat.mul_comm]
      exact hz.2.2
    · exact hp.elim
  · exact hp.elim
variable {a b : Expr} {pos : Pos} {fl : List LOp}
theorem ej_mul (h : OJ X cl vs0 Wx [a, b] fl) : EJ X cl vs0 Wx (.BinOp a .Mult b pos) (xPrim fl pMul) := ej_bin op_mulD pr_mul h

/-! ### subscripts -/
def pIx : List D → Rs SD
  | [.lst xs, .int i] => match atI xs i with
    | some d => .ok (.sh d)
    | none => .bad
  | [.tup xs, .int i] => match atI xs i with
    | some d => .ok (.sh d)
    | none => .bad
  | _ => .bad
theorem atI_rp {G : Gx} {O : List Addr} {H : Hp} {ds : List D} {vs : List V} {i : Int} {d : D} (r : RpA G O H ds vs) (h : atI ds i = some d) : ∃ v, atI vs i = some v ∧ Rp G O H d v := by
  unfold atI at h ⊢
  rw [r.length] at h
  cases e : ixN vs.length i with
  | none => rw [e] at h; cases h
  | some j =>
    rw [e] at h
    exact r.getD h
theorem pr_ix : PrimR X cl (rd2 (rIx X.K)) pIx := by
  intro O W H ds vs Q w ho hp
  unfold pIx at hp
  split at hp
  · obtain ⟨x, y, rfl, h1, h2⟩ := ho.two
    split at hp
    · rename_i d e
      obtain ⟨a, xs, e1, t1, z1, r1⟩ := h1.lst
      obtain ⟨v, ev, rv⟩ := atI_rp r1 e
      exact .inl ⟨a, xs, _, v, e1, h2.int, SqL.of t1, ev, hp v H (Same.refl H) rv⟩
    · exact hp.elim
  · obtain ⟨x, y, rfl, h1, h2⟩ := ho.two
    split at hp
    · rename_i d e
      obtain ⟨a, xs, e1, t1, r1⟩ := h1.tup
      obtain ⟨v, ev, rv⟩ := atI_rp r1 e
      exact .inr (.inl ⟨a, xs, _, v, e1, h2.int, t1.sq, ev, hp v H (Same.refl H) rv⟩)
    · exact hp.elim
  · exact hp.elim
theorem ej_sbs (h : OJ X cl vs0 Wx [a, b] fl) (hs : PlainIx b := by exact fun _ _ => rfl) : EJ X cl vs0 Wx (.Subscript a b pos) (xPrim fl pIx) := ej_ix ix_seq pr_ix h hs
end
end Wm
end

section
/-! Slices, displays, built-ins, tests. -/
namespace Wm
open PySem PySem.Spec PyProof.Rows L2
section
variable {X : Cx} {cl : Cl} {vs0 : List V} {Wx : WX}
/-! ### slices -/
def cutL {α : Type} (xs : List α) (lo hi : Option Int) : List α := (xs.drop (HT.sIx xs.length 0 lo)).take (HT.sIx xs.length xs.length hi - HT.sIx xs.length 0 lo)
theorem RpA.cut {G : Gx} {O : List Addr} {H : Hp} {ds : List D} {vs : List V} (r : RpA G O H ds vs) (lo hi : Option Int) : RpA G O H (cutL ds lo hi) (cutV vs lo hi) := by
  unfold cutL cutV
  rw [r.length]
  exact (r.drop _).take _
def slD (lo hi : Option Int) : D → Rs SD
  | .lst xs => .ok (.own (cutL xs lo hi))
  | .tup xs => .ok (.sh (.tup (cutL xs lo hi)))
  | _ => .bad
def rSl (K : PySem.W.Frag) : V → Option Int → Option Int → Hp → VK → Prop := fun x lo hi H Q => rSlL K x lo hi H Q ∨ rSlA K x lo hi H Q
theorem sl_any : SlR X (rSl X.K) := sl_list.or sl_tupA
theorem sl_ok {O W : List Addr} {H : Hp} {d : D} {v : V} {lo hi : Option Int} {Q : VK} (w : Wf O W H) (h : Op1 (gx X cl) O W H d v) (hp : AftP (gx X cl) O H Q (slD lo hi d)) : rSl X.K v lo hi H Q := by
  cases d with
  | lst xs =>
    obtain ⟨a, vs, e, t, z, r⟩ := h.lst
    refine .inl ⟨a, vs, e, SqL.of t, fun p n => hp p _ _ (same_upd n) n upd_same (Nat.le_trans (cutV_length _ _ _) z) (r.cut lo hi)⟩
  | tup xs =>
    obtain ⟨a, vs, e, t, r⟩ := h.tup
    subst e
    refine .inr ⟨a, vs, rfl, t.sq, fun hw => hp _ H (Same.refl H) ?_, fun _ p n => hp _ _ (same_upd n) (rp_tup w n (Nat.le_trans (cutV_length _ _ _) t.1) (r.cut lo hi))⟩
    simp only [Rp]
    refine ⟨a, vs, rfl, t, ?_⟩
    have e2 : cutL xs lo hi = xs := by
      unfold cutL
      rw [r.length, hw.1, hw.2, Nat.sub_zero, List.drop_zero]
      exact List.take_of_length_le (Nat.le_of_eq r.length)
    rw [e2]; exact r
  | _ => exact hp.elim
def pSlLo : List D → Rs SD
  | [d, .int i] => slD (some i) none d
  | _ => .bad
def pSlHi : List D → Rs SD
  | [d, .int j] => slD none (some j) d
  | _ => .bad
def pSl0 : List D → Rs SD
  | [d] => slD none none d
  | _ => .bad
variable {a b c e : Expr} {pos p2 : Pos} {fl : List LOp}
theorem OpA.three {G : Gx} {O W : List Addr} {H : Hp} {d1 d2 d3 : D} {vs : List V} (h : OpA G O W H [d1, d2, d3] vs) : ∃ v w u, vs = [v, w, u] ∧ Op1 G O W H d1 v ∧ Op1 G O W H d2 w ∧ Op1 G O W H d3 u := by
  obtain ⟨v, r, ev, h1, h2⟩ := h
  obtain ⟨w, u, ew, h3, h4⟩ := OpA.two h2
  subst ew
  exact ⟨v, w, u, ev, h1, h3, h4⟩
theorem ej_slLo (h : OJ X cl vs0 Wx [a, b] fl) : EJ X cl vs0 Wx (.Subscript a (.Slice (some b) none none p2) pos) (xPrim fl pSlLo) := by
  obtain ⟨ta, tb, ha, hb, q⟩ := two_of h
  refine ⟨⟨_, pe_slice sl_any ha (po_some hb) po_none, prim_core (rd := rd2 fun x y H Q => ∃ i, y = .int i ∧ rSl X.K x (some i) none H Q) (fun O W H ds vs Q w ho hp => ?_) q⟩⟩
  unfold pSlLo at hp
  split at hp
  · obtain ⟨x, y, rfl, h1, h2⟩ := ho.two
    exact ⟨_, h2.int, sl_ok w h1 hp⟩
  · exact hp.elim
theorem ej_slHi (h : OJ X cl vs0 Wx [a, b] fl) : EJ X cl vs0 Wx (.Subscript a (.Slice none (some b) none p2) pos) (xPrim fl pSlHi) := by
  obtain ⟨ta, tb, ha, hb, q⟩ := two_of h
  refine ⟨⟨_, pe_slice sl_any ha po_none (po_some hb), prim_core (rd := rd2 fun x y H Q => ∃ i, y = .int i ∧ rSl X.K x none (some i) H Q) (fun O W H ds vs Q w ho hp => ?_) q⟩⟩
  unfold pSlHi at hp
  split at hp
  · obtain ⟨x, y, rfl, h1, h2⟩ := ho.two
    exact ⟨_, h2.int, sl_ok w h1 hp⟩
  · exact hp.elim

/-! ### things that are kept: displays -/
def mops : List Sx → So
  | [], ρ => .ok ([], ρ)
  | f :: r, ρ => (f ρ).bind fun p => (mops r p.2).bind fun q => .ok (p.1.frz :: q.1, q.2)
def AftM (G : Gx) (vs0 : List V) (Wx : WX) (O W : List Addr) (σ : L2.St) (H : Hp) (Q : List V → Hp → Prop) : Rs (List D × List SD) → Prop
  | .ok (ds, ρ') => ∀ vs O' W' H', Stp O W H O' W' H' → SR G vs0 O' W' σ H' ρ' → RpA G O' H' ds vs → Q vs H'
  | .exc c fs ρ' => ExcA G vs0 Wx O W σ H c fs ρ'
  | .bad => False
structure MJ (X : Cx) (cl : Cl) (vs0 : List V) (Wx : WX) (es : List Expr) (fs : List Sx) : Prop where
  ex : ∃ t, PA X es t ∧ ∀ O W σ H ρ R, SR (gx X cl) vs0 O W σ H ρ → AftM (gx X cl) vs0 Wx O W σ H R (mops fs ρ) → t σ H R
theorem mj_nil : MJ X cl vs0 Wx [] [] := ⟨⟨_, pa_nil, fun O W σ H ρ R sr h => h [] O W H Stp.refl sr (by simp only [RpA])⟩⟩
theorem mj_cons {es : List Expr} {f : Sx} {fs : List Sx} (h : EJ X cl vs0 Wx e f) (hr : MJ X cl vs0 Wx es fs) (hs : starEach (e :: es) X.env = (false, eval e X.env) :: starEach es X.env := by rfl) : MJ X cl vs0 Wx (e :: es) (f :: fs) := by
  obtain ⟨ta, p2, p3⟩ := hr.ex
  obtain ⟨t, q1, q2⟩ := h.ex
  refine ⟨⟨_, pa_cons q1 p2 hs, fun O W σ H ρ R sr hw => ?_⟩⟩
  have hw' : AftM (gx X cl) vs0 Wx O W σ H R ((f ρ).bind fun p => (mops fs p.2).bind fun q => .ok (p.1.frz :: q.1, q.2)) := hw
  refine q2 O W σ H ρ _ sr ?_
  cases e0 : f ρ with
  | bad => rw [e0] at hw'; exact hw'
  | exc c fs ρ' => rw [e0] at hw'; exact hw'
  | ok p =>
    obtain ⟨r, ρ1⟩ := p
    rw [e0] at hw'
    have hw2 : AftM (gx X cl) vs0 Wx O W σ H R ((mops fs ρ1).bind fun q => .ok (r.frz :: q.1, q.2)) := hw'
    intro v O1 W1 H1 st1 sr1 rr
    obtain ⟨O2, W2, st2, sr2, rp⟩ := rr.frz sr1
    have st12 := st1.trans sr.wf st2
    refine p3 O2 W2 σ H1 ρ1 _ sr2 ?_
    cases e1 : mops fs ρ1 with
    | bad => rw [e1] at hw2; exact hw2
    | exc c fs ρ' => rw [e1] at hw2; exact ExcA.back sr.wf st12 hw2
    | ok q =>
      obtain ⟨ds, ρ2⟩ := q
      rw [e1] at hw2
      intro vs O' W' H' st sr' ho
      refine hw2 (v :: vs) O' W' H' (st12.trans sr.wf st) sr' ?_
      simp only [RpA]
      exact ⟨v, vs, rfl, rp.step sr2.wf st, ho⟩
def xLst (fs : List Sx) : Sx := fun ρ => (mops fs ρ).bind fun q => if q.1.length ≤ sizeLine then .ok (.own q.1, q.2) else .bad
def xTup (fs : List Sx) : Sx := fun ρ => (mops fs ρ).bind fun q => if q.1.length ≤ sizeLine then .ok (.sh (.tup q.1), q.2) else .bad
theorem new_apart {G : Gx} {O W : List Addr} {σ : L2.St} {H : Hp} {ρ : List SD} {a : Addr} (sr : SR G vs0 O W σ H ρ) (n : H a = none) : ∀ (i : Nat) (s : SD), ρ[i]? = some s → s.mine = true → σ[i]? ≠ some (some (.ref a)) := fun i s e m z => by
  have : ∃ xs, s = .own xs ∨ s = .byr xs := by
    cases s with
    | own xs => exact ⟨xs, .inl rfl⟩
    | byr xs => exact ⟨xs, .inr rfl⟩
    | xn _ _ => cases m
    | gv => cases m
    | no => cases m
    | sh d => cases m
  obtain ⟨ys, hs⟩ := this
  obtain ⟨b, eb, ob⟩ := sr.getOwn e hs
  rw [eb] at z; cases z
  exact sr.wf.trk _ (sr.wf.sub _ ob.1) (noD_none n)
theorem ej_lst {es : List Expr} {fs : List Sx} (h : MJ X cl vs0 Wx es fs) : EJ X cl vs0 Wx (.List es pos) (xLst fs) := by
  obtain ⟨t, p, q⟩ := h.ex
  refine ⟨⟨_, pe_lst p, fun O W σ H ρ Q sr hw => q O W σ H ρ _ sr ?_⟩⟩
  unfold xLst at hw
  cases e : mops fs ρ with
  | bad => rw [e] at hw; exact hw
  | exc c fs ρ' => rw [e] at hw; exact hw
  | ok w =>
    obtain ⟨ds, ρ1⟩ := w
    rw [e] at hw
    have hw2 : AftE (gx X cl) vs0 Wx O W σ H Q (if ds.length ≤ sizeLine then .ok (.own ds, ρ1) else .bad) := hw
    intro vs O' W' H' st sr' ra
    split at hw2
    · rename_i hz
      refine ⟨by rw [← ra.length]; exact hz, fun p n => hw2 (.ref p) (p :: O') (p :: W') _ (st.trans sr.wf (Stp.new (same_upd n) n)) (sr'.new (same_upd n) n (noD_not upd_same)) ⟨p, rfl, ⟨List.mem_cons_self, vs, upd_same, by rw [← ra.length]; exact hz, ra.step sr'.wf (Stp.new (same_upd n) n)⟩, new_apart sr' n⟩⟩
    · exact hw2.elim
theorem ej_tup {es : List Expr} {fs : List Sx} {k : Nat} (h : MJ X cl vs0 Wx es fs) : EJ X cl vs0 Wx (.Tuple es k pos) (xTup fs) := by
  obtain ⟨t, p, q⟩ := h.ex
  refine ⟨⟨_, pe_tup p, fun O W σ H ρ Q sr hw => q O W σ H ρ _ sr ?_⟩⟩
  unfold xTup at hw
  cases e : mops fs ρ with
  | bad => rw [e] at hw; exact hw
  | exc c fs ρ' => rw [e] at hw; exact hw
  | ok w =>
    obtain ⟨ds, ρ1⟩ := w
    rw [e] at hw
    have hw2 : AftE (gx X cl) vs0 Wx O W σ H Q (if ds.length ≤ sizeLine then .ok (.sh (.tup ds), ρ1) else .bad) := hw
    intro vs O' W' H' st sr' ra
    split at hw2
    · rename_i hz
      exact ⟨by rw [← ra.length]; exact hz, fun p n => hw2 (.ref p) O' W' _ (st.trans sr.wf (Stp.same (same_upd n))) (sr'.same (same_upd n)) (rp_tup sr'.wf n (by rw [← ra.length]; exact hz) ra)⟩
    · exact hw2.elim

/-! ### built-ins by name -/
theorem ej_callB {x : Str} {id : String} {r : List V → Hp → VK → Prop} {p : Pos} {es : List Expr} {pr : List D → Rs SD} (hc : CallR X (.builtin id) r) (hp : PrimR X cl r pr) (hg : Gl X x) (hm : X.mg x = none) (hv : bootBuiltins x = some (.builtin id)) (h : OJ X cl vs0 Wx (e :: es) fl)
    (hn : x ≠ "__name__" := by decide) (hdb : (x == ("__debug__" : Str)) = false := by decide) (he : starEach (e :: es) X.env = (false, eval e X.env) :: starEach es X.env := by rfl) (hpl : (backTo pos (starEach es X.env)).any (·.1) = false := by rfl) :
    EJ X cl vs0 Wx (.Call (.Name x p) (e :: es) [] pos) (xPrim fl pr) := by
  obtain ⟨ts, _, pa, q⟩ := h.ex
  exact ⟨⟨_, pe_callB hc hg hm hv pa hn hdb he hpl, prim_core hp q⟩⟩
theorem ej_callTy {x : Str} {id : String} {r : List V → Hp → VK → Prop} {p : Pos} {es : List Expr} {pr : List D → Rs SD} (hc : CallR X (.type id) r) (hp : PrimR X cl r pr) (hg : Gl X x) (hm : X.mg x = none) (hv : bootBuiltins x = some (.type id)) (h : OJ X cl vs0 Wx (e :: es) fl)
    (hn : x ≠ "__name__" := by decide) (hdb : (x == ("__debug__" : Str)) = false := by decide) (he : starEach (e :: es) X.env = (false, eval e X.env) :: starEach es X.env := by rfl) (hpl : (backTo pos (starEach es X.env)).any (·.1) = false := by rfl) :
    EJ X cl vs0 Wx (.Call (.Name x p) (e :: es) [] pos) (xPrim fl pr) := by
  obtain ⟨ts, _, pa, q⟩ := h.ex
  exact ⟨⟨_, pe_callTy hc hg hm hv pa hn hdb he hpl, prim_core hp q⟩⟩
def pLen : List D → Rs SD
  | [.lst xs] => .ok (.sh (.int xs.length))
  | [.tup xs] => .ok (.sh (.int xs.length))
  | _ => .bad
theorem pr_len : PrimR X cl (fun xs H Q => ∃ p ys, xs = [.ref p] ∧ (SqL X.K H p ys ∨ SqT X.K H p ys) ∧ Q (.int ys.length) H) pLen := by
  intro O W H ds vs Q w ho hp
  unfold pLen at hp
  split at hp
  · obtain ⟨x, rfl, h1⟩ := ho.one
    obtain ⟨a, xs, rfl, t1, z1, r1⟩ := h1.lst
    rw [r1.length] at hp
    exact ⟨a, xs, rfl, .inl (SqL.of t1), hp _ H (Same.refl H) (by simp only [Rp])⟩
  · obtain ⟨x, rfl, h1⟩ := ho.one
    obtain ⟨a, xs, rfl, t1, r1⟩ := h1.tup
    rw [r1.length] at hp
    exact ⟨a, xs, rfl, .inr t1.sq, hp _ H (Same.refl H) (by simp only [Rp])⟩
  · exact hp.elim
def pList : List D → Rs SD
  | [.lst xs] => .ok (.own xs)
  | [.tup xs] => .ok (.own xs)
  | _ => .bad
theorem pr_list : PrimR X cl (fun xs H Q => ∃ p ys, xs = [.ref p] ∧ (SqL X.K H p ys ∨ SqT X.K H p ys) ∧ ∀ l, H l = none → Q (.ref l) (upd H l (.lst ys))) pList := by
  intro O W H ds vs Q w ho hp
  unfold pList at hp
  split at hp
  · obtain ⟨x, rfl, h1⟩ := ho.one
    obtain ⟨a, xs, rfl, t1, z1, r1⟩ := h1.lst
    exact ⟨a, xs, rfl, .inl (SqL.of t1), fun l n => hp l _ _ (same_upd n) n upd_same z1 r1⟩
  · obtain ⟨x, rfl, h1⟩ := ho.one
    obtain ⟨a, xs, rfl, t1, r1⟩ := h1.tup
    exact ⟨a, xs, rfl, .inr t1.sq, fun l n => hp l _ _ (same_upd n) n upd_same t1.1 r1⟩
  · exact hp.elim
def pTuple : List D → Rs SD
  | [.lst xs] => .ok (.sh (.tup xs))
  | [.tup xs] => .ok (.sh (.tup xs))
  | _ => .bad
theorem pr_tuple : PrimR X cl (fun xs H Q => ∃ p ys, xs = [.ref p] ∧ ((SqL X.K H p ys ∧ ∀ l, H l = none → Q (.ref l) (upd H l (.tup ys))) ∨ (SqT X.K H p ys ∧ Q (.ref p) H))) pTuple := by
  intro O W H ds vs Q w ho hp
  unfold pTuple at hp
  split at hp
  · obtain ⟨x, rfl, h1⟩ := ho.one
    obtain ⟨a, xs, rfl, t1, z1, r1⟩ := h1.lst
    exact ⟨a, xs, rfl, .inl ⟨SqL.of t1, fun l n => hp _ _ (same_upd n) (rp_tup w n z1 r1)⟩⟩
  · obtain ⟨x, rfl, h1⟩ := ho.one
    obtain ⟨a, xs, rfl, t1, r1⟩ := h1.tup
    exact ⟨a, xs, rfl, .inr ⟨t1.sq, hp _ H (Same.refl H) (by simp only [Rp]; exact ⟨a, xs, rfl, t1, r1⟩)⟩⟩
  · exact hp.elim
def pInt : List D → Rs SD
  | [.int i] => .ok (.sh (.int i))
  | [.bl b] => .ok (.sh (.int (if b then 1 else 0)))
  | _ => .bad
theorem pr_int : PrimR X cl (fun xs H Q => (∃ i, xs = [.int i] ∧ Q (.int i) H) ∨ ∃ k, xs = [.bl k] ∧ Q (.int (if k then 1 else 0)) H) pInt := by
  intro O W H ds vs Q w ho hp
  unfold pInt at hp
  split at hp
  · obtain ⟨x, rfl, h1⟩ := ho.one
    exact .inl ⟨_, by rw [h1.int], hp _ H (Same.refl H) (by simp only [Rp])⟩
  · obtain ⟨x, rfl, h1⟩ := ho.one
    exact .inr ⟨_, by rw [h1.bl], hp _ H (Same.refl H) (by simp only [Rp])⟩
  · exact hp.elim
def pAbs : List D → Rs SD
  | [.int i] => .ok (.sh (.int (if i < 0 then -i else i)))
  | _ => .bad
theorem pr_abs : PrimR X cl (fun xs H Q => ∃ i, xs = [.int i] ∧ Q (.int (if i < 0 then -i else i)) H) pAbs := by
  intro O W H ds vs Q w ho hp
  unfold pAbs at hp
  split at hp
  · obtain ⟨x, rfl, h1⟩ := ho.one
    exact ⟨_, by rw [h1.int], hp _ H (Same.refl H) (by simp only [Rp])⟩
  · exact hp.elim
/-- all ints; all truths -/
def asInts : List D → Option (List Int)
  | [] => some []
  | .int i :: r => (asInts r).map (i :: ·)
  | _ :: _ => none
def asBls : List D → Option (List Bool)
  | [] => some []
  | .bl i :: r => (asBls r).map (i :: ·)
  | _ :: _ => none
theorem asInts_eq : ∀ {ds : List D} {ns : List Int}, asInts ds = some ns → ds = ns.map D.int
  | [], ns, h => by cases h; rfl
  | .int i :: r, ns, h => by
    simp only [asInts] at h
    obtain ⟨m, h1, h2⟩ := Option.map_eq_some_iff.mp h
    rw [asInts_eq h1, ← h2]; rfl
  | .non :: _, _, h | .bl _ :: _, _, h | .str _ :: _, _, h | .tup _ :: _, _, h | .lst _ :: _, _, h | .ins _ _ :: _, _, h | .scr _ :: _, _, h => by cases h
theorem asBls_eq : ∀ {ds : List D} {ns : List Bool}, asBls ds = some ns → ds = ns.map D.bl
  | [], ns, h => by cases h; rfl
  | .bl i :: r, ns, h => by
    simp only [asBls] at h
    obtain ⟨m, h1, h2⟩ := Option.map_eq_some_iff.mp h
    rw [asBls_eq h1, ← h2]; rfl
  | .non :: _, _, h | .int _ :: _, _, h | .str _ :: _, _, h | .tup _ :: _, _, h | .lst _ :: _, _, h | .ins _ _ :: _, _, h | .scr _ :: _, _, h => by cases h
theorem asInts_map : ∀ (ns : List Int), asInts (ns.map D.int) = some ns
  | [] => rfl
  | n :: ns => by simp only [List.map_cons, asInts, asInts_map ns, Option.map_some]
theorem asBls_map : ∀ (ns : List Bool), asBls (ns.map D.bl) = some ns
  | [] => rfl
  | n :: ns => by simp only [List.map_cons, asBls, asBls_map ns, Option.map_some]
/-- of a list of ints -/
def pIL (g : List Int → Rs SD) : List D → Rs SD
  | [.lst xs] => match asInts xs with
    | some ns => g ns
    | none => .bad
  | _ => .bad
def pBL (g : List Bool → Rs SD) : List D → Rs SD
  | [.lst xs] => match asBls xs with
    | some ns => g ns
    | none => .bad
  | _ => .bad
theorem pr_IL {g : List Int → Rs SD} {r : List V → Hp → VK → Prop} (h : ∀ O H a ns Q, SqL X.K H a (ns.map V.int) → AftP (gx X cl) O H Q (g ns) → r [.ref a] H Q) : PrimR X cl r (pIL g) := by
  intro O W H ds vs Q w ho hp
  unfold pIL at hp
  split at hp
  · split at hp
    · rename_i ns e
      obtain ⟨x, rfl, h1⟩ := ho.one
      obtain ⟨a, xs, rfl, t1, z1, r1⟩ := h1.lst
      rw [asInts_eq e] at r1
      rw [r1.ints] at t1
      exact h O H a ns Q (SqL.of t1) hp
    · exact hp.elim
  · exact hp.elim
theorem pr_BL {g : List Bool → Rs SD} {r : List V → Hp → VK → Prop} (h : ∀ O H a ns Q, SqL X.K H a (ns.map V.bl) → AftP (gx X cl) O H Q (g ns) → r [.ref a] H Q) : PrimR X cl r (pBL g) := by
  intro O W H ds vs Q w ho hp
  unfold pBL at hp
  split at hp
  · split at hp
    · rename_i ns e
      obtain ⟨x, rfl, h1⟩ := ho.one
      obtain ⟨a, xs, rfl, t1, z1, r1⟩ := h1.lst
      rw [asBls_eq e] at r1
      rw [r1.bls] at t1
      exact h O H a ns Q (SqL.of t1) hp
    · exact hp.elim
  · exact hp.elim
abbrev pSum := pIL fun ns => .ok (.sh (.int ns.sum))
abbrev pAnyB := pBL fun bs => .ok (.sh (.bl (bs.any id)))
abbrev pAllB := pBL fun bs => .ok (.sh (.bl (bs.all id)))
theorem pr_sum : PrimR X cl (rSum X.K) pSum := pr_IL fun O H a ns Q s hp => ⟨a, ns, rfl, s, hp _ H (Same.refl H) (by simp only [Rp])⟩
theorem pr_anyB : PrimR X cl (rAny X.K) pAnyB := pr_BL fun O H a ns Q s hp => ⟨a, ns, rfl, s, hp _ H (Same.refl H) (by simp only [Rp])⟩
theorem pr_allB : PrimR X cl (rAll X.K) pAllB := pr_BL fun O H a ns Q s hp => ⟨a, ns, rfl, s, hp _ H (Same.refl H) (by simp only [Rp])⟩
end
end Wm
end

section
/-! isinstance, tests, and, or, not, a if t else b. -/
namespace Wm
open PySem PySem.Spec PyProof.Rows L2
/-- a built-in class -/
inductive BT where
  | int | bool | tuple | list | str | dict
def BT.nm : BT → String
  | .int => "int"
  | .bool => "bool"
  | .tuple => "tuple"
  | .list => "list"
  | .str => "str"
  | .dict => "dict"
def D.tyN : D → Option String
  | .non => some "NoneType"
  | .bl _ => some "bool"
  | .int _ => some "int"
  | .str _ => some "str"
  | .tup _ => some "tuple"
  | .lst _ => some "list"
  | .emp => some "dict"
  | _ => none
def isB : BT → D → Option Bool
  | _, .ins _ _ => none
  | _, .scr _ => none
  | .dict, .emp => some true
  | .int, .int _ => some true
  | .int, .bl _ => some true
  | .bool, .bl _ => some true
  | .tuple, .tup _ => some true
  | .list, .lst _ => some true
  | .str, .str _ => some true
  | _, _ => some false
theorem isB_kit {t : BT} {d : D} {b : Bool} (h : isB t d = some b) : ∃ n, d.tyN = some n ∧ kitB n t.nm = some b := by
  cases d <;> cases t <;> first
    | (cases h; done)
    | (cases h; exact ⟨_, rfl, by decide +kernel⟩)
section
variable {X : Cx} {cl : Cl} {vs0 : List V} {Wx : WX}
theorem Op1.ty {O W : List Addr} {H : Hp} {d : D} {v : V} {n : String} (h : Op1 (gx X cl) O W H d v) (hn : d.tyN = some n) : TyX X.K H v (.type n) := by
  cases d with
  | non => cases hn; rw [h.non]; exact .base .non
  | bl b => cases hn; rw [h.bl]; exact .base (.bl b)
  | int b => cases hn; rw [h.int]; exact .base (.int b)
  | str b => cases hn; rw [h.str]; exact .base (.str b)
  | tup xs =>
    cases hn
    obtain ⟨a, vs, e, t, _⟩ := h.tup
    subst e
    rcases t.2 with ⟨r | ⟨o, r⟩, _⟩ | ⟨o, its, m, h1, h2, _⟩
    · exact .base (.tup r)
    · exact .fTuple r
    · exact .kTuple h1 h2
  | lst xs =>
    cases hn
    obtain ⟨a, vs, e, t, _⟩ := h.lst
    subst e
    exact .base (.lst t)
  | ins _ _ => cases hn
  | scr _ => cases hn
  | emp =>
    cases hn
    rcases h with h | ⟨_, _, e, _⟩
    · simp only [Rp] at h
      obtain ⟨a, e, r, _⟩ := h
      subst e
      exact .base (.dK r)
    · cases e
def pIsi (t : BT) : List D → Rs SD
  | [d] => match isB t d with
    | some b => .ok (.sh (.bl b))
    | none => .bad
  | _ => .bad
variable {a b c e : Expr} {pos p2 : Pos} {fl : List LOp}
theorem ej_isi {t : BT} {p : Pos} (hm : X.mg "isinstance" = none) (hg : Gl X "isinstance") (h : OJ X cl vs0 Wx [a] fl) (hc : PE X b (tC (.ty t.nm)))
    (hs2 : starEach [b] X.env = (false, eval b X.env) :: starEach [] X.env := by rfl) (hs1 : starEach [a, b] X.env = (false, eval a X.env) :: starEach [b] X.env := by rfl) (hpl : (backTo pos (starEach [b] X.env)).any (·.1) = false := by rfl) :
    EJ X cl vs0 Wx (.Call (.Name "isinstance" p) [a, b] [] pos) (xPrim fl (pIsi t)) := by
  obtain ⟨ta, ha, q⟩ := one_of h
  refine ⟨⟨_, pe_callB call_isi hg hm (by decide +kernel) (pa_cons ha (pa_cons hc pa_nil hs2) hs1) (by decide) (by decide) hs1 hpl, prim_core (ts := [ta]) (rd := fun vs H Q => rIsi X.K (vs ++ [.ty t.nm]) H Q) (fun O W H ds vs Q w ho hp => ?_) q⟩⟩
  unfold pIsi at hp
  split at hp
  · split at hp
    · rename_i b' e
      obtain ⟨x, rfl, h1⟩ := ho.one
      obtain ⟨n, hn, hk⟩ := isB_kit e
      exact ⟨x, .ty t.nm, .type n, .type t.nm, b', rfl, .ty _, h1.ty hn, kit_ty hk, hp _ H (Same.refl H) (by simp only [Rp])⟩
    · exact hp.elim
  · exact hp.elim

/-! ### tests -/
def Rs.tst : Rs (SD × List SD) → Rs (Bool × List SD)
  | .ok (.sh (.bl b), ρ) => .ok (b, ρ)
  | .exc c fs ρ => .exc c fs ρ
  | _ => .bad
theorem tst_core {G : Gx} {O W : List Addr} {σ : L2.St} {H : Hp} {Q : Bool → Hp → Prop} {r : Rs (SD × List SD)} (h : AftB G vs0 Wx O W σ H Q r.tst) : AftE G vs0 Wx O W σ H (fun x H' => ∃ k, x = .bl k ∧ Q k H') r := by
  cases r with
  | bad => exact h
  | exc c fs ρ => exact h
  | ok p =>
    obtain ⟨s, ρ⟩ := p
    cases s with
    | sh d =>
      cases d with
      | bl b =>
        intro v O' W' H' st sr rr
        have rr : Rp G O' H' (.bl b) v := rr
        simp only [Rp] at rr
        exact ⟨b, rr, h O' W' H' st sr⟩
      | _ => exact h.elim
    | _ => exact h.elim
/-- a comparison as a test -/
def bT (f : Sx) : Sb := fun ρ => (f ρ).tst
theorem tj_cmp {op : CmpOp} {r : R2} {p : List D → Rs SD} (ho : OpR X (compareOp op) r) (hp : PrimR X cl (rd2 r) p) (h : OJ X cl vs0 Wx [a, b] fl) (hm : behindInMarks op b = false) : TJ X cl vs0 Wx (.Compare a [op] [b] pos) (bT (xPrim fl p)) := by
  obtain ⟨ta, tb, ha, hb, q⟩ := two_of h
  exact ⟨⟨_, pt_cmpR ho ha hb hm, fun O W σ H ρ Q sr hw => prim_core hp q O W σ H ρ _ sr (tst_core hw)⟩⟩
/-- a value that is a truth, as a test -/
theorem tj_val {f : Sx} (h : EJ X cl vs0 Wx e f) (he : ∀ whole, isTrue e X.env whole = (do let v ← whole; standAt e.pos; holding [v] (truthy v)) := by intro _; rfl) : TJ X cl vs0 Wx e (bT f) := by
  obtain ⟨t, p, q⟩ := h.ex
  exact ⟨⟨_, pt_val p he, fun O W σ H ρ Q sr hw => q O W σ H ρ _ sr (tst_core hw)⟩⟩
def truD : D → Option Bool
  | .non => some false
  | .bl b => some b
  | .int i => some (i != 0)
  | .tup xs => some (!xs.isEmpty)
  | .lst xs => some (!xs.isEmpty)
  | _ => none
def bTru (fl : List LOp) : Sb := fun ρ => (ops fl ρ).bind fun q => match q.1 with
  | [d] => match truD d with
    | some b => .ok (b, q.2)
    | none => .bad
  | _ => .bad
theorem RpA.emp {G : Gx} {O : List Addr} {H : Hp} {ds : List D} {vs : List V} (r : RpA G O H ds vs) : ds.isEmpty = vs.isEmpty := by
  have := r.length
  cases ds <;> cases vs <;> simp_all
theorem tj_tru (h : OJ X cl vs0 Wx [e] fl) (he : ∀ whole, isTrue e X.env whole = (do let v ← whole; standAt e.pos; holding [v] (truthy v)) := by intro _; rfl) : TJ X cl vs0 Wx e (bTru fl) := by
  obtain ⟨t, p, q⟩ := one_of h
  refine ⟨⟨_, pt_truth p he, fun O W σ H ρ Q sr hw => ?_⟩⟩
  refine q O W σ H ρ (fun vs H' => match vs with
    | [x] => ∃ k, TruV X.K x H' k ∧ Q k H'
    | _ => False) sr ?_
  unfold bTru at hw
  cases e : ops fl ρ with
  | bad => rw [e] at hw; exact hw
  | exc c fs ρ' => rw [e] at hw; exact hw
  | ok w =>
    obtain ⟨ds, ρ1⟩ := w
    rw [e] at hw
    intro vs O' W' H' st sr' ho
    cases ds with
    | nil => exact (show False from hw).elim
    | cons d ds =>
      cases ds with
      | cons _ _ => exact (show False from hw).elim
      | nil =>
        obtain ⟨v, rfl, h1⟩ := OpA.one ho
        have hw2 : AftB (gx X cl) vs0 Wx O W σ H Q (match truD d with
          | some b => .ok (b, ρ1)
          | none => .bad) := hw
        cases d with
        | non => rw [h1.non]; exact ⟨false, rfl, hw2 O' W' H' st sr'⟩
        | bl b => rw [h1.bl]; exact ⟨b, rfl, hw2 O' W' H' st sr'⟩
        | int b => rw [h1.int]; exact ⟨_, rfl, hw2 O' W' H' st sr'⟩
        | tup xs =>
          obtain ⟨a, vs, e, t, r⟩ := h1.tup
          subst e
          exact ⟨_, .inr (.inl ⟨vs, t.sq, by rw [← r.emp]⟩), hw2 O' W' H' st sr'⟩
        | lst xs =>
          obtain ⟨a, vs, e, t, z, r⟩ := h1.lst
          subst e
          exact ⟨_, .inl ⟨vs, SqL.of t, by rw [← r.emp]⟩, hw2 O' W' H' st sr'⟩
        | str _ => exact hw2.elim
        | ins _ _ => exact hw2.elim
        | scr _ => exact hw2.elim
        | emp => exact hw2.elim

/-! ### and, or, not -/
structure WJ (X : Cx) (cl : Cl) (vs0 : List V) (Wx : WX) (e : Expr) (f : Sb) : Prop where
  ex : ∃ t, PW X e t ∧ ∀ O W σ H ρ Q, SR (gx X cl) vs0 O W σ H ρ → AftB (gx X cl) vs0 Wx O W σ H Q (f ρ) → t σ H Q
theorem WJ.tj {f : Sb} (h : WJ X cl vs0 Wx e f) : TJ X cl vs0 Wx e f := by
  obtain ⟨t, p, q⟩ := h.ex
  exact ⟨⟨t, p.pt, q⟩⟩
def bAnd (f g : Sb) : Sb := fun ρ => (f ρ).bind fun p => if p.1 then g p.2 else .ok (false, p.2)
def bOr (f g : Sb) : Sb := fun ρ => (f ρ).bind fun p => if p.1 then .ok (true, p.2) else g p.2
def bNot (f : Sb) : Sb := fun ρ => (f ρ).bind fun p => .ok (!p.1, p.2)
variable {f g : Sb} {rest : List Expr}
theorem wj_and1 (h : TJ X cl vs0 Wx a f) : WJ X cl vs0 Wx (.BoolOp .And [a] pos) f := by
  obtain ⟨t, p, q⟩ := h.ex
  exact ⟨⟨t, pw_and1 p, q⟩⟩
theorem wj_or1 (h : TJ X cl vs0 Wx a f) : WJ X cl vs0 Wx (.BoolOp .Or [a] pos) f := by
  obtain ⟨t, p, q⟩ := h.ex
  exact ⟨⟨t, pw_or1 p, q⟩⟩
theorem b2_core {G : Gx} {O W : List Addr} {σ : L2.St} {H : Hp} {R : Bool → Hp → Prop} {k : Bool × List SD → Rs (Bool × List SD)} {Q : Bool → Hp → Prop} {r : Rs (Bool × List SD)} (w : Wf O W H)
    (hw : AftB G vs0 Wx O W σ H Q (r.bind k)) (h : ∀ b ρ' O' W' H', SR G vs0 O' W' σ H' ρ' → AftB G vs0 Wx O' W' σ H' Q (k (b, ρ')) → R b H') : AftB G vs0 Wx O W σ H R r := by
  cases r with
  | bad => exact hw
  | exc c fs ρ => exact hw
  | ok p => exact fun O' W' H' st sr => h p.1 p.2 O' W' H' sr (AftB.back w st hw)
theorem wj_and (h : TJ X cl vs0 Wx a f) (hb : WJ X cl vs0 Wx (.BoolOp .And (b :: rest) pos) g) : WJ X cl vs0 Wx (.BoolOp .And (a :: b :: rest) pos) (bAnd f g) := by
  obtain ⟨t, p, q⟩ := h.ex
  obtain ⟨t', p', q'⟩ := hb.ex
  refine ⟨⟨_, pw_and p p', fun O W σ H ρ Q sr hw => q O W σ H ρ _ sr (b2_core sr.wf hw fun b ρ' O' W' H' sr' hk => ?_)⟩⟩
  cases b with
  | true => exact q' O' W' σ H' ρ' Q sr' hk
  | false => exact hk O' W' H' Stp.refl sr'
theorem wj_or (h : TJ X cl vs0 Wx a f) (hb : WJ X cl vs0 Wx (.BoolOp .Or (b :: rest) pos) g) : WJ X cl vs0 Wx (.BoolOp .Or (a :: b :: rest) pos) (bOr f g) := by
  obtain ⟨t, p, q⟩ := h.ex
  obtain ⟨t', p', q'⟩ := hb.ex
  refine ⟨⟨_, pw_or p p', fun O W σ H ρ Q sr hw => q O W σ H ρ _ sr (b2_core sr.wf hw fun b ρ' O' W' H' sr' hk => ?_)⟩⟩
  cases b with
  | false => exact q' O' W' σ H' ρ' Q sr' hk
  | true => exact hk O' W' H' Stp.refl sr'
theorem tj_not (h : TJ X cl vs0 Wx a f) : TJ X cl vs0 Wx (.UnaryOp .Not a pos) (bNot f) := by
  obtain ⟨t, p, q⟩ := h.ex
  refine ⟨⟨_, pt_not p, fun O W σ H ρ Q sr hw => q O W σ H ρ _ sr (b2_core sr.wf hw fun b ρ' O' W' H' sr' hk => ?_)⟩⟩
  exact hk O' W' H' Stp.refl sr'
/-- .. as values, all of them truths -/
def xAnd (f g : Sx) : Sx := fun ρ => (f ρ).tst.bind fun p => if p.1 then g p.2 else .ok (.sh (.bl false), p.2)
def xOr (f g : Sx) : Sx := fun ρ => (f ρ).tst.bind fun p => if p.1 then .ok (.sh (.bl true), p.2) else g p.2
def xNot (f : Sx) : Sx := fun ρ => (f ρ).tst.bind fun p => .ok (.sh (.bl (!p.1)), p.2)
theorem v2_core {G : Gx} {O W : List Addr} {σ : L2.St} {H : Hp} {R : VK} {k : Bool × List SD → Rs (SD × List SD)} {Q : VK} {r : Rs (SD × List SD)} (w : Wf O W H)
    (hw : AftE G vs0 Wx O W σ H Q (r.tst.bind k)) (h : ∀ b ρ' O' W' H', SR G vs0 O' W' σ H' ρ' → AftE G vs0 Wx O' W' σ H' Q (k (b, ρ')) → R (.bl b) H') : AftE G vs0 Wx O W σ H R r := by
  cases r with
  | bad => exact hw
  | exc c fs ρ => exact hw
  | ok p =>
    obtain ⟨s, ρ⟩ := p
    cases s with
    | sh d =>
      cases d with
      | bl b =>
        intro v O' W' H' st sr rr
        have rr : Rp G O' H' (.bl b) v := rr
        simp only [Rp] at rr
        rw [rr]
        exact h b ρ O' W' H' sr (AftE.back w st hw)
      | _ => exact hw.elim
    | _ => exact hw.elim
variable {fx gx' : Sx}
theorem ej_one {op} (h : EJ X cl vs0 Wx a fx) : EJ X cl vs0 Wx (.BoolOp op [a] pos) fx := by
  obtain ⟨t, p, q⟩ := h.ex
  exact ⟨⟨t, pe_one p, q⟩⟩
theorem rp_bl {G : Gx} {O : List Addr} {H : Hp} {b : Bool} : Rp G O H (.bl b) (.bl b) := by simp only [Rp]
theorem ej_and (h : EJ X cl vs0 Wx a fx) (hb : EJ X cl vs0 Wx (.BoolOp .And (b :: rest) pos) gx') : EJ X cl vs0 Wx (.BoolOp .And (a :: b :: rest) pos) (xAnd fx gx') := by
  obtain ⟨t, p, q⟩ := h.ex
  obtain ⟨t', p', q'⟩ := hb.ex
  refine ⟨⟨_, pe_and p p', fun O W σ H ρ Q sr hw => q O W σ H ρ _ sr (v2_core sr.wf hw fun b ρ' O' W' H' sr' hk => ⟨b, rfl, ?_⟩)⟩⟩
  cases b with
  | true => exact q' O' W' σ H' ρ' Q sr' hk
  | false => exact hk _ O' W' H' Stp.refl sr' (rp_bl (G := Wm.gx X cl) (O := O') (H := H'))
theorem ej_or (h : EJ X cl vs0 Wx a fx) (hb : EJ X cl vs0 Wx (.BoolOp .Or (b :: rest) pos) gx') : EJ X cl vs0 Wx (.BoolOp .Or (a :: b :: rest) pos) (xOr fx gx') := by
  obtain ⟨t, p, q⟩ := h.ex
  obtain ⟨t', p', q'⟩ := hb.ex
  refine ⟨⟨_, pe_or p p', fun O W σ H ρ Q sr hw => q O W σ H ρ _ sr (v2_core sr.wf hw fun b ρ' O' W' H' sr' hk => ⟨b, rfl, ?_⟩)⟩⟩
  cases b with
  | false => exact q' O' W' σ H' ρ' Q sr' hk
  | true => exact hk _ O' W' H' Stp.refl sr' (rp_bl (G := Wm.gx X cl) (O := O') (H := H'))
theorem ej_not (h : EJ X cl vs0 Wx a fx) : EJ X cl vs0 Wx (.UnaryOp .Not a pos) (xNot fx) := by
  obtain ⟨t, p, q⟩ := h.ex
  refine ⟨⟨_, pe_not p, fun O W σ H ρ Q sr hw => q O W σ H ρ _ sr (v2_core sr.wf hw fun b ρ' O' W' H' sr' hk => ⟨b, rfl, ?_⟩)⟩⟩
  exact hk _ O' W' H' Stp.refl sr' (rp_bl (G := Wm.gx X cl) (O := O') (H := H'))
/-- a if t else b -/
def xIf (t : Sb) (f g : Sx) : Sx := fun ρ => (t ρ).bind fun p => if p.1 then f p.2 else g p.2
theorem b1_core {G : Gx} {O W : List Addr} {σ : L2.St} {H : Hp} {R : Bool → Hp → Prop} {k : Bool × List SD → Rs (SD × List SD)} {Q : VK} {r : Rs (Bool × List SD)} (w : Wf O W H)
    (hw : AftE G vs0 Wx O W σ H Q (r.bind k)) (h : ∀ b ρ' O' W' H', SR G vs0 O' W' σ H' ρ' → AftE G vs0 Wx O' W' σ H' Q (k (b, ρ')) → R b H') : AftB G vs0 Wx O W σ H R r := by
  cases r with
  | bad => exact hw
  | exc c fs ρ => exact hw
  | ok p => exact fun O' W' H' st sr => h p.1 p.2 O' W' H' sr (AftE.back w st hw)
theorem ej_if {c : Expr} (hc : TJ X cl vs0 Wx c f) (h : EJ X cl vs0 Wx a fx) (hb : EJ X cl vs0 Wx b gx') : EJ X cl vs0 Wx (.IfExp c a b pos) (xIf f fx gx') := by
  obtain ⟨tc, pc, qc⟩ := hc.ex
  obtain ⟨t, p, q⟩ := h.ex
  obtain ⟨t', p', q'⟩ := hb.ex
  refine ⟨⟨_, pe_ifExp pc p p', fun O W σ H ρ Q sr hw => qc O W σ H ρ _ sr (b1_core sr.wf hw fun b ρ' O' W' H' sr' hk => ?_)⟩⟩
  cases b with
  | true => exact q O' W' σ H' ρ' Q sr' hk
  | false => exact q' O' W' σ H' ρ' Q sr' hk
end
end Wm
end

section
/-! Statements. -/
namespace Wm
open PySem PySem.Spec PyProof.Rows L2
def AftS (G : Gx) (vs0 : List V) (Wx : WX) (O W : List Addr) (H : Hp) (D : Ends) : Rs Fl → Prop
  | .ok (.nx ρ') => ∀ σ' O' W' H', Stp O W H O' W' H' → SR G vs0 O' W' σ' H' ρ' → D.nx σ' H'
  | .ok (.rt r ρ') => ∀ v σ' O' W' H', Stp O W H O' W' H' → SR G vs0 O' W' σ' H' ρ' → ResR G O' W' σ' H' ρ' v r → D.rt v H'
  | .ok (.bk ρ') => ∀ σ' O' W' H', Stp O W H O' W' H' → SR G vs0 O' W' σ' H' ρ' → D.bk σ' H'
  | .ok (.ct ρ') => ∀ σ' O' W' H', Stp O W H O' W' H' → SR G vs0 O' W' σ' H' ρ' → D.ct σ' H'
  | .exc c fs ρ' => ∀ σ', ExcA G vs0 Wx O W σ' H c fs ρ'
  | .bad => False
structure SJ (X : Cx) (cl : Cl) (vs0 : List V) (Wx : WX) (st : Stmt) (g : Ss) : Prop where
  ex : ∃ t, PS X st t ∧ ∀ O W σ H ρ D, SR (gx X cl) vs0 O W σ H ρ → AftS (gx X cl) vs0 Wx O W H D (g ρ) → t D σ H
structure BJ (X : Cx) (cl : Cl) (vs0 : List V) (Wx : WX) (sts : List Stmt) (g : Ss) : Prop where
  ex : ∃ t, PSs X sts t ∧ ∀ O W σ H ρ D, SR (gx X cl) vs0 O W σ H ρ → AftS (gx X cl) vs0 Wx O W H D (g ρ) → t D σ H
theorem AftS.back {G : Gx} {vs0 : List V} {Wx : WX} {O W O1 W1 : List Addr} {H H1 : Hp} {D : Ends} (w : Wf O W H) (s : Stp O W H O1 W1 H1) : ∀ {r : Rs Fl}, AftS G vs0 Wx O W H D r → AftS G vs0 Wx O1 W1 H1 D r
  | .ok (.nx _), h => fun σ' O' W' H' s' sr => h σ' O' W' H' (s.trans w s') sr
  | .ok (.rt _ _), h => fun v σ' O' W' H' s' sr rr => h v σ' O' W' H' (s.trans w s') sr rr
  | .ok (.bk _), h => fun σ' O' W' H' s' sr => h σ' O' W' H' (s.trans w s') sr
  | .ok (.ct _), h => fun σ' O' W' H' s' sr => h σ' O' W' H' (s.trans w s') sr
  | .exc _ _ _, h => fun σ' => ExcA.back w s (h σ')
  | .bad, h => h
section
variable {X : Cx} {cl : Cl} {vs0 : List V} {Wx : WX} {st : Stmt} {rest : List Stmt} {g h' : Ss} {e a b : Expr} {f : Sx} {pos : Pos}
/-! ### blocks -/
def sNil : Ss := fun ρ => .ok (.nx ρ)
def sSeq (g h : Ss) : Ss := fun ρ => (g ρ).bind fun fl => match fl with
  | .nx ρ' => h ρ'
  | fl => .ok fl
theorem bj_nil : BJ X cl vs0 Wx [] sNil := ⟨⟨_, pss_nil, fun O W σ H ρ D sr h => h σ O W H Stp.refl sr⟩⟩
theorem bj_one (h : SJ X cl vs0 Wx st g) : BJ X cl vs0 Wx [st] g := by
  obtain ⟨t, p, q⟩ := h.ex
  exact ⟨⟨t, pss_one p, q⟩⟩
theorem bj_cons (h1 : SJ X cl vs0 Wx st g) (h2 : BJ X cl vs0 Wx rest h') : BJ X cl vs0 Wx (st :: rest) (sSeq g h') := by
  obtain ⟨t, p, q⟩ := h1.ex
  obtain ⟨t', p', q'⟩ := h2.ex
  refine ⟨⟨_, pss_cons p p', fun O W σ H ρ D sr hw => q O W σ H ρ _ sr ?_⟩⟩
  have hw : AftS (gx X cl) vs0 Wx O W H D ((g ρ).bind fun fl => match fl with
    | .nx ρ' => h' ρ'
    | fl => .ok fl) := hw
  cases e : g ρ with
  | bad => rw [e] at hw; exact hw
  | exc c fs ρ' => rw [e] at hw; exact hw
  | ok fl =>
    rw [e] at hw
    cases fl with
    | nx ρ' => exact fun σ' O' W' H' st sr' => q' O' W' σ' H' ρ' D sr' (AftS.back sr.wf st hw)
    | rt r ρ' => exact hw
    | bk ρ' => exact hw
    | ct ρ' => exact hw

/-! ### from expressions to statements -/
theorem e_core {G : Gx} {O W : List Addr} {σ : L2.St} {H : Hp} {R : VK} {k : SD × List SD → Rs Fl} {D : Ends} {r : Rs (SD × List SD)} (w : Wf O W H)
    (hw : AftS G vs0 Wx O W H D (r.bind k)) (h : ∀ v s ρ' O' W' H', SR G vs0 O' W' σ H' ρ' → ResR G O' W' σ H' ρ' v s → AftS G vs0 Wx O' W' H' D (k (s, ρ')) → R v H') : AftE G vs0 Wx O W σ H R r := by
  cases r with
  | bad => exact hw
  | exc c fs ρ => exact hw σ
  | ok p => exact fun v O' W' H' st sr rr => h v p.1 p.2 O' W' H' sr rr (AftS.back w st hw)
theorem t_core {G : Gx} {O W : List Addr} {σ : L2.St} {H : Hp} {R : Bool → Hp → Prop} {k : Bool × List SD → Rs Fl} {D : Ends} {r : Rs (Bool × List SD)} (w : Wf O W H)
    (hw : AftS G vs0 Wx O W H D (r.bind k)) (h : ∀ b ρ' O' W' H', SR G vs0 O' W' σ H' ρ' → AftS G vs0 Wx O' W' H' D (k (b, ρ')) → R b H') : AftB G vs0 Wx O W σ H R r := by
  cases r with
  | bad => exact hw
  | exc c fs ρ => exact hw σ
  | ok p => exact fun O' W' H' st sr => h p.1 p.2 O' W' H' sr (AftS.back w st hw)
/-- an expression for its own sake -/
def sEx (f : Sx) : Ss := fun ρ => (f ρ).bind fun p => .ok (.nx p.2)
theorem sj_ex (h : EJ X cl vs0 Wx e f) (hs : swapsWith e none pos.line X.env = pure false := by rfl) : SJ X cl vs0 Wx (.Expr e pos) (sEx f) := by
  obtain ⟨t, p, q⟩ := h.ex
  exact ⟨⟨_, ps_expr p hs, fun O W σ H ρ D sr hw => q O W σ H ρ _ sr (e_core sr.wf hw fun v s ρ' O' W' H' sr' rr hk => hk σ O' W' H' Stp.refl sr')⟩⟩
/-- x = e -/
def sSet (i : Nat) (f : Sx) : Ss := fun ρ => (f ρ).bind fun p => .ok (.nx (p.2.set i p.1))
theorem sj_set {i : Nat} {x : Str} {pos' : Pos} (hN : X.N.Nodup) (hi : X.N[i]? = some x) (hx : Loc X.env.scope x) (h : EJ X cl vs0 Wx e f) (hs : swapsWith e (some (.Name x pos')) pos.line X.env = pure false := by rfl) (hf : X.fn x = true ∨ X.env.scope.names.lookup x = some .local := by first | exact .inl rfl | exact .inr rfl | assumption) :
    SJ X cl vs0 Wx (.Assign [.Name x pos'] e pos) (sSet i f) := by
  obtain ⟨t, p, q⟩ := h.ex
  exact ⟨⟨_, ps_set (i := i) hN hi hx p hs hf, fun O W σ H ρ D sr hw => q O W σ H ρ _ sr (e_core sr.wf hw fun v s ρ' O' W' H' sr' rr hk => hk _ O' W' H' Stp.refl (sr'.put rr))⟩⟩
def sRet (f : Sx) : Ss := fun ρ => (f ρ).bind fun p => .ok (.rt p.1 p.2)
theorem sj_ret (h : EJ X cl vs0 Wx e f) : SJ X cl vs0 Wx (.Return (some e) pos) (sRet f) := by
  obtain ⟨t, p, q⟩ := h.ex
  exact ⟨⟨_, ps_ret p, fun O W σ H ρ D sr hw => q O W σ H ρ _ sr (e_core sr.wf hw fun v s ρ' O' W' H' sr' rr hk => hk v σ O' W' H' Stp.refl sr' rr)⟩⟩
/-- return x: a list of one's own is handed on -/
def sRetV (i : Nat) : Ss := fun ρ => match ρ[i]? with
  | some (.sh d) => .ok (.rt (.sh d) ρ)
  | some (.own xs) => .ok (.rt (.own xs) (ρ.set i .no))
  | some (.byr xs) => .ok (.rt (.sh (.lst xs)) (ρ.set i (.sh (.lst xs))))
  | _ => .bad
theorem SR.drop {G : Gx} {O W : List Addr} {σ : L2.St} {H : Hp} {ρ : List SD} (i : Nat) (r : SR G vs0 O W σ H ρ) : SR G vs0 O W σ H (ρ.set i .no) := by
  refine ⟨r.wf, by rw [List.length_set, r.len], fun j s e => ?_, fun j k s t a e1 e2 m1 m2 s1 s2 => ?_, r.tabs⟩
  · by_cases hj : i = j
    · subst hj
      have hl : i < ρ.length := by
        have := (List.getElem?_eq_some_iff.mp e).1
        rw [List.length_set] at this
        exact this
      rw [List.getElem?_set_self hl] at e; cases e
      trivial
    · rw [List.getElem?_set_ne hj] at e
      exact r.slot j s e
  · have key : ∀ {j : Nat} {s : SD}, (ρ.set i .no)[j]? = some s → s.mine = true → i ≠ j := fun {j s} e m z => by
      subst z
      have hl : i < ρ.length := by
        have := (List.getElem?_eq_some_iff.mp e).1
        rw [List.length_set] at this
        exact this
      rw [List.getElem?_set_self hl] at e; cases e; cases m
    have nj := key e1 m1
    have nk := key e2 m2
    rw [List.getElem?_set_ne nj] at e1
    rw [List.getElem?_set_ne nk] at e2
    exact r.apart j k s t a e1 e2 m1 m2 s1 s2
theorem sj_retV {i : Nat} (h : PE X e (tVar i)) : SJ X cl vs0 Wx (.Return (some e) pos) (sRetV i) := by
  refine ⟨⟨_, ps_ret h, fun O W σ H ρ D sr hw => ?_⟩⟩
  unfold sRetV at hw
  split at hw
  · rename_i d e
    obtain ⟨v, e1, r⟩ := sr.get e
    exact ⟨v, e1, hw v σ O W H Stp.refl sr r⟩
  · rename_i xs e
    obtain ⟨a, e1, o⟩ := sr.getOwn e (.inl rfl)
    refine ⟨_, e1, hw (.ref a) σ O W H Stp.refl (sr.drop i) ⟨a, rfl, o, fun j s q m z => ?_⟩⟩
    have nj : i ≠ j := fun y => by
      subst y
      rw [List.getElem?_set_self (List.getElem?_eq_some_iff.mp e).1] at q; cases q; cases m
    rw [List.getElem?_set_ne nj] at q
    exact nj (sr.apart i j _ s a e q rfl m e1 z)
  · rename_i xs e
    obtain ⟨a, O', W', e1, st, sr', r⟩ := sr.demote e (.inr rfl)
    exact ⟨_, e1, hw (.ref a) σ O' W' H st sr' r⟩
  · exact hw.elim
def sRetN : Ss := fun ρ => .ok (.rt (.sh .non) ρ)
theorem sj_retN : SJ X cl vs0 Wx (.Return none pos) sRetN := ⟨⟨_, ps_retN, fun O W σ H ρ D sr h => h .non σ O W H Stp.refl sr (show Rp (gx X cl) O H .non .non by simp only [Rp])⟩⟩
theorem sj_pass : SJ X cl vs0 Wx (.Pass pos) sNil := ⟨⟨_, ps_pass, fun O W σ H ρ D sr h => h σ O W H Stp.refl sr⟩⟩
def sIf (t : Sb) (g h : Ss) : Ss := fun ρ => (t ρ).bind fun p => if p.1 then g p.2 else h p.2
theorem sj_if {c : Expr} {bs cs : List Stmt} {t : Sb} (hc : TJ X cl vs0 Wx c t) (h1 : BJ X cl vs0 Wx bs g) (h2 : BJ X cl vs0 Wx cs h') : SJ X cl vs0 Wx (.If c bs cs pos) (sIf t g h') := by
  obtain ⟨tc, pc, qc⟩ := hc.ex
  obtain ⟨t1, p1, q1⟩ := h1.ex
  obtain ⟨t2, p2, q2⟩ := h2.ex
  refine ⟨⟨_, ps_if pc p1 p2, fun O W σ H ρ D sr hw => qc O W σ H ρ _ sr (t_core sr.wf hw fun b ρ' O' W' H' sr' hk => ?_)⟩⟩
  cases b with
  | true => exact q1 O' W' σ H' ρ' D sr' hk
  | false => exact q2 O' W' σ H' ρ' D sr' hk
/-- a, b, .. = a tuple or what is one -/
def setAll : List Nat → List D → List SD → Rs (List SD)
  | [], [], ρ => .ok ρ
  | i :: is, d :: ds, ρ => setAll is ds (ρ.set i (.sh d))
  | _, _, _ => .bad
def gNames : List Nat → TGs
  | [] => gNil
  | i :: is => gCons (gName i) (gNames is)
theorem gNames_ok {G : Gx} {O W : List Addr} {H : Hp} {Q : L2.St → Hp → Prop} : ∀ {is : List Nat} {ds : List D} {vs : List V} {σ : L2.St} {ρ ρ' : List SD}, SR G vs0 O W σ H ρ → RpA G O H ds vs → setAll is ds ρ = .ok ρ' → (∀ σ', SR G vs0 O W σ' H ρ' → Q σ' H) → gNames is vs σ H Q
  | [], [], vs, σ, ρ, ρ', sr, ra, h, q => by
    simp only [RpA] at ra
    cases h
    exact ⟨ra, q σ sr⟩
  | i :: is, d :: ds, vs, σ, ρ, ρ', sr, ra, h, q => by
    simp only [RpA] at ra
    obtain ⟨v, r, e, h1, h2⟩ := ra
    exact ⟨v, r, e, gNames_ok (sr.set h1) h2 h q⟩
  | [], _ :: _, _, _, _, _, _, _, h, _ => by cases h
  | _ :: _, [], _, _, _, _, _, _, h, _ => by cases h
def sTup (is : List Nat) (f : Sx) : Ss := fun ρ => (f ρ).bind fun p => match p.1 with
  | .sh (.tup ds) => (setAll is ds p.2).bind fun ρ' => .ok (.nx ρ')
  | _ => .bad
theorem setAll_noexc : ∀ {is : List Nat} {ds : List D} {ρ : List SD} {c : Str} {fs : List (Str × D)} {ρ' : List SD}, setAll is ds ρ ≠ .exc c fs ρ'
  | [], [], _, _, _, _ => fun z => nomatch z
  | i :: is, d :: ds, _, _, _, _ => setAll_noexc (is := is) (ds := ds)
  | [], _ :: _, _, _, _, _ => fun z => nomatch z
  | _ :: _, [], _, _, _, _ => fun z => nomatch z
theorem sj_tup {es : List Expr} {k n : Nat} {is : List Nat} {pt : Pos} (hc : X.calm = true) (hg : PGs X es (gNames is)) (h : EJ X cl vs0 Wx e f) (hl : is.length = n) (hn : (assignEach es X.env).length = n := by rfl) (hst : (assignEach es X.env).findIdx? (·.1) = none := by rfl)
    (hs : swapsWithSole [.Tuple es k pt] e pos.line X.env = pure false := by rfl) (hw : swappedStores [.Tuple es k pt] e X.env = pure none := by rfl) (h1 : (assignEach [.Tuple es k pt] X.env).map (·.2) = [assign (.Tuple es k pt) X.env] := by rfl) :
    SJ X cl vs0 Wx (.Assign [.Tuple es k pt] e pos) (sTup is f) := by
  obtain ⟨t, p, q⟩ := h.ex
  refine ⟨⟨_, ps_asg p (pg_tup hc hg hn hst) hs hw h1, fun O W σ H ρ D sr hw => q O W σ H ρ _ sr (e_core sr.wf hw fun v s ρ' O' W' H' sr' rr hk => ?_)⟩⟩
  cases s with
  | sh d =>
    cases d with
    | tup ds =>
      have rr : Rp (gx X cl) O' H' (.tup ds) v := rr
      simp only [Rp] at rr
      obtain ⟨a, vs, e, t, ra⟩ := rr
      have hk : AftS (gx X cl) vs0 Wx O' W' H' D ((setAll is ds ρ').bind fun ρ' => .ok (.nx ρ')) := hk
      cases es : setAll is ds ρ' with
      | bad => rw [es] at hk; exact hk.elim
      | exc c fs ρ2 => exact absurd es setAll_noexc
      | ok ρ2 =>
        rw [es] at hk
        have hlen : ∀ {is : List Nat} {ds : List Wm.D} {ρ ρ2 : List SD}, setAll is ds ρ = .ok ρ2 → is.length = ds.length := by
          intro is
          induction is with
          | nil => intro ds ρ ρ2 h; cases ds with
            | nil => rfl
            | cons _ _ => cases h
          | cons i is ih => intro ds ρ ρ2 h; cases ds with
            | nil => cases h
            | cons d ds => rw [List.length_cons, List.length_cons, ih h]
        refine ⟨a, vs, e, t.sq, by rw [← ra.length, ← hlen es]; exact hl, gNames_ok sr' ra es fun σ' sr2 => hk σ' O' W' H' Stp.refl sr2⟩
    | _ => exact hk.elim
  | _ => exact hk.elim
end
end Wm
end

section
/-! What loops and comprehensions walk: lists and tuples, enumerate and zip of them, ranges. -/
namespace Wm
open PySem PySem.Spec PyProof.Rows L2
/-! ### enumerate(v) of anything that begins -/
theorem enum_new1 {v : Value} {o : Obj} {H : Heap → Prop} (B : Begins v o H) :
    Meets (Builtin.«enumerate.__new__» ⟨[.type "enumerate", v], []⟩) (fun _ R s => H s.heap ∧
      R (.ok (.ret (.ref (s.heap.push o).objs.size))) { s with heap := (s.heap.push o).push { cls := .type "enumerate", data := .fields #[.none, .bool false, .ref s.heap.objs.size, rawInt 0, .none, .none] } }) :=
  .of_wp fun prog w A R s h => by
    obtain ⟨hp, g, d, tk, os⟩ := s
    obtain ⟨h1, h⟩ := h
    have hsub := sub_enumerate
    have qq : ∀ {A' : Around} {E : Value → Shared → Prop} {Q : Value → Shared → Prop}, Q (.ref hp.objs.size) ⟨hp.push o, g, d, tk, os⟩ → wpAny (model prog w) A' (pyIter v) Q E ⟨hp, g, d, tk, os⟩ :=
      fun z => B.iter prog w _ _ ⟨hp, g, d, tk, os⟩ _ h1 z
    wp_walk using qq
    refine wpAny_stack_any fun st => wpAny_pure ?_
    split
    · rename_i c _ _ _ _ _
      cases (c == Value.type "enumerate") <;> (wp_walk using qq; exact ⟨_, rfl, h⟩)
    · wp_walk using qq
      exact ⟨_, rfl, h⟩
theorem enum_begins1 {prog : Program} {w : World} {A : Around} {E : Value → Shared → Prop} {s : Shared} {v : Value} {o : Obj} {H : Heap → Prop} {Q : Value → Shared → Prop} (B : Begins v o H) (h1 : H s.heap)
    (h : ∀ h', IsEnum h' (s.heap.objs.size + 1) s.heap.objs.size 0 .none → h'.get? s.heap.objs.size = some o → h'.objs.size = s.heap.objs.size + 2 →
      (∀ b o, s.heap.get? b = some o → h'.get? b = some o) → Q (.ref (s.heap.objs.size + 1)) { s with heap := h' }) :
    wpAny (model prog w) A (call (.type "enumerate") [v]) Q E s := by
  refine callType_new F.called_enumerate (by decide) (F.typeCall_enumerate_1 _) (F.newCall_enumerate_1 _) (fun obj => F.args_object_init_2 obj _) F.entry_enumerate_new (enum_new1 B) ⟨h1, ?_⟩
  have hz : (s.heap.push o).objs.size = s.heap.objs.size + 1 := Heap.size_push ..
  have he : IsEnum ((s.heap.push o).push { cls := .type "enumerate", data := .fields #[.none, .bool false, .ref s.heap.objs.size, rawInt 0, .none, .none] }) (s.heap.objs.size + 1) s.heap.objs.size 0 .none := by
    have z := Heap.get?_push_size (s.heap.push o) (o := { cls := .type "enumerate", data := .fields #[.none, .bool false, .ref s.heap.objs.size, rawInt 0, .none, .none] }) rfl
    rw [hz] at z
    exact z
  show _ ∧ _
  rw [hz]
  exact ⟨⟨_, he, rfl⟩, h _ he (Heap.get?_push_of_some _ (Heap.get?_push_size _ B.free)) (by rw [Heap.size_push, hz]) fun b o x => Heap.get?_push_of_some _ (Heap.get?_push_of_some _ x)⟩

/-! ### a list or a tuple that is walked -/
inductive Kd where
  | l | t
def SqK (K : PySem.W.Frag) (H : Hp) (a : Addr) (xs : List V) : Kd → Prop
  | .l => SqL K H a xs
  | .t => SqT K H a xs
def IsK (h : Heap) (a : Addr) (its : Array Value) : Kd → Prop
  | .l => h.IsList a its
  | .t => h.IsTuple a its
def ItK (h : Heap) (it a : Addr) (i : Nat) : Kd → Prop
  | .l => h.IsListIter it a i
  | .t => h.IsTupleIter it a i
def obK (a : Addr) : Kd → Obj
  | .l => { cls := .type "list_iterator", data := .fields #[.ref a, .int 0 0] }
  | .t => { cls := .type "tuple_iterator", data := .fields #[.ref a, .int 0 0] }
theorem begK (k : Kd) (a : Addr) (its : Array Value) : Begins (.ref a) (obK a k) (fun h => IsK h a its k) := by
  cases k
  · exact begins_list a its
  · exact begins_tuple a its
theorem obK_it {h : Heap} {it a : Addr} {k : Kd} (e : h.get? it = some (obK a k)) : ItK h it a 0 k := by
  cases k
  · exact ⟨_, e, rfl, rfl⟩
  · exact ⟨_, e, rfl, rfl⟩
theorem ItK.at' {h h' : Heap} {it a : Addr} {i : Nat} {k : Kd} (x : ItK h it a i k) (q : ∀ o, h.get? it = some o → h'.get? it = some o) : ItK h' it a i k := by
  cases k
  · exact Heap.IsListIter.at x q
  · exact Heap.IsTupleIter.at x q
theorem ItK.ob {h : Heap} {it a : Addr} {i : Nat} {k : Kd} (x : ItK h it a i k) : ∃ o, h.get? it = some o ∧ ∀ v, o.data ≠ .cell v := by
  cases k
  · obtain ⟨o, e, c, d⟩ := x
    exact ⟨o, e, fun v z => by rw [d] at z; cases z⟩
  · obtain ⟨o, e, c, d⟩ := x
    exact ⟨o, e, fun v z => by rw [d] at z; cases z⟩
theorem drK {prog : Program} {w : World} {A : Around} (k : Kd) (hh : A.handled = none) (it a : Addr) (hne : a ≠ it) (its : Array Value) : Draws prog w A it [it, a] its.size (fun i v => its[i]? = some v) (fun i h => ItK h it a i k ∧ IsK h a its k) := by
  cases k
  · exact Draws.list hh it a hne its
  · exact Draws.tuple hh it a hne its
section
variable {X : Cx} {pins : List (Addr × Obj)} {σ : L2.St} {H : Hp} {s : Shared} {a : Addr} {xs : List V} {k : Kd}
theorem seqK (I : Inv X pins σ H s) (h : SqK X.K H a xs k) : ∃ its : List Value, Vals xs its ∧ IsK s.heap a its.toArray k := by
  cases k
  · obtain ⟨its, r, p, _⟩ := I.list h
    exact ⟨its, r, p.isList⟩
  · obtain ⟨its, r, p, _⟩ := I.tuple h
    exact ⟨its, r, p⟩
theorem seqK_inj (I : Inv X pins σ H s) {ys : List V} (h : SqK X.K H a xs k) (h' : SqK X.K H a ys k) : xs = ys := by
  cases k
  · exact I.list_inj h h'
  · exact I.tuple_inj h h'
theorem IsK.lt {h : Heap} {its : Array Value} (x : IsK h a its k) : a < h.objs.size := by
  cases k
  · obtain ⟨o, e, _⟩ := x; exact Heap.lt_size e
  · obtain ⟨o, e, _⟩ := x; exact Heap.lt_size e
end
def ItE (K : PySem.W.Frag) (a : Addr) (k : Kd) : It :=
  ⟨fun i H => ∃ (xs : List V) (x : V), SqK K H a xs k ∧ xs[i]? = some x,
   fun i H v H' => ∃ T x, v = .ref T ∧ H T = none ∧ H' = upd H T (.tup [.int (i : Nat), x]) ∧ ∀ xs, SqK K H a xs k → xs[i]? = some x,
   fun i H => ∃ xs : List V, SqK K H a xs k ∧ xs.length = i⟩
theorem turn_enumK {P : Program} {w : World} {K : PySem.W.Frag} {elts : List Expr} {kk : Nat} {tpos : Pos} (k : Kd) (a e it : Addr) :
    Turn P w K (.Tuple elts kk tpos) (ItE K a k) [e, it] e (fun i h => (∃ old, IsEnum h e it (0 + (i : Int)) old) ∧ ItK h it a i k ∧ e ≠ it ∧ a ≠ it ∧ a ≠ e) where
  mem := by simp
  obj := fun i h st b hb => by
    obtain ⟨⟨old, he⟩, hi, _⟩ := st
    rcases (show b = e ∨ b = it by simpa using hb) with z | z
    · rw [z]; exact ⟨_, he, fun v q => nomatch q⟩
    · rw [z]; exact hi.ob
  keep := fun i h h' st q => by
    obtain ⟨⟨old, he⟩, hi, hn⟩ := st
    exact ⟨⟨old, q e (by simp) _ he⟩, hi.at' fun o z => q it (by simp) o z, hn⟩
  item := by
    intro X hP hw hK hc i pins s σ H E I hf st hg
    subst hP hw hK
    obtain ⟨old, hit, hne, hai, hae⟩ := st
    obtain ⟨xs, x, hq, hx⟩ := hg
    obtain ⟨its, rv, p⟩ := seqK I hq
    obtain ⟨u, hu, ru⟩ := rv.get hx
    have hil : i < its.toArray.size := by
      rw [List.size_toArray]
      exact (List.getElem?_eq_some_iff.mp hu).1
    have D := drK (prog := X.prog) (w := X.w) (A := X.A.in1) k (I.ok.hd hc) it a hai its.toArray
    have N := GoesN.enumFrom (elts := elts) (x1 := kk) (pos := tpos) 0 D e hne (by simp [hne, Ne.symm hae]) (by simp)
    refine N.goes i s _ _ hil ⟨old, hit, p⟩ fun v h' tk hY st' hk htk => ?_
    obtain ⟨T, t, y, rfl, hTn, hy, hT⟩ := hY
    obtain ⟨hen, hit', _⟩ := st'
    have ey : y = u := by
      have h2 : its.toArray[i]? = some u := by simpa using hu
      exact Option.some.inj (hy.symm.trans h2)
    subst ey
    have new : ObjOk X.prog X.w (upd H T (.tup [.int (i : Nat), x])) h' T (.tup [.int (i : Nat), x]) := by
      refine ⟨by show 2 ≤ sizeLine; decide, [.int (0 + (i : Int)) t, y], .cons ⟨t, ?_⟩ (.cons ru .nil), hT⟩
      rw [Int.zero_add]
    have J : Inv X pins σ (upd H T (.tup [.int (i : Nat), x])) { s with heap := h', toks := tk } := I.turnedNew (ch := [e, it]) (fun b ob hb q => hk b ob hb q) hf hTn new
    refine ⟨.ref T, _, J, rfl, ⟨T, x, rfl, I.hok.fresh hTn, rfl, fun ys hy' => by rw [seqK_inj I hy' hq]; exact hx⟩, ⟨hen, hit', hne, hai, hae⟩, fun b hb => ?_⟩
    have hbl : b < s.heap.objs.size := by
      obtain ⟨ol, he⟩ := old
      rcases (show b = e ∨ b = it by simpa using hb) with z | z
      · rw [z]; exact Heap.lt_size he
      · rw [z]; obtain ⟨o, q, _⟩ := hit.ob; exact Heap.lt_size q
    rw [upd_ne (Nat.ne_of_lt (Nat.lt_of_lt_of_le hbl hTn))]
    exact (hf b hb).1
  done := by
    intro X hP hw hK hc i pins s σ H E I hf st hg
    subst hP hw hK
    obtain ⟨old, hit, hne, hai, hae⟩ := st
    obtain ⟨xs, hq, hx⟩ := hg
    obtain ⟨its, rv, p⟩ := seqK I hq
    have hl : its.toArray.size = i := by rw [List.size_toArray, ← rv.length]; exact hx
    have D := drK (prog := X.prog) (w := X.w) (A := X.A.in1) k (I.ok.hd hc) it a hai its.toArray
    have N := GoesN.enumFrom (elts := elts) (x1 := kk) (pos := tpos) 0 D e hne (by simp [hne, Ne.symm hae]) (by simp)
    refine N.stops s (fun s1 => Inv X pins σ H s1) E ?_ fun h' tk hk _ => I.turnedL (ch := [e, it]) (fun b o hb q => hk b o hb q) hf
    rw [hl]
    exact ⟨old, hit, p⟩
  self := fun A i s Q E st h => by
    obtain ⟨⟨_, he⟩, _⟩ := st
    exact wpAny_pyIter_enum he h
def ItZ (K : PySem.W.Frag) (a b : Addr) (k m : Kd) : It :=
  ⟨fun i H => ∃ (xs ys : List V) (x y : V), SqK K H a xs k ∧ SqK K H b ys m ∧ xs[i]? = some x ∧ ys[i]? = some y,
   fun i H v H' => ∃ T x y, v = .ref T ∧ H T = none ∧ H' = upd H T (.tup [x, y]) ∧ (∀ xs, SqK K H a xs k → xs[i]? = some x) ∧ ∀ ys, SqK K H b ys m → ys[i]? = some y,
   fun i H => ∃ xs ys : List V, SqK K H a xs k ∧ SqK K H b ys m ∧ min xs.length ys.length = i⟩
theorem turn_zipK {P : Program} {w : World} {K : PySem.W.Frag} {elts : List Expr} {kk : Nat} {tpos : Pos} {k m : Kd} {a b z TI TO i1 i2 : Addr} (S : ZipSep2 z TI TO i1 i2 [i1, a] [i2, b]) (h1 : a ≠ i1) (h2 : b ≠ i2) :
    Turn P w K (.Tuple elts kk tpos) (ItZ K a b k m) [z, TI, TO, i1, i2] z (fun i h => IsZip h z TI TO .none ∧ IsTupOf2 h TI (.ref i1) (.ref i2) ∧ (∃ a1 a2, IsTupOf2 h TO a1 a2) ∧ ItK h i1 a i k ∧ ItK h i2 b i m) where
  mem := by simp
  obj := fun i h st c hc => by
    obtain ⟨hz, hTI, ⟨x, y, hTO⟩, q1, q2⟩ := st
    rcases (show c = z ∨ c = TI ∨ c = TO ∨ c = i1 ∨ c = i2 by simpa using hc) with q | q | q | q | q
    · rw [q]; exact ⟨_, hz, fun v q => nomatch q⟩
    · rw [q]; exact ⟨_, hTI, fun v q => nomatch q⟩
    · rw [q]; exact ⟨_, hTO, fun v q => nomatch q⟩
    · rw [q]; exact q1.ob
    · rw [q]; exact q2.ob
  keep := fun i h h' st q => by
    obtain ⟨hz, hTI, ⟨x, y, hTO⟩, q1, q2⟩ := st
    exact ⟨q z (by simp) _ hz, q TI (by simp) _ hTI, ⟨x, y, q TO (by simp) _ hTO⟩, q1.at' fun o y => q i1 (by simp) o y, q2.at' fun o y => q i2 (by simp) o y⟩
  item := by
    intro X hP hw hK hc i pins s σ H E I hf st hg
    subst hP hw hK
    obtain ⟨hz, hTI, hTO, q1, q2⟩ := st
    obtain ⟨xs, ys, x, y, hqx, hqy, hx, hy⟩ := hg
    obtain ⟨its, rv, p⟩ := seqK I hqx
    obtain ⟨its2, rv2, p2⟩ := seqK I hqy
    obtain ⟨u, hu, ru⟩ := rv.get hx
    obtain ⟨u2, hu2, ru2⟩ := rv2.get hy
    have hil : i < min its.toArray.size its2.toArray.size := by
      rw [List.size_toArray, List.size_toArray]
      exact Nat.lt_min.mpr ⟨(List.getElem?_eq_some_iff.mp hu).1, (List.getElem?_eq_some_iff.mp hu2).1⟩
    have D1 := drK (prog := X.prog) (w := X.w) (A := X.A.in1) k (I.ok.hd hc) i1 a h1 its.toArray
    have D2 := drK (prog := X.prog) (w := X.w) (A := X.A.in1) m (I.ok.hd hc) i2 b h2 its2.toArray
    have N := GoesN.zip2 (elts := elts) (x1 := kk) (pos := tpos) S D1 D2
    refine N.goes i s _ _ hil ⟨hz, hTI, hTO, ⟨q1, p⟩, ⟨q2, p2⟩⟩ fun v h' tk hY st' hk htk => ?_
    obtain ⟨T, v1, v2, rfl, hTn, hv1, hv2, hT⟩ := hY
    obtain ⟨hz', hTI', hTO', ⟨q1', _⟩, ⟨q2', _⟩⟩ := st'
    have e1 : v1 = u := by
      have z : its.toArray[i]? = some u := by simpa using hu
      exact Option.some.inj (hv1.symm.trans z)
    have e2 : v2 = u2 := by
      have z : its2.toArray[i]? = some u2 := by simpa using hu2
      exact Option.some.inj (hv2.symm.trans z)
    subst e1 e2
    have new : ObjOk X.prog X.w (upd H T (.tup [x, y])) h' T (.tup [x, y]) := ⟨by show 2 ≤ sizeLine; decide, [v1, v2], .cons ru (.cons ru2 .nil), hT⟩
    have hf4 : ∀ c ∈ [z, TO, i1, i2], FpOk X pins H c := fun c hc' => hf c (by
      rcases (show c = z ∨ c = TO ∨ c = i1 ∨ c = i2 by simpa using hc') with q | q | q | q <;> simp [q])
    have J : Inv X pins σ (upd H T (.tup [x, y])) { s with heap := h', toks := tk } := I.turnedNew (ch := [z, TO, i1, i2]) (fun c ob hb q => hk c ob hb q) hf4 hTn new
    refine ⟨.ref T, _, J, rfl, ⟨T, x, y, rfl, I.hok.fresh hTn, rfl, fun l hl => by rw [seqK_inj I hl hqx]; exact hx, fun l hl => by rw [seqK_inj I hl hqy]; exact hy⟩, ⟨hz', hTI', hTO', q1', q2'⟩, fun c hcm => ?_⟩
    have hbl : c < s.heap.objs.size := by
      obtain ⟨_, _, hTO⟩ := hTO
      rcases (show c = z ∨ c = TI ∨ c = TO ∨ c = i1 ∨ c = i2 by simpa using hcm) with q | q | q | q | q
      · rw [q]; exact Heap.lt_size hz
      · rw [q]; exact Heap.lt_size hTI
      · rw [q]; exact Heap.lt_size hTO
      · rw [q]; obtain ⟨o, y, _⟩ := q1.ob; exact Heap.lt_size y
      · rw [q]; obtain ⟨o, y, _⟩ := q2.ob; exact Heap.lt_size y
    rw [upd_ne (Nat.ne_of_lt (Nat.lt_of_lt_of_le hbl hTn))]
    exact (hf c hcm).1
  done := by
    intro X hP hw hK hc i pins s σ H E I hf st hg
    subst hP hw hK
    obtain ⟨hz, hTI, hTO, q1, q2⟩ := st
    obtain ⟨xs, ys, hqx, hqy, hx⟩ := hg
    obtain ⟨its, rv, p⟩ := seqK I hqx
    obtain ⟨its2, rv2, p2⟩ := seqK I hqy
    have hl : min its.toArray.size its2.toArray.size = i := by rw [List.size_toArray, List.size_toArray, ← rv.length, ← rv2.length]; exact hx
    have D1 := drK (prog := X.prog) (w := X.w) (A := X.A.in1) k (I.ok.hd hc) i1 a h1 its.toArray
    have D2 := drK (prog := X.prog) (w := X.w) (A := X.A.in1) m (I.ok.hd hc) i2 b h2 its2.toArray
    have N := GoesN.zip2 (elts := elts) (x1 := kk) (pos := tpos) S D1 D2
    have hf4 : ∀ c ∈ [z, TO, i1, i2], FpOk X pins H c := fun c hc' => hf c (by
      rcases (show c = z ∨ c = TO ∨ c = i1 ∨ c = i2 by simpa using hc') with q | q | q | q <;> simp [q])
    refine N.stops s (fun s1 => Inv X pins σ H s1) E ?_ fun h' tk hk _ => I.turnedL (ch := [z, TO, i1, i2]) (fun b o hb q => hk b o hb q) hf4
    rw [hl]
    exact ⟨hz, hTI, hTO, ⟨q1, p⟩, ⟨q2, p2⟩⟩
  self := fun A i s Q E st h => wpAny_pyIter_zip st.1 h

/-! ### how they come -/
section
variable {X : Cx} {tg : Expr} {e e2 : Expr} {ta : TA} {te : TE} {p pos tpos : Pos} {elts : List Expr} {kk : Nat}
def itSeq (K : PySem.W.Frag) (a : Addr) : Kd → It
  | .l => Itl K a
  | .t => Itt K a
def iSeq (K : PySem.W.Frag) (te : TE) : TI := fun σ H R => te σ H fun x H1 => ∃ a k, x = .ref a ∧ (∃ xs, SqK K H1 a xs k) ∧ R (itSeq K a k) H1
theorem pi_seq (h : PE X e te) : PI X tg e (iSeq X.K te) := by
  refine ⟨fun pins s σ H R I hw => thn (h.run pins s σ H _ I hw) fun v s1 ⟨x, H1, I1, r1, q1⟩ => ?_⟩
  obtain ⟨a, k, rfl, ⟨xs, hq⟩, q⟩ := q1
  obtain rfl : v = Value.ref a := r1
  cases k with
  | l =>
    obtain ⟨its, rv, p, _⟩ := I1.list hq
    exact wpAny_pyIter_list p.isList (pi_one (tk := s1.toks) I1 _ (turn_list a _) ⟨_, Heap.get?_push_size _ rfl, rfl, rfl⟩ q)
  | t =>
    obtain ⟨its, rv, p, _⟩ := I1.tuple hq
    exact wpAny_pyIter_tuple p (pi_one (tk := s1.toks) I1 _ (turn_tuple a _) ⟨_, Heap.get?_push_size _ rfl, rfl, rfl⟩ q)
def iEnumK (K : PySem.W.Frag) (ta : TA) : TI := fun σ H R => ta σ H fun vs H1 => ∃ a k xs, vs = [.ref a] ∧ SqK K H1 a xs k ∧ R (ItE K a k) H1
theorem pi_enumK (hg : Gl X "enumerate") (hm : X.mg "enumerate" = none) (ha : PA X [e] ta) (hs : starEach [e] X.env = [(false, eval e X.env)] := by rfl) :
    PI X (.Tuple elts kk tpos) (.Call (.Name "enumerate" p) [e] [] pos) (iEnumK X.K ta) := by
  refine ⟨fun pins s σ H R I h => Call_ (ld_blt I hg hm boot_enumerate (PyProof.Rows.callWith_type1 (thn (ha.run pos pins s σ H _ I h) fun us s1 ⟨vs, H1, I1, r1, q1⟩ => ?_) hs rfl))⟩
  obtain ⟨a, k, xs, rfl, hq, q⟩ := q1
  obtain ⟨u, rfl, ru⟩ := vals1 r1
  obtain rfl : u = Value.ref a := ru
  obtain ⟨its, rv, p'⟩ := seqK I1 hq
  have la := p'.lt
  refine enum_begins1 (begK k a its.toArray) p' fun h' he hit hsz hk => wpAny_pyIter_enum he ?_
  have J : Inv X pins σ H1 { s1 with heap := h' } := I1.kept (t' := s1.toks) hk
  refine ⟨s1.heap.objs.size + 1, [s1.heap.objs.size + 1, s1.heap.objs.size], _, _, H1, rfl, J, turn_enumK k a (s1.heap.objs.size + 1) s1.heap.objs.size, ⟨⟨.none, he⟩, obK_it hit, Nat.succ_ne_self _, Nat.ne_of_lt la, Nat.ne_of_lt (Nat.lt_succ_of_lt la)⟩, fun b hb => ?_, q⟩
  have hle : s1.heap.objs.size ≤ b := by
    rcases (show b = s1.heap.objs.size + 1 ∨ b = s1.heap.objs.size by simpa using hb) with z | z
    · rw [z]; exact Nat.le_succ _
    · rw [z]; exact Nat.le_refl _
  exact I1.fpOk hle (I1.hok.fresh hle)
def iZipK (K : PySem.W.Frag) (ta : TA) : TI := fun σ H R => ta σ H fun vs H1 => ∃ a b k m xs ys, vs = [.ref a, .ref b] ∧ SqK K H1 a xs k ∧ SqK K H1 b ys m ∧ R (ItZ K a b k m) H1
theorem pi_zipK (hg : Gl X "zip") (hm : X.mg "zip" = none) (ha : PA X [e, e2] ta) (hs : starEach [e, e2] X.env = (false, eval e X.env) :: starEach [e2] X.env := by rfl) (hpl : (backTo pos (starEach [e2] X.env)).any (·.1) = false := by rfl) :
    PI X (.Tuple elts kk tpos) (.Call (.Name "zip" p) [e, e2] [] pos) (iZipK X.K ta) := by
  refine ⟨fun pins s σ H R I h => Call_ (ld_blt I hg hm PyProof.Rows.boot_zip (PyProof.Rows.callWith_type1 (thn (ha.run pos pins s σ H _ I h) fun us s1 ⟨vs, H1, I1, r1, q1⟩ => ?_) hs hpl))⟩
  obtain ⟨a, b, k, m, xs, ys, rfl, hqx, hqy, q⟩ := q1
  obtain ⟨u, u2, rfl, ru, ru2⟩ := vals2 r1
  obtain rfl : u = Value.ref a := ru
  obtain rfl : u2 = Value.ref b := ru2
  obtain ⟨its, rv, p1⟩ := seqK I1 hqx
  obtain ⟨its2, rv2, p2⟩ := seqK I1 hqy
  have la := p1.lt
  have lb := p2.lt
  refine zip_begins2 (begK k a its.toArray) (begK m b its2.toArray) p1 p2 fun h' hz hTI hTO hi1 hi2 hsz hk => wpAny_pyIter_zip hz ?_
  have J : Inv X pins σ H1 { s1 with heap := h' } := I1.kept (t' := s1.toks) hk
  refine ⟨s1.heap.objs.size + 4, [s1.heap.objs.size + 4, s1.heap.objs.size + 2, s1.heap.objs.size + 3, s1.heap.objs.size, s1.heap.objs.size + 1], _, _, H1, rfl, J,
    turn_zipK (k := k) (m := m) (a := a) (b := b) (zip_sep2 (N := s1.heap.objs.size) (fp1 := [a]) (fp2 := [b]) (by simpa using la) (by simpa using lb)) (Nat.ne_of_lt la) (Nat.ne_of_lt (Nat.lt_succ_of_lt lb)), ⟨hz, hTI, ⟨_, _, hTO⟩, obK_it hi1, obK_it hi2⟩, fun c hcm => ?_, q⟩
  have hle : s1.heap.objs.size ≤ c := by
    rcases (show c = s1.heap.objs.size + 4 ∨ c = s1.heap.objs.size + 2 ∨ c = s1.heap.objs.size + 3 ∨ c = s1.heap.objs.size ∨ c = s1.heap.objs.size + 1 by simpa using hcm) with z | z | z | z | z
    · rw [z]; exact Nat.le_add_right _ _
    · rw [z]; exact Nat.le_add_right _ _
    · rw [z]; exact Nat.le_add_right _ _
    · rw [z]; exact Nat.le_refl _
    · rw [z]; exact Nat.le_add_right _ _
  exact I1.fpOk hle (I1.hok.fresh hle)
end
end Wm
end

section
/-! Sources of loops, targets, for, while, comprehensions. -/
namespace Wm
open PySem PySem.Spec PyProof.Rows L2
/-- what is walked: its items; the slots whose lists of one's own are walked, as they must stay -/
structure Itm where
  xs : List D
  bor : List (Nat × SD)
def Itm.keep (m : Itm) (ρ : List SD) : Prop := ∀ p ∈ m.bor, ρ[p.1]? = some p.2
def Itm.slots (m : Itm) (σ σ' : L2.St) : Prop := ∀ p ∈ m.bor, σ'[p.1]? = σ[p.1]?
abbrev Src := List SD → Rs (Itm × List SD)
structure Wlk (G : Gx) (vs0 : List V) (O W : List Addr) (σ : L2.St) (H : Hp) (J : It) (m : Itm) : Prop where
  len : m.xs.length ≤ sizeLine
  go : ∀ O2 W2 σ2 H2 ρ2 i d, Stp O W H O2 W2 H2 → SR G vs0 O2 W2 σ2 H2 ρ2 → m.slots σ σ2 → m.keep ρ2 → m.xs[i]? = some d → J.go i H2 ∧ ∀ x H3, J.yld i H2 x H3 → Same H2 H3 ∧ Rp G O2 H3 d x
  stop : ∀ O2 W2 σ2 H2 ρ2, Stp O W H O2 W2 H2 → SR G vs0 O2 W2 σ2 H2 ρ2 → m.slots σ σ2 → m.keep ρ2 → J.stop m.xs.length H2
def AftI (G : Gx) (vs0 : List V) (Wx : WX) (O W : List Addr) (σ : L2.St) (H : Hp) (R : It → Hp → Prop) : Rs (Itm × List SD) → Prop
  | .ok (m, ρ') => ∀ J O' W' H', Stp O W H O' W' H' → SR G vs0 O' W' σ H' ρ' → m.keep ρ' → Wlk G vs0 O' W' σ H' J m → R J H'
  | .exc c fs ρ' => ExcA G vs0 Wx O W σ H c fs ρ'
  | .bad => False
structure IJ (X : Cx) (cl : Cl) (vs0 : List V) (Wx : WX) (tg iter : Expr) (src : Src) : Prop where
  ex : ∃ wi, PI X tg iter wi ∧ (∀ x, foldedSetIterable iter X.env x = pure x) ∧ ∀ O W σ H ρ R, SR (gx X cl) vs0 O W σ H ρ → AftI (gx X cl) vs0 Wx O W σ H R (src ρ) → wi σ H R
/-- a value that is a list or tuple, in all worlds to come -/
def Cn (G : Gx) (vs0 : List V) (O W : List Addr) (σ : L2.St) (H : Hp) (v : V) (m : Itm) : Prop :=
  m.xs.length ≤ sizeLine ∧ ∃ a k, v = .ref a ∧ ∀ O2 W2 σ2 H2 ρ2, Stp O W H O2 W2 H2 → SR G vs0 O2 W2 σ2 H2 ρ2 → m.slots σ σ2 → m.keep ρ2 → ∃ vs, SqK G.K H2 a vs k ∧ RpA G O2 H2 m.xs vs
def AftC (G : Gx) (vs0 : List V) (Wx : WX) (O W : List Addr) (σ : L2.St) (H : Hp) (R : V → Hp → Prop) : Rs (Itm × List SD) → Prop
  | .ok (m, ρ') => ∀ v O' W' H', Stp O W H O' W' H' → SR G vs0 O' W' σ H' ρ' → m.keep ρ' → Cn G vs0 O' W' σ H' v m → R v H'
  | .exc c fs ρ' => ExcA G vs0 Wx O W σ H c fs ρ'
  | .bad => False
def itemsOf : D → Rs (List D)
  | .lst xs => .ok xs
  | .tup xs => .ok xs
  | _ => .bad
def conV (i : Nat) : Src := fun ρ => match ρ[i]? with
  | some (.sh d) => (itemsOf d).bind fun xs => .ok (⟨xs, []⟩, ρ)
  | some (.own xs) => .ok (⟨xs, [(i, .own xs)]⟩, ρ)
  | some (.byr xs) => .ok (⟨xs, [(i, .byr xs)]⟩, ρ)
  | _ => .bad
def con : LOp → Src
  | .va i, ρ => conV i ρ
  | .ex f, ρ => (f ρ).bind fun p => (itemsOf p.1.frz).bind fun xs => .ok (⟨xs, []⟩, p.2)
section
variable {X : Cx} {cl : Cl} {vs0 : List V} {Wx : WX}
theorem cn_data {G : Gx} {O W : List Addr} {σ : L2.St} {H : Hp} {d : D} {v : V} {xs : List D} (w : Wf O W H) (h : Rp G O H d v) (e : itemsOf d = .ok xs) : Cn G vs0 O W σ H v ⟨xs, []⟩ := by
  cases d with
  | lst ds =>
    cases e
    have h' := h
    simp only [Rp] at h'
    obtain ⟨a, vs, ev, t, r⟩ := h'
    refine ⟨by rw [r.length]; exact t.1, a, .l, ev, fun O2 W2 σ2 H2 ρ2 st sr _ _ => ⟨vs, (LO.step (G := G) w st t).sq, r.step w st⟩⟩
  | tup ds =>
    cases e
    have h' := h
    simp only [Rp] at h'
    obtain ⟨a, vs, ev, t, r⟩ := h'
    refine ⟨by rw [r.length]; exact t.1, a, .t, ev, fun O2 W2 σ2 H2 ρ2 st sr _ _ => ⟨vs, (TO.step (G := G) w st t).sq, r.step w st⟩⟩
  | _ => cases e
theorem itemsOf_noexc {d : D} {c : Str} {fs : List (Str × D)} {ρ : List SD} : itemsOf d ≠ .exc c fs ρ := by
  cases d <;> exact fun z => nomatch z
theorem cn_own {G : Gx} {O W : List Addr} {σ : L2.St} {H : Hp} {ρ : List SD} {i : Nat} {s : SD} {xs : List D} {a : Addr} (sr : SR G vs0 O W σ H ρ) (e : σ[i]? = some (some (.ref a))) (o : OwnAt G O W H a xs) (hs : s = .own xs ∨ s = .byr xs) : Cn G vs0 O W σ H (.ref a) ⟨xs, [(i, s)]⟩ := by
  obtain ⟨_, vs, _, h3, h4⟩ := o
  refine ⟨by rw [h4.length]; exact h3, a, .l, rfl, fun O2 W2 σ2 H2 ρ2 st sr2 hsl hk => ?_⟩
  have k1 : ρ2[i]? = some s := hk (i, s) (by simp)
  have k2 : σ2[i]? = σ[i]? := hsl (i, s) (by simp)
  obtain ⟨b, eb, _, vs', h2', _, h4'⟩ := sr2.getOwn k1 hs
  rw [k2, e] at eb; cases eb
  exact ⟨vs', SqL.of h2', h4'⟩
theorem con_core {e : Expr} {o : LOp} (h : LJ X cl vs0 Wx e o) : ∃ t, PE X e t ∧ ∀ O W σ H ρ R, SR (gx X cl) vs0 O W σ H ρ → AftC (gx X cl) vs0 Wx O W σ H R (con o ρ) → t σ H R := by
  cases o with
  | va i =>
    refine ⟨tVar i, h, fun O W σ H ρ R sr hw => ?_⟩
    have hw : AftC (gx X cl) vs0 Wx O W σ H R (conV i ρ) := hw
    unfold conV at hw
    split at hw
    · rename_i d e
      obtain ⟨v, ev, r⟩ := sr.get e
      cases e2 : itemsOf d with
      | bad => rw [e2] at hw; exact hw.elim
      | exc c fs ρ' => exact absurd e2 itemsOf_noexc
      | ok xs =>
        rw [e2] at hw
        exact ⟨v, ev, hw v O W H Stp.refl sr (fun p hp => absurd hp (by simp)) (cn_data sr.wf r e2)⟩
    · rename_i xs e
      obtain ⟨a, ea, oa⟩ := sr.getOwn e (.inl rfl)
      exact ⟨_, ea, hw (.ref a) O W H Stp.refl sr (fun p hp => by
        have : p = (i, SD.own xs) := by simpa using hp
        rw [this]; exact e) (cn_own sr ea oa (.inl rfl))⟩
    · rename_i xs e
      obtain ⟨a, ea, oa⟩ := sr.getOwn e (.inr rfl)
      exact ⟨_, ea, hw (.ref a) O W H Stp.refl sr (fun p hp => by
        have : p = (i, SD.byr xs) := by simpa using hp
        rw [this]; exact e) (cn_own sr ea oa (.inr rfl))⟩
    · exact hw.elim
  | ex f =>
    obtain ⟨t, q1, q2⟩ := h.ex
    refine ⟨t, q1, fun O W σ H ρ R sr hw => q2 O W σ H ρ _ sr ?_⟩
    have hw : AftC (gx X cl) vs0 Wx O W σ H R ((f ρ).bind fun p => (itemsOf p.1.frz).bind fun xs => .ok (⟨xs, []⟩, p.2)) := hw
    cases e : f ρ with
    | bad => rw [e] at hw; exact hw
    | exc c fs ρ' => rw [e] at hw; exact hw
    | ok p =>
      obtain ⟨r, ρ1⟩ := p
      rw [e] at hw
      have hw2 : AftC (gx X cl) vs0 Wx O W σ H R ((itemsOf r.frz).bind fun xs => .ok (⟨xs, []⟩, ρ1)) := hw
      intro v O1 W1 H1 st1 sr1 rr
      obtain ⟨O2, W2, st2, sr2, rp⟩ := rr.frz sr1
      cases e2 : itemsOf r.frz with
      | bad => rw [e2] at hw2; exact hw2.elim
      | exc c fs ρ' => exact absurd e2 itemsOf_noexc
      | ok xs =>
        rw [e2] at hw2
        exact hw2 v O2 W2 H1 (st1.trans sr.wf st2) sr2 (fun p hp => absurd hp (by simp)) (cn_data sr2.wf rp e2)
/-! ### sources -/
theorem itemsV {G : Gx} {O : List Addr} {H : Hp} {ds : List D} {vs : List V} {i : Nat} {d : D} (r : RpA G O H ds vs) (e : ds[i]? = some d) : ∃ v, vs[i]? = some v ∧ Rp G O H d v := r.getD e
/-- a list or tuple to be walked -/
def CJ (X : Cx) (cl : Cl) (vs0 : List V) (Wx : WX) (e : Expr) (src : Src) : Prop := ∃ t, PE X e t ∧ ∀ O W σ H ρ R, SR (gx X cl) vs0 O W σ H ρ → AftC (gx X cl) vs0 Wx O W σ H R (src ρ) → t σ H R
/-- a name that a loop walks: the caller's list stays as it is, one's own is given up -/
def conF (i : Nat) : Src := fun ρ => match ρ[i]? with
  | some (.sh d) => (itemsOf d).bind fun xs => .ok (⟨xs, []⟩, ρ)
  | some (.own xs) => .ok (⟨xs, []⟩, ρ.set i (.sh (.lst xs)))
  | some (.byr xs) => .ok (⟨xs, [(i, .byr xs)]⟩, ρ)
  | _ => .bad
theorem cj_F {i : Nat} {e : Expr} (h : PE X e (tVar i)) : CJ X cl vs0 Wx e (conF i) := by
  refine ⟨tVar i, h, fun O W σ H ρ R sr hw => ?_⟩
  unfold conF at hw
  split at hw
  · rename_i d e
    obtain ⟨v, ev, r⟩ := sr.get e
    cases e2 : itemsOf d with
    | bad => rw [e2] at hw; exact hw.elim
    | exc c fs ρ' => exact absurd e2 itemsOf_noexc
    | ok xs =>
      rw [e2] at hw
      exact ⟨v, ev, hw v O W H Stp.refl sr (fun p hp => absurd hp (by simp)) (cn_data sr.wf r e2)⟩
  · rename_i xs e
    obtain ⟨a, O', W', e1, st, sr', r⟩ := sr.demote e (.inl rfl)
    exact ⟨_, e1, hw (.ref a) O' W' H st sr' (fun p hp => absurd hp (by simp)) (cn_data (d := .lst xs) sr'.wf r rfl)⟩
  · rename_i xs e
    obtain ⟨a, ea, oa⟩ := sr.getOwn e (.inr rfl)
    exact ⟨_, ea, hw (.ref a) O W H Stp.refl sr (fun p hp => by
      have : p = (i, SD.byr xs) := by simpa using hp
      rw [this]; exact e) (cn_own sr ea oa (.inr rfl))⟩
  · exact hw.elim
theorem ij_seqC {tg e : Expr} {src : Src} (h : CJ X cl vs0 Wx e src) (hs : ∀ x, foldedSetIterable e X.env x = pure x := by intro _; rfl) : IJ X cl vs0 Wx tg e src := by
  obtain ⟨t, p, q⟩ := h
  refine ⟨⟨_, pi_seq p, hs, fun O W σ H ρ R sr hw => q O W σ H ρ _ sr ?_⟩⟩
  cases e : src ρ with
  | bad => rw [e] at hw; exact hw
  | exc c fs ρ' => rw [e] at hw; exact hw
  | ok m =>
    obtain ⟨m, ρ1⟩ := m
    rw [e] at hw
    intro v O' W' H' st sr' hk ⟨hl, a, k, ev, hc⟩
    refine ⟨a, k, ev, ?_, hw _ O' W' H' st sr' hk ⟨hl, fun O2 W2 σ2 H2 ρ2 i d st2 sr2 h1 h2 hd => ?_, fun O2 W2 σ2 H2 ρ2 st2 sr2 h1 h2 => ?_⟩⟩
    · obtain ⟨vs, hq, _⟩ := hc O' W' σ H' ρ1 Stp.refl sr' (fun _ _ => rfl) hk
      exact ⟨vs, hq⟩
    · obtain ⟨vs, hq, ra⟩ := hc O2 W2 σ2 H2 ρ2 st2 sr2 h1 h2
      obtain ⟨v, hv, rv⟩ := ra.getD hd
      cases k with
      | l => exact ⟨⟨vs, v, hq, hv⟩, fun x H3 ⟨e3, hy⟩ => by
          subst e3
          have : x = v := Option.some.inj ((hy vs hq).symm.trans hv)
          subst this
          exact ⟨Same.refl _, rv⟩⟩
      | t => exact ⟨⟨vs, v, hq, hv⟩, fun x H3 ⟨e3, hy⟩ => by
          subst e3
          have : x = v := Option.some.inj ((hy vs hq).symm.trans hv)
          subst this
          exact ⟨Same.refl _, rv⟩⟩
    · obtain ⟨vs, hq, ra⟩ := hc O2 W2 σ2 H2 ρ2 st2 sr2 h1 h2
      cases k with
      | l => exact ⟨vs, hq, Nat.le_of_eq ra.length.symm⟩
      | t => exact ⟨vs, hq, Nat.le_of_eq ra.length.symm⟩
theorem ij_seq {tg e : Expr} {o : LOp} (h : LJ X cl vs0 Wx e o) (hs : ∀ x, foldedSetIterable e X.env x = pure x := by intro _; rfl) : IJ X cl vs0 Wx tg e (con o) := ij_seqC (con_core h) hs
theorem rp_tup' {G : Gx} {O W : List Addr} {H : Hp} {p : Addr} {vs : List V} {ds : List D} (w : Wf O W H) (n : H p = none) (hl : vs.length ≤ sizeLine) (h : RpA G O H ds vs) : Same H (upd H p (.tup vs)) ∧ Rp G O (upd H p (.tup vs)) (.tup ds) (.ref p) := ⟨same_upd n, rp_tup w n hl h⟩
def enumD (xs : List D) : List D := xs.mapIdx fun i x => .tup [.int (i : Nat), x]
def enumS (src : Src) : Src := fun ρ => (src ρ).bind fun p => .ok (⟨enumD p.1.xs, p.1.bor⟩, p.2)
abbrev srcEnum (o : LOp) : Src := enumS (con o)
theorem ij_enumC {e : Expr} {src : Src} {p pos tpos : Pos} {elts : List Expr} {kk : Nat} (hg : Gl X "enumerate") (hm : X.mg "enumerate" = none) (h : CJ X cl vs0 Wx e src) (hs : starEach [e] X.env = [(false, eval e X.env)] := by rfl) :
    IJ X cl vs0 Wx (.Tuple elts kk tpos) (.Call (.Name "enumerate" p) [e] [] pos) (enumS src) := by
  obtain ⟨t, p, q⟩ := h
  refine ⟨⟨_, pi_enumK hg hm (pa_cons p pa_nil hs) hs, fun _ => rfl, fun O W σ H ρ R sr hw => q O W σ H ρ _ sr ?_⟩⟩
  unfold enumS at hw
  cases e : src ρ with
  | bad => rw [e] at hw; exact hw
  | exc c fs ρ' => rw [e] at hw; exact hw
  | ok m =>
    obtain ⟨m, ρ1⟩ := m
    rw [e] at hw
    intro v O' W' H' st sr' hk ⟨hl, a, k, ev, hc⟩
    obtain ⟨vs, hq, _⟩ := hc O' W' σ H' ρ1 Stp.refl sr' (fun _ _ => rfl) hk
    refine ⟨a, k, vs, by rw [ev], hq, hw _ O' W' H' st sr' hk ⟨by simpa [enumD] using hl, fun O2 W2 σ2 H2 ρ2 i d st2 sr2 h1 h2 hd => ?_, fun O2 W2 σ2 H2 ρ2 st2 sr2 h1 h2 => ?_⟩⟩
    · obtain ⟨vs, hq, ra⟩ := hc O2 W2 σ2 H2 ρ2 st2 sr2 h1 h2
      have hd : (enumD m.xs)[i]? = some d := hd
      unfold enumD at hd
      rw [List.getElem?_mapIdx] at hd
      obtain ⟨x, hx, rfl⟩ := Option.map_eq_some_iff.mp hd
      obtain ⟨v, hv, rv⟩ := ra.getD hx
      refine ⟨⟨vs, v, hq, hv⟩, fun y H3 ⟨T, z, ey, hT, e3, hy⟩ => ?_⟩
      subst e3 ey
      have : z = v := Option.some.inj ((hy vs hq).symm.trans hv)
      subst this
      refine rp_tup' sr2.wf hT (by show 2 ≤ sizeLine; decide) ?_
      simp only [RpA, Rp]
      exact ⟨_, _, rfl, rfl, _, _, rfl, rv, rfl⟩
    · obtain ⟨vs, hq, ra⟩ := hc O2 W2 σ2 H2 ρ2 st2 sr2 h1 h2
      exact ⟨vs, hq, by simp [enumD, ra.length]⟩
theorem ij_enum {e : Expr} {o : LOp} {p pos tpos : Pos} {elts : List Expr} {kk : Nat} (hg : Gl X "enumerate") (hm : X.mg "enumerate" = none) (h : LJ X cl vs0 Wx e o) (hs : starEach [e] X.env = [(false, eval e X.env)] := by rfl) :
    IJ X cl vs0 Wx (.Tuple elts kk tpos) (.Call (.Name "enumerate" p) [e] [] pos) (srcEnum o) := ij_enumC hg hm (con_core h) hs
noncomputable instance (m : Itm) (ρ : List SD) : Decidable (m.keep ρ) := Classical.propDecidable _
def zipD (xs ys : List D) : List D := List.zipWith (fun x y => .tup [x, y]) xs ys
noncomputable def srcZip (o o2 : LOp) : Src := fun ρ => (con o ρ).bind fun p => (con o2 p.2).bind fun q => if p.1.keep q.2 then .ok (⟨zipD p.1.xs q.1.xs, p.1.bor ++ q.1.bor⟩, q.2) else .bad
theorem Cn.later {G : Gx} {O W O1 W1 : List Addr} {σ : L2.St} {H H1 : Hp} {v : V} {m : Itm} (w : Wf O W H) (s : Stp O W H O1 W1 H1) (h : Cn G vs0 O W σ H v m) : Cn G vs0 O1 W1 σ H1 v m := by
  obtain ⟨hl, a, k, ev, hc⟩ := h
  exact ⟨hl, a, k, ev, fun O2 W2 σ2 H2 ρ2 st => hc O2 W2 σ2 H2 ρ2 (s.trans w st)⟩
theorem ij_zip {e e2 : Expr} {o o2 : LOp} {p pos tpos : Pos} {elts : List Expr} {kk : Nat} (hg : Gl X "zip") (hm : X.mg "zip" = none) (h : LJ X cl vs0 Wx e o) (h2 : LJ X cl vs0 Wx e2 o2)
    (hs : starEach [e, e2] X.env = (false, eval e X.env) :: starEach [e2] X.env := by rfl) (hs2 : starEach [e2] X.env = (false, eval e2 X.env) :: starEach [] X.env := by rfl) (hpl : (backTo pos (starEach [e2] X.env)).any (·.1) = false := by rfl) :
    IJ X cl vs0 Wx (.Tuple elts kk tpos) (.Call (.Name "zip" p) [e, e2] [] pos) (srcZip o o2) := by
  obtain ⟨t, p, q⟩ := con_core h
  obtain ⟨t2, p2, q2⟩ := con_core h2
  refine ⟨⟨_, pi_zipK hg hm (pa_cons p (pa_cons p2 pa_nil hs2) hs) hs hpl, fun _ => rfl, fun O W σ H ρ R sr hw => q O W σ H ρ _ sr ?_⟩⟩
  unfold srcZip at hw
  cases e : con o ρ with
  | bad => rw [e] at hw; exact hw
  | exc c fs ρ' => rw [e] at hw; exact hw
  | ok m =>
    obtain ⟨m, ρ1⟩ := m
    rw [e] at hw
    have hw : AftI (gx X cl) vs0 Wx O W σ H R ((con o2 ρ1).bind fun q => if m.keep q.2 then .ok (⟨zipD m.xs q.1.xs, m.bor ++ q.1.bor⟩, q.2) else .bad) := hw
    intro v O1 W1 H1 st1 sr1 hk1 cn1
    refine q2 O1 W1 σ H1 ρ1 _ sr1 ?_
    cases e2 : con o2 ρ1 with
    | bad => rw [e2] at hw; exact hw
    | exc c fs ρ' => rw [e2] at hw; exact ExcA.back sr.wf st1 hw
    | ok m2 =>
      obtain ⟨m2, ρ2⟩ := m2
      rw [e2] at hw
      have hw : AftI (gx X cl) vs0 Wx O W σ H R (if m.keep ρ2 then .ok (⟨zipD m.xs m2.xs, m.bor ++ m2.bor⟩, ρ2) else .bad) := hw
      intro v2 O2 W2 H2 st2 sr2 hk2 cn2
      split at hw
      · rename_i hkk
        have cn1' := cn1.later sr1.wf st2
        obtain ⟨hl, a, k, ev, hc⟩ := cn1'
        obtain ⟨hl2, a2, k2, ev2, hc2⟩ := cn2
        obtain ⟨vs, hq, _⟩ := hc O2 W2 σ H2 ρ2 Stp.refl sr2 (fun _ _ => rfl) hkk
        obtain ⟨vs2, hq2, _⟩ := hc2 O2 W2 σ H2 ρ2 Stp.refl sr2 (fun _ _ => rfl) hk2
        have sl : ∀ {σ2 : L2.St}, Itm.slots ⟨zipD m.xs m2.xs, m.bor ++ m2.bor⟩ σ σ2 → m.slots σ σ2 ∧ m2.slots σ σ2 := fun z => ⟨fun p hp => z p (List.mem_append_left _ hp), fun p hp => z p (List.mem_append_right _ hp)⟩
        have kp : ∀ {ρ : List SD}, Itm.keep ⟨zipD m.xs m2.xs, m.bor ++ m2.bor⟩ ρ → m.keep ρ ∧ m2.keep ρ := fun z => ⟨fun p hp => z p (List.mem_append_left _ hp), fun p hp => z p (List.mem_append_right _ hp)⟩
        refine ⟨a, a2, k, k2, vs, vs2, by rw [ev, ev2], hq, hq2, hw _ O2 W2 H2 (st1.trans sr.wf st2) sr2 (fun p hp => (List.mem_append.mp hp).elim (hkk p) (hk2 p)) ⟨by simp only [zipD, List.length_zipWith]; omega, fun O3 W3 σ3 H3 ρ3 i d st3 sr3 h1 h2 hd => ?_, fun O3 W3 σ3 H3 ρ3 st3 sr3 h1 h2 => ?_⟩⟩
        · obtain ⟨us, hu, ra⟩ := hc O3 W3 σ3 H3 ρ3 st3 sr3 (sl h1).1 (kp h2).1
          obtain ⟨us2, hu2, ra2⟩ := hc2 O3 W3 σ3 H3 ρ3 st3 sr3 (sl h1).2 (kp h2).2
          have hd : (zipD m.xs m2.xs)[i]? = some d := hd
          unfold zipD at hd
          rw [List.getElem?_zipWith] at hd
          cases e3 : m.xs[i]? with
          | none => rw [e3] at hd; cases hd
          | some x =>
            cases e4 : m2.xs[i]? with
            | none => rw [e3, e4] at hd; cases hd
            | some y =>
              rw [e3, e4] at hd
              have hd : D.tup [x, y] = d := Option.some.inj hd
              subst hd
              obtain ⟨w1, hw1, rw1⟩ := ra.getD e3
              obtain ⟨w2, hw2, rw2⟩ := ra2.getD e4
              refine ⟨⟨us, us2, w1, w2, hu, hu2, hw1, hw2⟩, fun z H4 ⟨T, z1, z2, ez, hT, e4', hy1, hy2⟩ => ?_⟩
              subst e4' ez
              have q1 : z1 = w1 := Option.some.inj ((hy1 us hu).symm.trans hw1)
              have q2 : z2 = w2 := Option.some.inj ((hy2 us2 hu2).symm.trans hw2)
              subst q1 q2
              refine rp_tup' sr3.wf hT (by show 2 ≤ sizeLine; decide) ?_
              simp only [RpA]
              exact ⟨_, _, rfl, rw1, _, _, rfl, rw2, rfl⟩
        · obtain ⟨us, hu, ra⟩ := hc O3 W3 σ3 H3 ρ3 st3 sr3 (sl h1).1 (kp h2).1
          obtain ⟨us2, hu2, ra2⟩ := hc2 O3 W3 σ3 H3 ρ3 st3 sr3 (sl h1).2 (kp h2).2
          exact ⟨us, us2, hu, hu2, by simp [zipD, List.length_zipWith, ra.length, ra2.length]⟩
      · exact hw.elim
/-- range -/
def rangeD (lo : Int) (n : Nat) : List D := (List.range n).map fun (k : Nat) => .int (lo + k)
def rngOk (i : Int) : Prop := -(2 ^ 62) ≤ i ∧ i < 2 ^ 62
instance (i : Int) : Decidable (rngOk i) := by unfold rngOk; infer_instance
def rng1 (ρ : List SD) : List D → Rs (Itm × List SD)
  | [.int j] => if rngOk j ∧ j.toNat ≤ sizeLine then .ok (⟨rangeD 0 j.toNat, []⟩, ρ) else .bad
  | _ => .bad
def rng2 (ρ : List SD) : List D → Rs (Itm × List SD)
  | [.int i, .int j] => if rngOk i ∧ rngOk j ∧ (j - i).toNat ≤ sizeLine then .ok (⟨rangeD i (j - i).toNat, []⟩, ρ) else .bad
  | _ => .bad
def srcRng1 (fl : List LOp) : Src := fun ρ => (ops fl ρ).bind fun q => rng1 q.2 q.1
def srcRng2 (fl : List LOp) : Src := fun ρ => (ops fl ρ).bind fun q => rng2 q.2 q.1
theorem wlk_rng {G : Gx} {O W : List Addr} {σ : L2.St} {H : Hp} {lo : Int} {n : Nat} (h : n ≤ sizeLine) : Wlk G vs0 O W σ H (Itr lo n) ⟨rangeD lo n, []⟩ := by
  refine ⟨by simpa [rangeD] using h, fun O2 W2 σ2 H2 ρ2 i d st sr h1 h2 hd => ?_, fun O2 W2 σ2 H2 ρ2 st sr h1 h2 => ?_⟩
  · have hd : (rangeD lo n)[i]? = some d := hd
    unfold rangeD at hd
    rw [List.getElem?_map] at hd
    obtain ⟨k, hk, rfl⟩ := Option.map_eq_some_iff.mp hd
    obtain ⟨hl, e⟩ := List.getElem?_eq_some_iff.mp hk
    rw [List.getElem_range] at e
    subst e
    have hl' : i < n := by simpa using hl
    refine ⟨hl', fun x H3 ⟨e1, e2⟩ => ?_⟩
    subst e1 e2
    exact ⟨Same.refl _, by simp only [Rp]⟩
  · show n ≤ (rangeD lo n).length
    simp [rangeD]
theorem ij_rng1 {tg a : Expr} {fl : List LOp} {p pos : Pos} (hg : Gl X "range") (hm : X.mg "range" = none) (h : OJ X cl vs0 Wx [a] fl) (hs : starEach [a] X.env = [(false, eval a X.env)] := by rfl) : IJ X cl vs0 Wx tg (.Call (.Name "range" p) [a] [] pos) (srcRng1 fl) := by
  obtain ⟨ts, _, pa, q⟩ := h.ex
  refine ⟨⟨_, pi_range1 hg hm pa hs, fun _ => rfl, fun O W σ H ρ R sr hw => q O W σ H ρ _ sr ?_⟩⟩
  unfold srcRng1 at hw
  cases e : ops fl ρ with
  | bad => rw [e] at hw; exact hw
  | exc c fs ρ' => rw [e] at hw; exact hw
  | ok m =>
    obtain ⟨ds, ρ1⟩ := m
    rw [e] at hw
    intro vs O' W' H' st sr' ho
    have hw : AftI (gx X cl) vs0 Wx O W σ H R (rng1 ρ1 ds) := hw
    unfold rng1 at hw
    split at hw
    · split at hw
      · rename_i hz
        obtain ⟨v, ev, h1⟩ := ho.one
        refine ⟨_, by rw [ev, h1.int], hz.1.1, hz.1.2, hw _ O' W' H' st sr' (fun p hp => absurd hp (by simp)) (wlk_rng hz.2)⟩
      · exact hw.elim
    · exact hw.elim
theorem ij_rng2 {tg a b : Expr} {fl : List LOp} {p pos : Pos} (hg : Gl X "range") (hm : X.mg "range" = none) (h : OJ X cl vs0 Wx [a, b] fl) (hs : starEach [a, b] X.env = [(false, eval a X.env), (false, eval b X.env)] := by rfl) (hs2 : starEach [b] X.env = [(false, eval b X.env)] := by rfl) :
    IJ X cl vs0 Wx tg (.Call (.Name "range" p) [a, b] [] pos) (srcRng2 fl) := by
  obtain ⟨ts, _, pa, q⟩ := h.ex
  refine ⟨⟨_, pi_range2 hg hm pa hs hs2, fun _ => rfl, fun O W σ H ρ R sr hw => q O W σ H ρ _ sr ?_⟩⟩
  unfold srcRng2 at hw
  cases e : ops fl ρ with
  | bad => rw [e] at hw; exact hw
  | exc c fs ρ' => rw [e] at hw; exact hw
  | ok m =>
    obtain ⟨ds, ρ1⟩ := m
    rw [e] at hw
    intro vs O' W' H' st sr' ho
    have hw : AftI (gx X cl) vs0 Wx O W σ H R (rng2 ρ1 ds) := hw
    unfold rng2 at hw
    split at hw
    · split at hw
      · rename_i hz
        obtain ⟨v, u, ev, h1, h2⟩ := ho.two
        refine ⟨_, _, by rw [ev, h1.int, h2.int], ⟨hz.1.1, hz.1.2, hz.2.1.1, hz.2.1.2⟩, hw _ O' W' H' st sr' (fun p hp => absurd hp (by simp)) (wlk_rng hz.2.2)⟩
      · exact hw.elim
    · exact hw.elim
end
end Wm
end

section
/-! Targets, for, while, comprehensions. -/
namespace Wm
open PySem PySem.Spec PyProof.Rows L2
abbrev Tg := D → List SD → Option (List SD)
structure GJ (X : Cx) (cl : Cl) (vs0 : List V) (tg : Expr) (st : Tg) (is : List Nat) : Prop where
  ex : ∃ g, PG X tg g ∧ ∀ O W σ H ρ ρ' d v Q, SR (gx X cl) vs0 O W σ H ρ → Rp (gx X cl) O H d v → st d ρ = some ρ' → (∀ σ', SR (gx X cl) vs0 O W σ' H ρ' → (∀ vs, (∀ i ∈ is, i ∈ vs) → wipe σ' vs = wipe σ vs) → Q σ' H) → g v σ H Q
theorem wipe_set {σ : L2.St} {i : Nat} {x : Option V} : ∀ {vs : List Nat}, i ∈ vs → wipe (σ.set i x) vs = wipe σ vs
  | [], h => absurd h (by simp)
  | v :: vs, h => by
    unfold wipe
    by_cases e : i ∈ vs
    · rw [wipe_set e]
    · have ev : i = v := by
        rcases List.mem_cons.mp h with z | z
        · exact z
        · exact absurd z e
      subst ev
      have key : ∀ {ws : List Nat}, i ∉ ws → wipe (σ.set i x) ws = (wipe σ ws).set i x := by
        intro ws
        induction ws with
        | nil => intro _; rfl
        | cons w ws ih =>
          intro hn
          have hw : w ≠ i := fun z => hn (by simp [z])
          unfold wipe
          rw [ih (fun z => hn (List.mem_cons_of_mem _ z)), List.set_comm _ _ (Ne.symm hw)]
      rw [key e, List.set_set]
def stN (i : Nat) : Tg := fun d ρ => some (ρ.set i (.sh d))
def setO : List Nat → List D → List SD → Option (List SD)
  | [], [], ρ => some ρ
  | i :: is, d :: ds, ρ => setO is ds (ρ.set i (.sh d))
  | _, _, _ => none
def stT (is : List Nat) : Tg := fun d ρ => match d with
  | .tup ds => setO is ds ρ
  | _ => none
section
variable {X : Cx} {cl : Cl} {vs0 : List V} {Wx : WX}
theorem gj_name {i : Nat} {x : Str} {pos : Pos} (hN : X.N.Nodup) (hi : X.N[i]? = some x) (hx : Loc X.env.scope x) (hf : X.fn x = true ∨ X.env.scope.names.lookup x = some .local := by first | exact .inl rfl | exact .inr rfl | assumption) : GJ X cl vs0 (.Name x pos) (stN i) [i] :=
  ⟨⟨_, pg_name hN hi hx hf, fun O W σ H ρ ρ' d v Q sr rp e q => by
    cases e
    exact q _ (sr.set rp) fun vs h => wipe_set (h i (by simp))⟩⟩
theorem gNamesO_ok {G : Gx} {O W : List Addr} {H : Hp} {Q : L2.St → Hp → Prop} : ∀ {is : List Nat} {ds : List D} {vs : List V} {σ : L2.St} {ρ ρ' : List SD}, SR G vs0 O W σ H ρ → RpA G O H ds vs → setO is ds ρ = some ρ' →
    (∀ σ', SR G vs0 O W σ' H ρ' → (∀ vs, (∀ i ∈ is, i ∈ vs) → wipe σ' vs = wipe σ vs) → Q σ' H) → gNames is vs σ H Q
  | [], [], vs, σ, ρ, ρ', sr, ra, h, q => by
    simp only [RpA] at ra
    cases h
    exact ⟨ra, q σ sr fun _ _ => rfl⟩
  | i :: is, d :: ds, vs, σ, ρ, ρ', sr, ra, h, q => by
    simp only [RpA] at ra
    obtain ⟨v, r, e, h1, h2⟩ := ra
    exact ⟨v, r, e, gNamesO_ok (sr.set h1) h2 h fun σ' sr' hw => q σ' sr' fun vs hv => (hw vs fun j hj => hv j (List.mem_cons_of_mem _ hj)).trans (wipe_set (hv i (by simp)))⟩
  | [], _ :: _, _, _, _, _, _, _, h, _ => by cases h
  | _ :: _, [], _, _, _, _, _, _, h, _ => by cases h
theorem setO_len : ∀ {is : List Nat} {ds : List D} {ρ ρ2 : List SD}, setO is ds ρ = some ρ2 → is.length = ds.length
  | [], [], _, _, _ => rfl
  | i :: is, d :: ds, _, _, h => congrArg (· + 1) (setO_len (is := is) (ds := ds) h)
  | [], _ :: _, _, _, h => by cases h
  | _ :: _, [], _, _, h => by cases h
theorem gj_tup {es : List Expr} {k n : Nat} {is : List Nat} {pos : Pos} (hc : X.calm = true) (hg : PGs X es (gNames is)) (hl : is.length = n) (hn : (assignEach es X.env).length = n := by rfl) (hst : (assignEach es X.env).findIdx? (·.1) = none := by rfl) : GJ X cl vs0 (.Tuple es k pos) (stT is) is := by
  refine ⟨⟨_, pg_tup hc hg hn hst, fun O W σ H ρ ρ' d v Q sr rp e q => ?_⟩⟩
  cases d with
  | tup ds =>
    have e : setO is ds ρ = some ρ' := e
    simp only [Rp] at rp
    obtain ⟨a, vs, ev, t, ra⟩ := rp
    exact ⟨a, vs, ev, t.sq, by rw [← ra.length, ← setO_len e]; exact hl, gNamesO_ok sr ra e q⟩
  | _ => cases e

/-! ### for -/
def forL (st : Tg) (body : Ss) : List D → List SD → Rs Fl
  | [], ρ => .ok (.nx ρ)
  | d :: ds, ρ => match st d ρ with
    | some ρ1 => (body ρ1).bind fun fl => match fl with
      | .nx ρ2 => forL st body ds ρ2
      | .ct ρ2 => forL st body ds ρ2
      | .bk ρ2 => .ok (.nx ρ2)
      | .rt r ρ2 => .ok (.rt r ρ2)
    | none => .bad
/-- .. over a caller's list that stays -/
noncomputable def forK (m : Itm) (st : Tg) (body : Ss) : List D → List SD → Rs Fl
  | [], ρ => if m.keep ρ then .ok (.nx ρ) else .bad
  | d :: ds, ρ => if m.keep ρ then (match st d ρ with
    | some ρ1 => (body ρ1).bind fun fl => match fl with
      | .nx ρ2 => forK m st body ds ρ2
      | .ct ρ2 => forK m st body ds ρ2
      | .bk ρ2 => .ok (.nx ρ2)
      | .rt r ρ2 => .ok (.rt r ρ2)
    | none => .bad) else .bad
def SD.isByr : SD → Bool
  | .byr _ => true
  | _ => false
noncomputable def sFor (src : Src) (st : Tg) (body : Ss) : Ss := fun ρ => (src ρ).bind fun p => match p.1.bor with
  | [] => forL st body p.1.xs p.2
  | bs => if bs.all (fun b => b.2.isByr) then forK p.1 st body p.1.xs p.2 else .bad
theorem sj_for {tg iter : Expr} {body : List Stmt} {src : Src} {st : Tg} {is : List Nat} {g : Ss} {pos : Pos} (hp : PassesOwn (model X.prog X.w) X.A X.env X.xe) (hc : X.calm = true) (hi : IJ X cl vs0 Wx tg iter src) (hg : GJ X cl vs0 tg st is) (hb : BJ X cl vs0 Wx body g) :
    SJ X cl vs0 Wx (.For tg iter body [] pos) (sFor src st g) := by
  obtain ⟨wi, p1, hs, q1⟩ := hi.ex
  obtain ⟨tg', p2, q2⟩ := hg.ex
  obtain ⟨tb, p3, q3⟩ := hb.ex
  refine ⟨⟨_, ps_for hp hc p1 p2 p3 hs, fun O W σ H ρ E sr hw => q1 O W σ H ρ _ sr ?_⟩⟩
  unfold sFor at hw
  cases e : src ρ with
  | bad => rw [e] at hw; exact hw
  | exc c fs ρ' => rw [e] at hw; exact hw σ
  | ok p =>
    obtain ⟨⟨xs, bor⟩, ρ1⟩ := p
    rw [e] at hw
    cases bor with
    | cons b bs =>
      have hw : AftS (gx X cl) vs0 Wx O W H E (if (b :: bs).all (fun b => b.2.isByr) then forK ⟨xs, b :: bs⟩ st g xs ρ1 else .bad) := hw
      split at hw
      · rename_i hby
        generalize hm : (⟨xs, b :: bs⟩ : Itm) = mm at hw
        intro J O1 W1 H1 st1 sr1 hk wk
        have hxs : mm.xs = xs := by rw [← hm]
        have byr : ∀ p ∈ mm.bor, p.2.isByr = true := fun p hp => List.all_eq_true.mp hby p (by rw [← hm] at hp; exact hp)
        have slo : ∀ {O2 W2 σ2 H2 ρ2}, SR (gx X cl) vs0 O2 W2 σ2 H2 ρ2 → mm.keep ρ2 → mm.slots σ σ2 := fun {O2 W2 σ2 H2 ρ2} sr2 hk2 p hp => by
          have k1 := hk p hp
          have k2 := hk2 p hp
          have kb := byr p hp
          obtain ⟨i, s⟩ := p
          cases s with
          | byr ys =>
            obtain ⟨a, e1, e2, _⟩ := sr1.slot i _ k1
            obtain ⟨c, f1, f2, _⟩ := sr2.slot i _ k2
            rw [e2] at f2
            cases f2
            show σ2[i]? = σ[i]?
            rw [join_some e1, join_some f1]
          | _ => cases kb
        refine ⟨fun i m σ' H' => ∃ O2 W2 ρ2 ds, m = ds.length ∧ i + ds.length = xs.length ∧ xs.drop i = ds ∧ Stp O1 W1 H1 O2 W2 H' ∧ SR (gx X cl) vs0 O2 W2 σ' H' ρ2 ∧ AftS (gx X cl) vs0 Wx O2 W2 H' E (forK mm st g ds ρ2),
          ⟨xs.length, O1, W1, ρ1, xs, rfl, Nat.zero_add _, rfl, Stp.refl, sr1, AftS.back sr.wf st1 hw⟩, ?_⟩
        rintro i m σ2 H2 ⟨O2, W2, ρ2, ds, rfl, hlen, hdrop, st2, sr2, hf⟩
        cases ds with
        | nil =>
          have hf : AftS (gx X cl) vs0 Wx O2 W2 H2 E (if mm.keep ρ2 then .ok (.nx ρ2) else .bad) := hf
          split at hf
          · rename_i hkk
            have hi : i = mm.xs.length := by rw [hxs]; simpa using hlen
            subst hi
            exact .inl ⟨wk.stop O2 W2 σ2 H2 ρ2 st2 sr2 (slo sr2 hkk) hkk, hf σ2 O2 W2 H2 Stp.refl sr2⟩
          · exact hf.elim
        | cons d ds =>
          have hf : AftS (gx X cl) vs0 Wx O2 W2 H2 E (if mm.keep ρ2 then (match st d ρ2 with
            | some ρ1 => (g ρ1).bind fun fl => match fl with
              | .nx ρ2 => forK mm st g ds ρ2
              | .ct ρ2 => forK mm st g ds ρ2
              | .bk ρ2 => .ok (.nx ρ2)
              | .rt r ρ2 => .ok (.rt r ρ2)
            | none => .bad) else .bad) := hf
          split at hf
          · rename_i hkk
            have hd : mm.xs[i]? = some d := by
              have : (xs.drop i)[0]? = some d := by rw [hdrop]; rfl
              rw [List.getElem?_drop] at this
              rw [hxs]
              simpa using this
            obtain ⟨hgo, hy⟩ := wk.go O2 W2 σ2 H2 ρ2 i d st2 sr2 (slo sr2 hkk) hkk hd
            refine .inr ⟨hgo, _, fun σ' H' hN => ⟨ds.length, Nat.lt_succ_self _, hN⟩, fun x H3 hyl => ?_⟩
            obtain ⟨sm, rp⟩ := hy x H3 hyl
            have sr3 := sr2.same sm
            have st3 : Stp O2 W2 H2 O2 W2 H3 := Stp.same sm
            cases es : st d ρ2 with
            | none => rw [es] at hf; exact hf.elim
            | some ρ3 =>
              rw [es] at hf
              refine q2 O2 W2 σ2 H3 ρ2 ρ3 d x _ sr3 rp es fun σ4 sr4 _ => q3 O2 W2 σ4 H3 ρ3 _ sr4 ?_
              have hf : AftS (gx X cl) vs0 Wx O2 W2 H3 E ((g ρ3).bind fun fl => match fl with
                | .nx ρ2 => forK mm st g ds ρ2
                | .ct ρ2 => forK mm st g ds ρ2
                | .bk ρ2 => .ok (.nx ρ2)
                | .rt r ρ2 => .ok (.rt r ρ2)) := AftS.back sr2.wf st3 hf
              have hdr : xs.drop (i + 1) = ds := by
                rw [← List.drop_drop, hdrop]; rfl
              have hln : i + 1 + ds.length = xs.length := by rw [← hlen, List.length_cons]; omega
              have st23 := st2.trans sr1.wf st3
              cases eb : g ρ3 with
              | bad => rw [eb] at hf; exact hf
              | exc c fs ρ' => rw [eb] at hf; exact hf
              | ok fl =>
                rw [eb] at hf
                cases fl with
                | nx ρ4 => exact fun σ5 O5 W5 H5 st5 sr5 => ⟨O5, W5, ρ4, ds, rfl, hln, hdr, st23.trans sr1.wf st5, sr5, AftS.back sr3.wf st5 hf⟩
                | ct ρ4 => exact fun σ5 O5 W5 H5 st5 sr5 => ⟨O5, W5, ρ4, ds, rfl, hln, hdr, st23.trans sr1.wf st5, sr5, AftS.back sr3.wf st5 hf⟩
                | bk ρ4 => exact hf
                | rt r ρ4 => exact hf
          · exact hf.elim
      · exact (show False from hw).elim
    | nil =>
      have hw : AftS (gx X cl) vs0 Wx O W H E (forL st g xs ρ1) := hw
      intro J O1 W1 H1 st1 sr1 hk wk
      refine ⟨fun i m σ' H' => ∃ O2 W2 ρ2 ds, m = ds.length ∧ i + ds.length = xs.length ∧ xs.drop i = ds ∧ Stp O1 W1 H1 O2 W2 H' ∧ SR (gx X cl) vs0 O2 W2 σ' H' ρ2 ∧ AftS (gx X cl) vs0 Wx O2 W2 H' E (forL st g ds ρ2),
        ⟨xs.length, O1, W1, ρ1, xs, rfl, Nat.zero_add _, rfl, Stp.refl, sr1, AftS.back sr.wf st1 hw⟩, ?_⟩
      rintro i m σ2 H2 ⟨O2, W2, ρ2, ds, rfl, hlen, hdrop, st2, sr2, hf⟩
      have hsl : Itm.slots ⟨xs, []⟩ σ σ2 := fun p hp => absurd hp (by simp)
      have hkk : Itm.keep ⟨xs, []⟩ ρ2 := fun p hp => absurd hp (by simp)
      cases ds with
      | nil =>
        have hi : i = xs.length := by simpa using hlen
        subst hi
        exact .inl ⟨wk.stop O2 W2 σ2 H2 ρ2 st2 sr2 hsl hkk, hf σ2 O2 W2 H2 Stp.refl sr2⟩
      | cons d ds =>
        have hd : xs[i]? = some d := by
          have : (xs.drop i)[0]? = some d := by rw [hdrop]; rfl
          rw [List.getElem?_drop] at this
          simpa using this
        obtain ⟨hgo, hy⟩ := wk.go O2 W2 σ2 H2 ρ2 i d st2 sr2 hsl hkk hd
        have hf : AftS (gx X cl) vs0 Wx O2 W2 H2 E (match st d ρ2 with
          | some ρ1 => (g ρ1).bind fun fl => match fl with
            | .nx ρ2 => forL st g ds ρ2
            | .ct ρ2 => forL st g ds ρ2
            | .bk ρ2 => .ok (.nx ρ2)
            | .rt r ρ2 => .ok (.rt r ρ2)
          | none => .bad) := hf
        refine .inr ⟨hgo, _, fun σ' H' hN => ⟨ds.length, Nat.lt_succ_self _, hN⟩, fun x H3 hyl => ?_⟩
        obtain ⟨sm, rp⟩ := hy x H3 hyl
        have sr3 := sr2.same sm
        have st3 : Stp O2 W2 H2 O2 W2 H3 := Stp.same sm
        cases es : st d ρ2 with
        | none => rw [es] at hf; exact hf.elim
        | some ρ3 =>
          rw [es] at hf
          refine q2 O2 W2 σ2 H3 ρ2 ρ3 d x _ sr3 rp es fun σ4 sr4 _ => q3 O2 W2 σ4 H3 ρ3 _ sr4 ?_
          have hf : AftS (gx X cl) vs0 Wx O2 W2 H3 E ((g ρ3).bind fun fl => match fl with
            | .nx ρ2 => forL st g ds ρ2
            | .ct ρ2 => forL st g ds ρ2
            | .bk ρ2 => .ok (.nx ρ2)
            | .rt r ρ2 => .ok (.rt r ρ2)) := AftS.back sr2.wf st3 hf
          have hdr : xs.drop (i + 1) = ds := by
            rw [← List.drop_drop, hdrop]; rfl
          have hln : i + 1 + ds.length = xs.length := by rw [← hlen, List.length_cons]; omega
          have st23 := st2.trans sr1.wf st3
          cases eb : g ρ3 with
          | bad => rw [eb] at hf; exact hf
          | exc c fs ρ' => rw [eb] at hf; exact hf
          | ok fl =>
            rw [eb] at hf
            cases fl with
            | nx ρ4 => exact fun σ5 O5 W5 H5 st5 sr5 => ⟨O5, W5, ρ4, ds, rfl, hln, hdr, st23.trans sr1.wf st5, sr5, AftS.back sr3.wf st5 hf⟩
            | ct ρ4 => exact fun σ5 O5 W5 H5 st5 sr5 => ⟨O5, W5, ρ4, ds, rfl, hln, hdr, st23.trans sr1.wf st5, sr5, AftS.back sr3.wf st5 hf⟩
            | bk ρ4 => exact hf
            | rt r ρ4 => exact hf

/-! ### while -/
def whl (t : Sb) (body : Ss) : Nat → List SD → Rs Fl
  | 0, _ => .bad
  | n + 1, ρ => (t ρ).bind fun p => if p.1 then (body p.2).bind fun fl => match fl with
      | .nx ρ2 => whl t body n ρ2
      | .ct ρ2 => whl t body n ρ2
      | .bk ρ2 => .ok (.nx ρ2)
      | .rt r ρ2 => .ok (.rt r ρ2)
    else .ok (.nx p.2)
def sWhile (fuel : List SD → Nat) (t : Sb) (body : Ss) : Ss := fun ρ => whl t body (fuel ρ) ρ
theorem sj_while {c : Expr} {body : List Stmt} {t : Sb} {g : Ss} {pos : Pos} (fuel : List SD → Nat) (hp : PassesOwn (model X.prog X.w) X.A X.env X.xe) (hc : TJ X cl vs0 Wx c t) (hb : BJ X cl vs0 Wx body g) : SJ X cl vs0 Wx (.While c body [] pos) (sWhile fuel t g) := by
  obtain ⟨tc, p1, q1⟩ := hc.ex
  obtain ⟨tb, p3, q3⟩ := hb.ex
  refine ⟨⟨_, ps_while hp p1 p3, fun O W σ H ρ E sr hw => ?_⟩⟩
  refine ⟨fun m σ' H' => ∃ O2 W2 ρ2, SR (gx X cl) vs0 O2 W2 σ' H' ρ2 ∧ AftS (gx X cl) vs0 Wx O2 W2 H' E (whl t g m ρ2), ⟨fuel ρ, O, W, ρ, sr, hw⟩, ?_⟩
  rintro m σ2 H2 ⟨O2, W2, ρ2, sr2, hf⟩
  cases m with
  | zero => exact (show False from hf).elim
  | succ n =>
    refine q1 O2 W2 σ2 H2 ρ2 _ sr2 (t_core sr2.wf hf fun b ρ3 O3 W3 H3 sr3 hk => ?_)
    cases b with
    | false => exact hk σ2 O3 W3 H3 Stp.refl sr3
    | true =>
      have hk : AftS (gx X cl) vs0 Wx O3 W3 H3 E ((g ρ3).bind fun fl => match fl with
        | .nx ρ2 => whl t g n ρ2
        | .ct ρ2 => whl t g n ρ2
        | .bk ρ2 => .ok (.nx ρ2)
        | .rt r ρ2 => .ok (.rt r ρ2)) := hk
      refine ⟨_, fun σ' H' hN => ⟨n, Nat.lt_succ_self n, hN⟩, q3 O3 W3 σ2 H3 ρ3 _ sr3 ?_⟩
      cases eb : g ρ3 with
      | bad => rw [eb] at hk; exact hk
      | exc c fs ρ' => rw [eb] at hk; exact hk
      | ok fl =>
        rw [eb] at hk
        cases fl with
        | nx ρ4 => exact fun σ5 O5 W5 H5 st5 sr5 => ⟨O5, W5, ρ4, sr5, AftS.back sr3.wf st5 hk⟩
        | ct ρ4 => exact fun σ5 O5 W5 H5 st5 sr5 => ⟨O5, W5, ρ4, sr5, AftS.back sr3.wf st5 hk⟩
        | bk ρ4 => exact hk
        | rt r ρ4 => exact hk

/-! ### comprehensions -/
abbrev WX0 : WX := fun _ _ _ _ => False
/-- the slots of the block's own names are empty -/
def wipeR (ρ : List SD) : List Nat → List SD
  | [] => ρ
  | v :: vs => (wipeR ρ vs).set v .no
def keptSD : Option SD → SD
  | some (.sh d) => .sh d
  | _ => .no
/-- behind the block: its own names' slots as they were ahead -/
def backR (ρ0 ρ : List SD) : List Nat → List SD
  | [] => ρ
  | v :: vs => (backR ρ0 ρ vs).set v (keptSD ρ0[v]?)
theorem wipeR_len (ρ : List SD) : ∀ vs : List Nat, (wipeR ρ vs).length = ρ.length
  | [] => rfl
  | v :: vs => by unfold wipeR; rw [List.length_set, wipeR_len ρ vs]
theorem wipeR_get {ρ : List SD} {i : Nat} {s : SD} : ∀ {vs : List Nat}, (wipeR ρ vs)[i]? = some s → (i ∉ vs ∧ ρ[i]? = some s) ∨ (i ∈ vs ∧ s = .no)
  | [], h => .inl ⟨by simp, h⟩
  | v :: vs, h => by
    unfold wipeR at h
    by_cases hi : v = i
    · subst hi
      have hl : v < (wipeR ρ vs).length := by
        have := (List.getElem?_eq_some_iff.mp h).1
        rw [List.length_set] at this
        exact this
      rw [List.getElem?_set_self hl] at h
      cases h
      exact .inr ⟨by simp, rfl⟩
    · rw [List.getElem?_set_ne hi] at h
      rcases wipeR_get h with ⟨a, b⟩ | ⟨a, b⟩
      · exact .inl ⟨by simp only [List.mem_cons, not_or]; exact ⟨fun e => hi e.symm, a⟩, b⟩
      · exact .inr ⟨List.mem_cons_of_mem _ a, b⟩
theorem wipe_get {σ : L2.St} {i : Nat} : ∀ {vs : List Nat}, i ∉ vs → (wipe σ vs)[i]? = σ[i]?
  | [], _ => rfl
  | v :: vs, h => by
    unfold wipe
    rw [List.getElem?_set_ne (fun e => h (by simp [e])), wipe_get fun z => h (List.mem_cons_of_mem _ z)]
theorem backR_len (ρ0 ρ : List SD) : ∀ vs : List Nat, (backR ρ0 ρ vs).length = ρ.length
  | [] => rfl
  | v :: vs => by unfold backR; rw [List.length_set, backR_len ρ0 ρ vs]
theorem backR_get {ρ0 ρ : List SD} {i : Nat} {s : SD} : ∀ {vs : List Nat}, (backR ρ0 ρ vs)[i]? = some s → (i ∉ vs ∧ ρ[i]? = some s) ∨ (i ∈ vs ∧ s = keptSD ρ0[i]?)
  | [], h => .inl ⟨by simp, h⟩
  | v :: vs, h => by
    unfold backR at h
    by_cases hi : v = i
    · subst hi
      have hl : v < (backR ρ0 ρ vs).length := by
        have := (List.getElem?_eq_some_iff.mp h).1
        rw [List.length_set] at this
        exact this
      rw [List.getElem?_set_self hl] at h
      cases h
      exact .inr ⟨by simp, rfl⟩
    · rw [List.getElem?_set_ne hi] at h
      rcases backR_get h with ⟨a, b⟩ | ⟨a, b⟩
      · exact .inl ⟨by simp only [List.mem_cons, not_or]; exact ⟨fun e => hi e.symm, a⟩, b⟩
      · exact .inr ⟨List.mem_cons_of_mem _ a, b⟩
theorem noD_upd {H : Hp} {p b : Addr} {o' : HO} (hb : ¬ NoD H b) (ht' : ∀ ps, o' ≠ .tbl ps := by intro _ z; cases z) : ¬ NoD (upd H p o') b := by
  by_cases e : b = p
  · rw [e]; exact noD_not upd_same ht'
  · intro z; exact hb fun o h => z o (by rw [upd_ne e]; exact h)
theorem SR.wipe {G : Gx} {O W : List Addr} {σ : L2.St} {H : Hp} {ρ : List SD} (vs : List Nat) (r : SR G vs0 O W σ H ρ) : SR G vs0 O W (wipe σ vs) H (wipeR ρ vs) := by
  refine ⟨r.wf, by rw [wipe_length, wipeR_len, r.len], fun i s e => ?_, fun i j s t a e1 e2 m1 m2 s1 s2 => ?_, r.tabs⟩
  · rcases wipeR_get e with ⟨h1, h2⟩ | ⟨_, h2⟩
    · rw [wipe_get h1]; exact r.slot i s h2
    · subst h2; trivial
  · rcases wipeR_get e1 with ⟨h1, h2⟩ | ⟨_, h2⟩
    · rcases wipeR_get e2 with ⟨h3, h4⟩ | ⟨_, h4⟩
      · rw [wipe_get h1] at s1
        rw [wipe_get h3] at s2
        exact r.apart i j s t a h2 h4 m1 m2 s1 s2
      · subst h4; cases m2
    · subst h2; cases m1
/-- behind the block -/
theorem SR.unwipe {G : Gx} {O W O' W' : List Addr} {σ : L2.St} {H H' : Hp} {ρ ρ' : List SD} {vs : List Nat} (r : SR G vs0 O W σ H ρ) (st : Stp O W H O' W' H') (r' : SR G vs0 O' W' (L2.wipe σ vs) H' ρ') : SR G vs0 O' W' σ H' (backR ρ ρ' vs) := by
  have nm : ∀ {i : Nat} {s : SD}, i ∈ vs → s = keptSD ρ[i]? → s.mine = true → False := fun {i s} _ e m => by
    rw [e] at m
    unfold keptSD at m
    split at m <;> cases m
  refine ⟨r'.wf, by rw [backR_len, ← r'.len, wipe_length], fun i s e => ?_, fun i j s t a e1 e2 m1 m2 s1 s2 => ?_, r'.tabs⟩
  · rcases backR_get e with ⟨h1, h2⟩ | ⟨h1, h2⟩
    · rw [← wipe_get (σ := σ) h1]; exact r'.slot i s h2
    · rw [h2]
      unfold keptSD
      split
      · rename_i d e3
        obtain ⟨v, e4, rp⟩ := r.slot i _ e3
        exact ⟨v, e4, rp.step r.wf st⟩
      · trivial
  · rcases backR_get e1 with ⟨h1, h2⟩ | ⟨h1, h2⟩
    · rcases backR_get e2 with ⟨h3, h4⟩ | ⟨h3, h4⟩
      · rw [← wipe_get (σ := σ) h1] at s1
        rw [← wipe_get (σ := σ) h3] at s2
        exact r'.apart i j s t a h2 h4 m1 m2 s1 s2
      · exact (nm h3 h4 m2).elim
    · exact (nm h1 h2 m1).elim
/-- a list that is being made, met by nothing and written by none: it grows -/
theorem SR.grow {G : Gx} {O W : List Addr} {σ : L2.St} {H : Hp} {ρ : List SD} {p : Addr} {o o' : HO} (r : SR G vs0 O W σ H ρ) (hO : p ∈ O) (hW : p ∉ W) (hp : H p = some o) (ht' : ∀ ps, o' ≠ .tbl ps := by intro _ z; cases z) (ht : ∀ ps, o ≠ .tbl ps := by intro _ z; cases z) (hx : ∀ f, o ≠ .ext f := by intro _ z; cases z) : SR G vs0 O W σ (upd H p o') ρ ∧ (∀ {d v}, Rp G O H d v → Rp G O (upd H p o') d v) ∧ (∀ {ds vs}, RpA G O H ds vs → RpA G O (upd H p o') ds vs) := by
  have w2 : Wf O (p :: W) H := ⟨fun b hb => by
    rcases List.mem_cons.mp hb with e | e
    · rw [e]; exact hO
    · exact r.wf.sub b e, r.wf.trk⟩
  have trk : ∀ b, ¬ NoD H b → ¬ NoD (upd H p o') b := fun b hb => by
    by_cases e : b = p
    · rw [e]; exact noD_not upd_same ht'
    · intro z; exact hb fun o h => z o (by rw [upd_ne e]; exact h)
  have st : Stp O (p :: W) H O (p :: W) (upd H p o') := ⟨fun b u e hb _ => by
    rw [upd_ne (fun z => hb (by simp [z]))]; exact e, fun _ h => .inl h, fun _ h => .inl h, trk, fun _ h _ => h⟩
  have own : ∀ {a xs}, OwnAt G O W H a xs → OwnAt G O W (upd H p o') a xs := fun {a xs} h => by
    obtain ⟨h1, vs, h2, h3, h4⟩ := h
    exact ⟨h1, vs, by rw [upd_ne (show a ≠ p from fun z => hW (by rw [← z]; exact h1))]; exact h2, h3, h4.step w2 st⟩
  refine ⟨⟨⟨r.wf.sub, fun b hb => trk b (r.wf.trk b hb)⟩, r.len, fun i s e => ?_, r.apart, tabs_but r.tabs.tc hp (fun b u n h => by rw [upd_ne n]; exact h) ht hx, fun q hq => (r.tabs.k q hq).step w2 st⟩, fun h => h.step w2 st, fun h => h.step w2 st⟩
  have q := r.slot i s e
  cases s with
  | no => trivial
  | sh d => obtain ⟨v, e, r⟩ := q; exact ⟨v, e, r.step w2 st⟩
  | own xs => obtain ⟨a, e, r⟩ := q; exact ⟨a, e, own r⟩
  | byr xs => obtain ⟨a, e, e0, r⟩ := q; exact ⟨a, e, e0, own r⟩
  | xn c fs => obtain ⟨a, q, gs, e, x, t, n, r⟩ := q; exact ⟨a, q, gs, e, x, (st.at w2 t n).1, n, RpF.step w2 st r⟩
  | gv => exact q
/-- one reading for all blocks -/
theorem ej_all {ι : Type} {Xs : ι → Cx} {K : PySem.W.Frag} {e : Expr} {f : Sx} (hK : ∀ c, (Xs c).K = K) (h : ∀ c, EJ (Xs c) cl vs0 Wx e f) : ∃ t : TE, (∀ c, PE (Xs c) e t) ∧ ∀ O W σ H ρ Q, SR (gk K cl) vs0 O W σ H ρ → AftE (gk K cl) vs0 Wx O W σ H Q (f ρ) → t σ H Q := by
  refine ⟨fun σ H Q => ∃ O W ρ, SR (gk K cl) vs0 O W σ H ρ ∧ AftE (gk K cl) vs0 Wx O W σ H Q (f ρ), fun c => ⟨fun pins s σ H Q I hw => ?_⟩, fun O W σ H ρ Q sr hw => ⟨O, W, ρ, sr, hw⟩⟩
  obtain ⟨t, p, q⟩ := (h c).ex
  obtain ⟨O, W, ρ, sr, hw⟩ := hw
  have e := hK c
  subst e
  exact p.run pins s σ H Q I (q O W σ H ρ Q sr hw)
/-- a clause's tests -/
def bYes : Sb := fun ρ => .ok (true, ρ)
structure FJ (X : Cx) (cl : Cl) (vs0 : List V) (Wx : WX) (ifs : List Expr) (f : Sb) : Prop where
  ex : ∃ t, PTs X ifs t ∧ ∀ O W σ H ρ Q, SR (gx X cl) vs0 O W σ H ρ → AftB (gx X cl) vs0 Wx O W σ H Q (f ρ) → t σ H Q
theorem fj_all {ι : Type} {Xs : ι → Cx} {K : PySem.W.Frag} {ifs : List Expr} {f : Sb} (hK : ∀ c, (Xs c).K = K) (h : ∀ c, FJ (Xs c) cl vs0 Wx ifs f) :
    ∃ t : TT, (∀ c, PTs (Xs c) ifs t) ∧ ∀ O W σ H ρ Q, SR (gk K cl) vs0 O W σ H ρ → AftB (gk K cl) vs0 Wx O W σ H Q (f ρ) → t σ H Q := by
  refine ⟨fun σ H Q => ∃ O W ρ, SR (gk K cl) vs0 O W σ H ρ ∧ AftB (gk K cl) vs0 Wx O W σ H Q (f ρ), fun c => ⟨fun pins s σ H Q I hw => ?_⟩, fun O W σ H ρ Q sr hw => ⟨O, W, ρ, sr, hw⟩⟩
  obtain ⟨t, p, q⟩ := (h c).ex
  obtain ⟨O, W, ρ, sr, hw⟩ := hw
  have e := hK c
  subst e
  exact p.run pins s σ H Q I (q O W σ H ρ Q sr hw)
theorem gj_all {ι : Type} {Xs : ι → Cx} {K : PySem.W.Frag} {tg : Expr} {st : Tg} {is : List Nat} (hK : ∀ c, (Xs c).K = K) (h : ∀ c, GJ (Xs c) cl vs0 tg st is) :
    ∃ g : TG, (∀ c, PG (Xs c) tg g) ∧ ∀ O W σ H ρ ρ' d v Q, SR (gk K cl) vs0 O W σ H ρ → Rp (gk K cl) O H d v → st d ρ = some ρ' → (∀ σ', SR (gk K cl) vs0 O W σ' H ρ' → (∀ vs, (∀ i ∈ is, i ∈ vs) → L2.wipe σ' vs = L2.wipe σ vs) → Q σ' H) → g v σ H Q := by
  refine ⟨fun v σ H Q => ∃ O W ρ ρ' d, SR (gk K cl) vs0 O W σ H ρ ∧ Rp (gk K cl) O H d v ∧ st d ρ = some ρ' ∧ (∀ σ', SR (gk K cl) vs0 O W σ' H ρ' → (∀ vs, (∀ i ∈ is, i ∈ vs) → L2.wipe σ' vs = L2.wipe σ vs) → Q σ' H), fun c => ⟨fun pins s σ H v u Q I r hw => ?_⟩, fun O W σ H ρ ρ' d v Q sr rp e hw => ⟨O, W, ρ, ρ', d, sr, rp, e, hw⟩⟩
  obtain ⟨t, p, q⟩ := (h c).ex
  obtain ⟨O, W, ρ, ρ', d, sr, rp, es, hw⟩ := hw
  have e := hK c
  subst e
  exact p.run pins s σ H v u Q I r (q O W σ H ρ ρ' d v Q sr rp es hw)
theorem fj_nil : FJ X cl vs0 Wx [] bYes := ⟨⟨_, pts_nil, fun O W σ H ρ Q sr h => h O W H Stp.refl sr⟩⟩
theorem fj_one {c : Expr} {f : Sb} (h : TJ X cl vs0 Wx c f) : FJ X cl vs0 Wx [c] f := by
  obtain ⟨t, p, q⟩ := h.ex
  exact ⟨⟨t, pts_one p, q⟩⟩
noncomputable def lcL (m : Itm) (st : Tg) (test : Sb) (elt : Sx) (vs : List Nat) : List D → List SD → Rs (List D × List SD)
  | [], ρ => .ok ([], ρ)
  | d :: ds, ρ => match st d ρ with
    | some ρ1 => match test ρ1 with
      | .ok (true, ρ2) => match elt ρ2 with
        | .ok (r, ρ3) => if m.keep (wipeR ρ3 vs) then (lcL m st test elt vs ds (wipeR ρ3 vs)).bind fun q => .ok (r.frz :: q.1, q.2) else .bad
        | _ => .bad
      | .ok (false, ρ2) => if m.keep (wipeR ρ2 vs) then lcL m st test elt vs ds (wipeR ρ2 vs) else .bad
      | _ => .bad
    | none => .bad
noncomputable def xLc (src : Src) (st : Tg) (test : Sb) (elt : Sx) (vs : List Nat) : Sx := fun ρ => (src ρ).bind fun p => if p.1.keep (wipeR p.2 vs) ∧ (∀ b ∈ p.1.bor, b.1 ∉ vs) then
  match lcL p.1 st test elt vs p.1.xs (wipeR p.2 vs) with
  | .ok (ds, ρ') => .ok (.own ds, backR p.2 ρ' vs)
  | _ => .bad
  else .bad
end
end Wm
end

section
/-! List comprehensions. -/
namespace Wm
open PySem PySem.Spec PyProof.Rows L2
section
variable {X : Cx} {cl : Cl} {vs0 : List V} {Wx : WX}
theorem wipe_wipe {σ : L2.St} : ∀ {vs : List Nat}, wipe (wipe σ vs) vs = wipe σ vs := by
  intro vs
  apply List.ext_getElem?
  intro i
  by_cases h : i ∈ vs
  · have key : ∀ (τ : L2.St) (ws : List Nat), i ∈ ws → (wipe τ ws)[i]? = if i < τ.length then some none else none := by
      intro τ ws
      induction ws with
      | nil => intro h; cases h
      | cons w ws ih =>
        intro h
        unfold wipe
        by_cases e : w = i
        · subst e
          by_cases hl : w < τ.length
          · rw [List.getElem?_set_self (by rw [wipe_length]; exact hl), if_pos hl]
          · rw [if_neg hl]
            exact List.getElem?_eq_none (by rw [List.length_set, wipe_length]; omega)
        · rw [List.getElem?_set_ne e]
          rcases List.mem_cons.mp h with z | z
          · exact absurd z.symm e
          · exact ih z
    rw [key _ _ h, key _ _ h, wipe_length]
  · rw [wipe_get h]
theorem SR.addW {G : Gx} {O W : List Addr} {σ : L2.St} {H : Hp} {ρ : List SD} {p : Addr} (r : SR G vs0 O W σ H ρ) (h : p ∈ O) : SR G vs0 O (p :: W) σ H ρ := by
  refine ⟨⟨fun b hb => ?_, r.wf.trk⟩, r.len, fun i s e => ?_, r.apart, r.tabs⟩
  · rcases List.mem_cons.mp hb with z | z
    · rw [z]; exact h
    · exact r.wf.sub b z
  · have q := r.slot i s e
    cases s with
    | no => trivial
    | sh d => exact q
    | own xs => obtain ⟨a, e, h1, r⟩ := q; exact ⟨a, e, List.mem_cons_of_mem _ h1, r⟩
    | byr xs => obtain ⟨a, e, e0, h1, r⟩ := q; exact ⟨a, e, e0, List.mem_cons_of_mem _ h1, r⟩
    | xn c fs => exact q
    | gv => exact q
theorem Stp.addW {O W O' W' : List Addr} {H H' : Hp} {p : Addr} (s : Stp O W H O' W' H') (n : H p = none) : Stp O W H O' (p :: W') H' :=
  ⟨s.keep, fun b hb => by
    rcases List.mem_cons.mp hb with z | z
    · right; rw [z]; exact noD_none n
    · exact s.wnew b z, s.onew, s.trk, s.ofz⟩
theorem Stp.addO {O W : List Addr} {H H' : Hp} {p : Addr} (h : Same H H') (n : H p = none) : Stp O W H (p :: O) W H' :=
  ⟨fun b o e _ _ => h b o e, fun b hb => .inl hb, fun b hb => by
    rcases List.mem_cons.mp hb with z | z
    · right; rw [z]; exact noD_none n
    · exact .inl z, (Stp.same (O := O) (W := W) h).trk, fun b hb _ => List.mem_cons_of_mem _ hb⟩
theorem RpA.snoc {G : Gx} {O : List Addr} {H : Hp} {ds : List D} {vs : List V} {d : D} {v : V} (r : RpA G O H ds vs) (h : Rp G O H d v) : RpA G O H (ds ++ [d]) (vs ++ [v]) := r.append (by simp only [RpA]; exact ⟨v, [], rfl, h, rfl⟩)
/-- a list that is being made is not met -/
structure Held (p : Addr) (acc : List V) (O W : List Addr) (H : Hp) : Prop where
  o : p ∈ O
  w : p ∉ W
  h : H p = some (.lst acc)
theorem Held.step {p : Addr} {acc : List V} {O W O' W' : List Addr} {H H' : Hp} (h : Held p acc O W H) (s : Stp O W H O' W' H') : Held p acc O' W' H' :=
  ⟨s.ofz p h.o h.w, (fun z => by
    rcases s.wnew p z with q | q
    · exact h.w q
    · exact noD_not h.h (by intro _ z; cases z) q), s.keep p _ h.h h.w (fun _ z => by cases z)⟩
theorem lc_sound {wi : TI} {g : TG} {tt : TT} {te : TE} {src : Src} {st : Tg} {is : List Nat} {test : Sb} {f : Sx} {vs : List Nat} (his : ∀ i ∈ is, i ∈ vs)
    (q1 : ∀ O W σ H ρ R, SR (gx X cl) vs0 O W σ H ρ → AftI (gx X cl) vs0 Wx O W σ H R (src ρ) → wi σ H R)
    (q2 : ∀ O W σ H ρ ρ' d v Q, SR (gx X cl) vs0 O W σ H ρ → Rp (gx X cl) O H d v → st d ρ = some ρ' → (∀ σ', SR (gx X cl) vs0 O W σ' H ρ' → (∀ vs, (∀ i ∈ is, i ∈ vs) → wipe σ' vs = wipe σ vs) → Q σ' H) → g v σ H Q)
    (q3 : ∀ O W σ H ρ Q, SR (gx X cl) vs0 O W σ H ρ → AftB (gx X cl) vs0 WX0 O W σ H Q (test ρ) → tt σ H Q)
    (q4 : ∀ O W σ H ρ Q, SR (gx X cl) vs0 O W σ H ρ → AftE (gx X cl) vs0 WX0 O W σ H Q (f ρ) → te σ H Q) :
    ∀ O W σ H ρ Q, SR (gx X cl) vs0 O W σ H ρ → AftE (gx X cl) vs0 Wx O W σ H Q (xLc src st test f vs ρ) → tLc wi g tt te vs σ H Q := by
  intro O W σ H ρ Q sr hw
  refine q1 O W σ H ρ _ sr ?_
  unfold xLc at hw
  cases e : src ρ with
  | bad => rw [e] at hw; exact hw
  | exc c fs ρ' => rw [e] at hw; exact hw
  | ok pm =>
    obtain ⟨m, ρ1⟩ := pm
    rw [e] at hw
    have hw : AftE (gx X cl) vs0 Wx O W σ H Q (if m.keep (wipeR ρ1 vs) ∧ (∀ b ∈ m.bor, b.1 ∉ vs) then
      match lcL m st test f vs m.xs (wipeR ρ1 vs) with
      | .ok (ds, ρ') => .ok (.own ds, backR ρ1 ρ' vs)
      | _ => .bad
      else .bad) := hw
    intro J O1 W1 H1 st1 sr1 hk wk p np
    split at hw
    · rename_i hcond
      cases eL : lcL m st test f vs m.xs (wipeR ρ1 vs) with
      | bad => rw [eL] at hw; exact hw.elim
      | exc c fs ρ' => rw [eL] at hw; exact hw.elim
      | ok pe =>
        obtain ⟨all, ρe⟩ := pe
        rw [eL] at hw
        have hslots : m.slots σ (wipe σ vs) := fun b hb => wipe_get (hcond.2 b hb)
        have sm0 : Same H1 (upd H1 p (.lst [])) := same_upd np
        have st0 : Stp O1 W1 H1 (p :: O1) W1 (upd H1 p (.lst [])) := Stp.addO sm0 np
        have w0 : Wf (p :: O1) W1 (upd H1 p (.lst [])) := ⟨fun b hb => List.mem_cons_of_mem _ (sr1.wf.sub b hb), fun b hb => by
          rcases List.mem_cons.mp hb with z | z
          · rw [z]; exact noD_not upd_same
          · exact (sr1.wf.same sm0).trk b z⟩
        have pW : p ∉ W1 := fun z => sr1.wf.trk p (sr1.wf.sub p z) (noD_none np)
        have sr0 : SR (gx X cl) vs0 (p :: O1) W1 (wipe σ vs) (upd H1 p (.lst [])) (wipeR ρ1 vs) := (sr1.wipe vs).step w0 st0 (fun _ h => h) (fun b o _ e => sm0 b o e) (sr1.tabs.tc.ext sm0)
        refine ⟨fun i k H2 => ∃ O2 W2 ρ2 ds acc ads es, k = ds.length ∧ i + ds.length = m.xs.length ∧ m.xs.drop i = ds ∧ Stp O1 W1 H1 O2 W2 H2 ∧ Held p acc O2 W2 H2 ∧ acc.length ≤ i ∧ RpA (gx X cl) O2 H2 ads acc ∧
          SR (gx X cl) vs0 O2 W2 (wipe σ vs) H2 ρ2 ∧ m.keep ρ2 ∧ lcL m st test f vs ds ρ2 = .ok (es, ρe) ∧ ads ++ es = all,
          ⟨m.xs.length, p :: O1, W1, _, m.xs, [], [], all, rfl, Nat.zero_add _, rfl, st0, ⟨by simp, pW, upd_same⟩, Nat.le_refl _, by simp only [RpA], sr0, hcond.1, eL, rfl⟩, ?_⟩
        rintro i k H2 ⟨O2, W2, ρ2, ds, acc, ads, es, rfl, hlen, hdrop, st2, hd2, hal, ra, sr2, hkp, hL, hall⟩
        cases ds with
        | nil =>
          have hi : i = m.xs.length := by simpa using hlen
          subst hi
          have hL : Rs.ok (([] : List D), ρ2) = .ok (es, ρe) := hL
          injection hL with hL
          injection hL with e1 e2
          subst e1 e2
          rw [List.append_nil] at hall
          subst hall
          refine .inl ⟨wk.stop O2 W2 (wipe σ vs) H2 ρ2 st2 sr2 hslots hkp, ?_⟩
          refine hw (.ref p) O2 (p :: W2) H2 (st1.trans sr.wf (st2.addW np)) ((sr1.unwipe st2 sr2).addW hd2.o) ⟨p, rfl, ⟨List.mem_cons_self, acc, hd2.h, Nat.le_trans hal wk.len, ra⟩, fun j s es ms z => ?_⟩
          have sr3 := sr1.unwipe st2 sr2
          have : ∃ xs, s = .own xs ∨ s = .byr xs := by
            cases s with
            | own xs => exact ⟨xs, .inl rfl⟩
            | byr xs => exact ⟨xs, .inr rfl⟩
            | xn _ _ => cases ms
            | gv => cases ms
            | no => cases ms
            | sh d => cases ms
          obtain ⟨ys, hs⟩ := this
          obtain ⟨b, eb, ob⟩ := sr3.getOwn es hs
          rw [eb] at z; cases z
          exact hd2.w ob.1
        | cons d ds =>
          have hd : m.xs[i]? = some d := by
            have : (m.xs.drop i)[0]? = some d := by rw [hdrop]; rfl
            rw [List.getElem?_drop] at this
            simpa using this
          have hlt : i < m.xs.length := (List.getElem?_eq_some_iff.mp hd).1
          obtain ⟨hgo, hy⟩ := wk.go O2 W2 (wipe σ vs) H2 ρ2 i d st2 sr2 hslots hkp hd
          have hdr : m.xs.drop (i + 1) = ds := by rw [← List.drop_drop, hdrop]; rfl
          have hln : i + 1 + ds.length = m.xs.length := by rw [← hlen, List.length_cons]; omega
          refine .inr ⟨hgo, _, fun H' hN => ⟨ds.length, Nat.lt_succ_self _, hN⟩, fun x H3 hyl => ?_⟩
          obtain ⟨sm, rp⟩ := hy x H3 hyl
          have sr3 := sr2.same sm
          have st3 : Stp O2 W2 H2 O2 W2 H3 := Stp.same sm
          have st13 := st2.trans sr1.wf st3
          have hd3 := hd2.step st3
          have ra3 := ra.step sr2.wf st3
          unfold lcL at hL
          cases es1 : st d ρ2 with
          | none => rw [es1] at hL; cases hL
          | some ρ3 =>
            rw [es1] at hL
            dsimp only at hL
            refine q2 O2 W2 (wipe σ vs) H3 ρ2 ρ3 d x _ sr3 rp es1 fun σ4 sr4 hwp => ?_
            have hwp : wipe σ4 vs = wipe σ vs := (hwp vs his).trans wipe_wipe
            refine ⟨hwp, q3 O2 W2 σ4 H3 ρ3 _ sr4 ?_⟩
            cases et : test ρ3 with
            | bad => rw [et] at hL; cases hL
            | exc c fs ρ' => rw [et] at hL; cases hL
            | ok bt =>
              obtain ⟨b, ρ4⟩ := bt
              intro O5 W5 H5 st5 sr5
              have hd5 := hd3.step st5
              have ra5 := ra3.step sr3.wf st5
              have st15 := st13.trans sr1.wf st5
              cases b with
              | false =>
                rw [et] at hL
                have hL : (if m.keep (wipeR ρ4 vs) then lcL m st test f vs ds (wipeR ρ4 vs) else .bad) = .ok (es, ρe) := hL
                split at hL
                · rename_i hkp5
                  have sr6 := sr5.wipe vs
                  rw [hwp] at sr6
                  exact ⟨O5, W5, _, ds, acc, ads, es, rfl, hln, hdr, st15, hd5, by omega, ra5, sr6, hkp5, hL, hall⟩
                · cases hL
              | true =>
                rw [et] at hL
                dsimp only at hL
                refine q4 O5 W5 σ4 H5 ρ4 _ sr5 ?_
                cases ef : f ρ4 with
                | bad => rw [ef] at hL; cases hL
                | exc c fs ρ' => rw [ef] at hL; cases hL
                | ok pr =>
                  obtain ⟨r, ρ5⟩ := pr
                  rw [ef] at hL
                  have hL : (if m.keep (wipeR ρ5 vs) then (lcL m st test f vs ds (wipeR ρ5 vs)).bind fun q => .ok (r.frz :: q.1, q.2) else .bad) = .ok (es, ρe) := hL
                  split at hL
                  · rename_i hkp6
                    intro y O6 W6 H6 st6 sr6 rr
                    obtain ⟨O7, W7, st7, sr7, rp7⟩ := rr.frz sr6
                    have hd7 := (hd5.step st6).step st7
                    have ra7 := (ra5.step sr5.wf st6).step sr6.wf st7
                    have st17 := (st15.trans sr1.wf st6).trans sr1.wf st7
                    refine ⟨acc, hd7.h, Nat.lt_of_le_of_lt hal (Nat.lt_of_lt_of_le hlt wk.len), ?_⟩
                    have sr8 := sr7.wipe vs
                    rw [hwp] at sr8
                    obtain ⟨sr9, gr, gra⟩ := sr8.grow (o' := .lst (acc ++ [y])) hd7.o hd7.w hd7.h
                    cases eq : lcL m st test f vs ds (wipeR ρ5 vs) with
                    | bad => rw [eq] at hL; cases hL
                    | exc c fs ρ' => rw [eq] at hL; cases hL
                    | ok qq =>
                      obtain ⟨es2, ρe2⟩ := qq
                      rw [eq] at hL
                      have hL : Rs.ok (r.frz :: es2, ρe2) = Rs.ok (es, ρe) := hL
                      injection hL with hL
                      injection hL with e1 e2
                      subst e1 e2
                      refine ⟨O7, W7, _, ds, acc ++ [y], ads ++ [r.frz], es2, rfl, hln, hdr, ?_, ⟨hd7.o, hd7.w, upd_same⟩, by rw [List.length_append]; simp only [List.length_cons, List.length_nil]; omega, (gra ra7).snoc (gr rp7), sr9, hkp6, eq, by rw [List.append_assoc]; exact hall⟩
                      have nop : ∀ b, H1 b ≠ none → b ≠ p := fun b hb z => hb (z ▸ np)
                      exact ⟨fun b o eo hb ht => by rw [upd_ne (nop b (by rw [eo]; simp))]; exact st17.keep b o eo hb ht, st17.wnew, st17.onew, fun b hb => noD_upd (st17.trk b hb), st17.ofz⟩
                  · cases hL
    · exact hw.elim
variable {elt tg iter : Expr} {ifs : List Expr} {scope : Scope} {own : List (Str × Nat)} {pos : Pos} {src : Src} {st : Tg} {is : List Nat} {test : Sb} {f : Sx}
theorem ej_lc (hc : X.calm = true) (hN : X.N.Nodup) (hi : IJ X cl vs0 Wx tg iter src) (ok : BlkOk X.N X.env.scope scope own)
    (hg : ∀ (s : Shared) (H : Hp) (C : Addr) (cs : List (Str × Addr)) (fp : List Addr), GJ (X.blk s H scope (compEnvC scope cs C X.env) fp) cl vs0 tg st is)
    (ht : ∀ (s : Shared) (H : Hp) (C : Addr) (cs : List (Str × Addr)) (fp : List Addr), FJ (X.blk s H scope (compEnvC scope cs C X.env) fp) cl vs0 WX0 ifs test)
    (he : ∀ (s : Shared) (H : Hp) (C : Addr) (cs : List (Str × Addr)) (fp : List Addr), EJ (X.blk s H scope (compEnvC scope cs C X.env) fp) cl vs0 WX0 elt f) (his : ∀ i ∈ is, i ∈ own.map (·.2)) :
    EJ X cl vs0 Wx (.ListComp elt [⟨tg, iter, ifs, 0⟩] scope pos) (xLc src st test f (own.map (·.2))) := by
  obtain ⟨wi, p1, hs, q1⟩ := hi.ex
  let Xs : Shared × Hp × Addr × List (Str × Addr) × List Addr → Cx := fun c => X.blk c.1 c.2.1 scope (compEnvC scope c.2.2.2.1 c.2.2.1 X.env) c.2.2.2.2
  obtain ⟨g, p2, q2⟩ := gj_all (Xs := Xs) (K := X.K) (fun _ => rfl) fun c => hg c.1 c.2.1 c.2.2.1 c.2.2.2.1 c.2.2.2.2
  obtain ⟨tt, p3, q3⟩ := fj_all (Xs := Xs) (K := X.K) (fun _ => rfl) fun c => ht c.1 c.2.1 c.2.2.1 c.2.2.2.1 c.2.2.2.2
  obtain ⟨te, p4, q4⟩ := ej_all (Xs := Xs) (K := X.K) (fun _ => rfl) fun c => he c.1 c.2.1 c.2.2.1 c.2.2.2.1 c.2.2.2.2
  exact ⟨⟨_, pe_lc hc hN p1 ok (fun s H C cs fp => p2 (s, H, C, cs, fp)) (fun s H C cs fp => p3 (s, H, C, cs, fp)) (fun s H C cs fp => p4 (s, H, C, cs, fp)) hs, lc_sound his q1 q2 q3 q4⟩⟩
/-- y = [..] -/
theorem sj_setLc {i : Nat} {y : Str} {py spos : Pos} (hc : X.calm = true) (hN : X.N.Nodup) (hy : X.N[i]? = some y) (hyl : X.env.scope.names.lookup y = some .local)
    (hsw : swapsWith (.ListComp elt [⟨tg, iter, ifs, 0⟩] scope pos) (some (.Name y py)) spos.line X.env = pure true) (hi : IJ X cl vs0 Wx tg iter src) (ok : BlkOk X.N X.env.scope scope own)
    (hg : ∀ (s : Shared) (H : Hp) (C : Addr) (cs : List (Str × Addr)) (fp : List Addr), GJ (X.blk s H scope (compEnvC scope cs C X.env) fp) cl vs0 tg st is)
    (ht : ∀ (s : Shared) (H : Hp) (C : Addr) (cs : List (Str × Addr)) (fp : List Addr), FJ (X.blk s H scope (compEnvC scope cs C X.env) fp) cl vs0 WX0 ifs test)
    (he : ∀ (s : Shared) (H : Hp) (C : Addr) (cs : List (Str × Addr)) (fp : List Addr), EJ (X.blk s H scope (compEnvC scope cs C X.env) fp) cl vs0 WX0 elt f) (his : ∀ i ∈ is, i ∈ own.map (·.2)) :
    SJ X cl vs0 Wx (.Assign [.Name y py] (.ListComp elt [⟨tg, iter, ifs, 0⟩] scope pos) spos) (sSet i (xLc src st test f (own.map (·.2)))) := by
  obtain ⟨wi, p1, hs, q1⟩ := hi.ex
  let Xs : Shared × Hp × Addr × List (Str × Addr) × List Addr → Cx := fun c => X.blk c.1 c.2.1 scope (compEnvC scope c.2.2.2.1 c.2.2.1 X.env) c.2.2.2.2
  obtain ⟨g, p2, q2⟩ := gj_all (Xs := Xs) (K := X.K) (fun _ => rfl) fun c => hg c.1 c.2.1 c.2.2.1 c.2.2.2.1 c.2.2.2.2
  obtain ⟨tt, p3, q3⟩ := fj_all (Xs := Xs) (K := X.K) (fun _ => rfl) fun c => ht c.1 c.2.1 c.2.2.1 c.2.2.2.1 c.2.2.2.2
  obtain ⟨te, p4, q4⟩ := ej_all (Xs := Xs) (K := X.K) (fun _ => rfl) fun c => he c.1 c.2.1 c.2.2.1 c.2.2.2.1 c.2.2.2.2
  exact ⟨⟨_, ps_setLc hc hN hy hyl hsw p1 ok (fun s H C cs fp => p2 (s, H, C, cs, fp)) (fun s H C cs fp => p3 (s, H, C, cs, fp)) (fun s H C cs fp => p4 (s, H, C, cs, fp)) hs,
    fun O W σ H ρ E sr hw => lc_sound his q1 q2 q3 q4 O W σ H ρ _ sr (e_core sr.wf hw fun v s ρ' O' W' H' sr' rr hk => hk _ O' W' H' Stp.refl (sr'.put rr))⟩⟩
end
end Wm
end

section
/-! Defs and their calls. -/
namespace Wm
open PySem PySem.Spec PyProof.Rows L2
/-- what a def computes: of its arguments (data, or lists that it may write) a result, and how it leaves them -/
abbrev Fn := List SD → Rs (SD × List SD)
/-- the wish of a def's exceptions -/
abbrev wxE (E : XK) : WX := fun c d _ H => E c d H
def spF (G : Gx) (n : Nat) (F : Fn) : Sp := fun vs H Q E => vs.length = n ∧ ∃ O W as, SR G vs O W (vs.map some) H as ∧ AftE G vs (wxE E) O W (vs.map some) H Q (F as)
def trim1 : SD → SD
  | .byr xs => .byr xs
  | _ => .no
def trim (n : Nat) (ρ : List SD) : List SD := (List.range n).map fun i => trim1 (ρ[i]?.getD .no)
def bodyF (N : Nat) (g : Ss) : Fn := fun as => match g (as ++ List.replicate (N - as.length) .no) with
  | .ok (.rt r ρ') => .ok (r, trim as.length ρ')
  | .ok (.nx ρ') => .ok (.sh .non, trim as.length ρ')
  | .exc c fs ρ' => .exc c fs (trim as.length ρ')
  | _ => .bad
section
variable {G : Gx} {O W O' W' : List Addr} {σ : L2.St} {H H' : Hp} {ρ : List SD} {vs : List V} {as : List SD}
theorem trim_get {n i : Nat} {s : SD} (h : (trim n ρ)[i]? = some s) : i < n ∧ (s = .no ∨ ∃ xs, ρ[i]? = some (.byr xs) ∧ s = .byr xs) := by
  unfold trim at h
  rw [List.getElem?_map] at h
  obtain ⟨k, h1, h2⟩ := Option.map_eq_some_iff.mp h
  obtain ⟨hl, e⟩ := List.getElem?_eq_some_iff.mp h1
  rw [List.getElem_range] at e
  subst e
  refine ⟨by simpa using hl, ?_⟩
  cases q : ρ[i]? with
  | none => rw [q] at h2; exact .inl h2.symm
  | some s0 =>
    rw [q] at h2
    cases s0 with
    | byr xs => exact .inr ⟨xs, rfl, h2.symm⟩
    | no => exact .inl h2.symm
    | xn _ _ => exact .inl h2.symm
    | gv => exact .inl h2.symm
    | sh d => exact .inl h2.symm
    | own xs => exact .inl h2.symm
theorem SR.enter {N : List Str} (r : SR G vs O W (vs.map some) H as) (hN : vs.length ≤ N.length) : SR G vs O W (L2.start N vs) H (as ++ List.replicate (N.length - as.length) .no) := by
  have hl : vs.length = as.length := by have := r.len; rw [List.length_map] at this; exact this
  have gs : ∀ {i : Nat} {s : SD}, (as ++ List.replicate (N.length - as.length) .no)[i]? = some s → (i < as.length ∧ as[i]? = some s) ∨ s = .no := fun {i s} e => by
    by_cases h : i < as.length
    · rw [List.getElem?_append_left h] at e; exact .inl ⟨h, e⟩
    · rw [List.getElem?_append_right (by omega), List.getElem?_replicate] at e
      split at e
      · cases e; exact .inr rfl
      · cases e
  have sg : ∀ {i : Nat}, i < as.length → (L2.start N vs)[i]? = (vs.map some)[i]? := fun {i} h => by
    unfold L2.start
    exact List.getElem?_append_left (by rw [List.length_map]; omega)
  refine ⟨r.wf, ?_, fun i s e => ?_, fun i j s t a e1 e2 m1 m2 s1 s2 => ?_, r.tabs⟩
  · unfold L2.start
    rw [List.length_append, List.length_map, List.length_replicate, List.length_append, List.length_replicate, hl]
  · rcases gs e with ⟨h, e⟩ | e
    · rw [sg h]; exact r.slot i s e
    · subst e; trivial
  · rcases gs e1 with ⟨h1, e1⟩ | e1
    · rcases gs e2 with ⟨h2, e2⟩ | e2
      · rw [sg h1] at s1
        rw [sg h2] at s2
        exact r.apart i j s t a e1 e2 m1 m2 s1 s2
      · subst e2; cases m2
    · subst e1; cases m1
theorem SR.leave {n : Nat} (r : SR G vs O W σ H ρ) (hn : n = vs.length) : SR G vs O W (vs.map some) H (trim n ρ) := by
  have key : ∀ {i : Nat} {s0 : SD} {xs : List D}, ρ[i]? = some s0 → s0 = .byr xs → ∃ a, vs[i]? = some (.ref a) ∧ σ[i]? = some (some (.ref a)) ∧ OwnAt G O W H a xs := fun {i s0 xs} e h => by
    subst h
    obtain ⟨a, h1, h2, h3⟩ := r.slot i _ e
    exact ⟨a, h2, join_some h1, h3⟩
  have mi : ∀ {i : Nat} {s : SD}, (trim n ρ)[i]? = some s → s.mine = true → ∃ xs, ρ[i]? = some (.byr xs) ∧ s = .byr xs := fun {i s} e m => by
    rcases (trim_get e).2 with z | z
    · subst z; cases m
    · exact z
  refine ⟨r.wf, ?_, fun i s e => ?_, fun i j s t a e1 e2 m1 m2 s1 s2 => ?_, r.tabs⟩
  · unfold trim
    rw [List.length_map, List.length_map, List.length_range, hn]
  · rcases (trim_get e).2 with z | ⟨xs, h1, z⟩
    · subst z; trivial
    · subst z
      obtain ⟨a, h3, h4, h5⟩ := key h1 rfl
      refine ⟨a, ?_, h3, h5⟩
      rw [List.getElem?_map, h3]; rfl
  · obtain ⟨xs, h1, rfl⟩ := mi e1 m1
    obtain ⟨ys, h2, rfl⟩ := mi e2 m2
    obtain ⟨b, h3, h4, _⟩ := key h1 rfl
    obtain ⟨c, h5, h6, _⟩ := key h2 rfl
    rw [List.getElem?_map, h3] at s1
    rw [List.getElem?_map, h5] at s2
    cases s1
    cases s2
    exact r.apart i j _ _ a h1 h2 rfl rfl h4 h6
theorem ResR.leave {n : Nat} {v : V} {s : SD} (r : SR G vs O W σ H ρ) (h : ResR G O W σ H ρ v s) : ResR G O W (vs.map some) H (trim n ρ) v s := by
  cases s with
  | no => exact h
  | byr xs => exact h
  | xn _ _ => exact h
  | gv => exact h
  | sh d => exact h
  | own xs =>
    obtain ⟨a, e, o, hn⟩ := h
    refine ⟨a, e, o, fun i s es ms z => ?_⟩
    rcases (trim_get es).2 with y | ⟨ys, h1, y⟩
    · subst y; cases ms
    · obtain ⟨b, q1, q2, _⟩ := r.slot i _ h1
      rw [List.getElem?_map, q2] at z
      cases z
      exact hn i _ h1 rfl (join_some q1)
end
section
variable {P : Program} {w : World} {K : PySem.W.Frag} {mg : Str → Option Value} {base : Heap}
/-- a def by its body -/
theorem fn_sound {qual : Str} {scope : Scope} {f : Addr} {cdv : Value} {A : Around} {outer : List Env} {s : Shared} {H : Hp} {N ps : List Str} {cl : Cl} {body : List Stmt} {g : Ss} {vs : List V} {Q : VK} {E : XK} (S : FnScope N ps scope) (hlen : vs.length = ps.length)
    (hb : BJ (cxOf (L2.CX P w) P w K mg base N qual scope f cdv A outer s H E) cl vs (wxE E) body g) (h : spF (gk K cl) ps.length (bodyF N.length g) vs H Q E) :
    ∃ t, PSs (cxOf (L2.CX P w) P w K mg base N qual scope f cdv A outer s H E) body t ∧ t { nx := fun _ H' => Q .non H', rt := Q } (L2.start N vs) H := by
  obtain ⟨t, p, q⟩ := hb.ex
  obtain ⟨_, O, W, as, sr, hw⟩ := h
  have hl : vs.length = as.length := by have := sr.len; rw [List.length_map] at this; exact this
  have hpl : ps.length ≤ N.length := by have := congrArg List.length S.pre; rw [List.length_take] at this; omega
  refine ⟨t, p, q O W (L2.start N vs) H _ _ (sr.enter (by omega)) ?_⟩
  unfold bodyF at hw
  cases e : g (as ++ List.replicate (N.length - as.length) .no) with
  | bad => rw [e] at hw; exact hw
  | exc c fs ρ' =>
    rw [e] at hw
    exact fun σ' p gs O' W' H' st sr' hp hf => hw p gs O' W' H' st (sr'.leave hl.symm) hp hf
  | ok fl =>
    rw [e] at hw
    cases fl with
    | nx ρ' =>
      exact fun σ' O' W' H' st sr' => hw .non O' W' H' st (sr'.leave hl.symm) (show Rp (gk K cl) O' H' .non .non by simp only [Rp])
    | rt r ρ' =>
      exact fun v σ' O' W' H' st sr' rr => hw v O' W' H' st (sr'.leave hl.symm) (rr.leave sr')
    | bk ρ' => exact hw.elim
    | ct ρ' => exact hw.elim
theorem fn_ok {x qual : Str} {st : Stmt} {f : Addr} {fd : FuncData} {N ps : List Str} {k : Nat} {cl : Cl} {g : Ss} (F : Fun K x qual st f fd) (S : FnScope N ps (defScope st))
    (hb : ∀ (cdv : Value) (A : Around) (outer : List Env) (s : Shared) (H : Hp) (vs : List V) (E : XK), Room k (A.deeper (envOfC qual (defScope st) s.heap.objs.size f cdv)) →
      BJ (cxOf (L2.CX P w) P w K mg base N qual (defScope st) f cdv A outer s H E) cl vs (wxE E) (defBody st) g) : FnOk P w K mg base (L2.CX P w) (k + 1) f fd ps (spF (gk K cl) ps.length (bodyF N.length g)) :=
  F.okX S (fun vs H Q E h => h.1) fun cdv A outer s H vs Q E hr h => fn_sound S h.1 (hb cdv A outer s H vs E hr) h
end

/-! ### calls -/
/-- the arguments of a call: a name hands on what it holds, a list of one's own to be written; anything else is data -/
def passSD : SD → SD
  | .own xs => .byr xs
  | s => s
def argOf (ρ : List SD) (i : Nat) : Rs SD := match ρ[i]? with
  | some (.sh d) => .ok (.sh d)
  | some (.own xs) => .ok (.byr xs)
  | some (.byr xs) => .ok (.byr xs)
  | _ => .bad
/-- arguments, and the slots that they were read from -/
def cargs : List LOp → List SD → Rs (List (SD × Option Nat) × List SD)
  | [], ρ => .ok ([], ρ)
  | .va i :: r, ρ => (argOf ρ i).bind fun _ => (cargs r ρ).bind fun p => (argOf p.2 i).bind fun s => .ok ((s, some i) :: p.1, p.2)
  | .ex f :: r, ρ => (f ρ).bind fun p => (cargs r p.2).bind fun q => .ok ((.sh p.1.frz, none) :: q.1, q.2)
/-- the slots whose lists are handed on -/
def lent : List (SD × Option Nat) → List Nat
  | [] => []
  | (.byr _, some i) :: r => i :: lent r
  | _ :: r => lent r
/-- a slot behind a call -/
def backS : SD → SD → SD
  | .own _, .byr xs => .own xs
  | .byr _, .byr xs => .byr xs
  | .sh d, _ => .sh d
  | _, _ => .no
def backAll : List (SD × Option Nat) → List SD → List SD → List SD
  | (.byr _, some i) :: r, s :: ss, ρ => (backAll r ss ρ).set i (backS (ρ[i]?.getD .no) s)
  | _ :: r, _ :: ss, ρ => backAll r ss ρ
  | _, _, ρ => ρ
def xCall (F : Fn) (fl : List LOp) : Sx := fun ρ => (cargs fl ρ).bind fun p => if (lent p.1).Nodup then
    match F (p.1.map (·.1)) with
    | .ok (r, as') => .ok (r, backAll p.1 as' p.2)
    | .exc c fs as' => .exc c fs (backAll p.1 as' p.2)
    | .bad => .bad
  else .bad
end Wm
end

section
/-! Calls of defs. -/
namespace Wm
open PySem PySem.Spec PyProof.Rows L2
def CR1 (G : Gx) (O W : List Addr) (σ : L2.St) (H : Hp) (ρ : List SD) : SD × Option Nat → V → Prop
  | (.sh d, _), v => Rp G O H d v
  | (.byr xs, some i), v => ∃ a, v = .ref a ∧ σ[i]? = some (some (.ref a)) ∧ OwnAt G O W H a xs ∧ (ρ[i]? = some (.own xs) ∨ ρ[i]? = some (.byr xs))
  | _, _ => False
def CRs (G : Gx) (O W : List Addr) (σ : L2.St) (H : Hp) (ρ : List SD) : List (SD × Option Nat) → List V → Prop
  | [], vs => vs = []
  | p :: ps, vs => ∃ v r, vs = v :: r ∧ CR1 G O W σ H ρ p v ∧ CRs G O W σ H ρ ps r
def AftK (G : Gx) (vs0 : List V) (Wx : WX) (O W : List Addr) (σ : L2.St) (H : Hp) (Q : List V → Hp → Prop) : Rs (List (SD × Option Nat) × List SD) → Prop
  | .ok (ps, ρ') => ∀ vs O' W' H', Stp O W H O' W' H' → SR G vs0 O' W' σ H' ρ' → CRs G O' W' σ H' ρ' ps vs → Q vs H'
  | .exc c fs ρ' => ExcA G vs0 Wx O W σ H c fs ρ'
  | .bad => False
structure KJ (X : Cx) (cl : Cl) (vs0 : List V) (Wx : WX) (es : List Expr) (fl : List LOp) : Prop where
  ex : ∃ ts, PEs X es ts ∧ PA X es (tAll ts) ∧ ∀ O W σ H ρ R, SR (gx X cl) vs0 O W σ H ρ → AftK (gx X cl) vs0 Wx O W σ H R (cargs fl ρ) → tAll ts σ H R
section
variable {X : Cx} {cl : Cl} {vs0 : List V} {Wx : WX}
theorem argOf_noexc {ρ : List SD} {i : Nat} {c : Str} {fs : List (Str × D)} {ρ' : List SD} : argOf ρ i ≠ .exc c fs ρ' := by
  unfold argOf
  split <;> exact fun z => nomatch z
theorem argOf_sr {G : Gx} {O W : List Addr} {σ : L2.St} {H : Hp} {ρ : List SD} {i : Nat} {s : SD} (sr : SR G vs0 O W σ H ρ) (h : argOf ρ i = .ok s) : ∃ v, σ[i]? = some (some v) ∧ CR1 G O W σ H ρ (s, some i) v := by
  unfold argOf at h
  split at h
  · rename_i d e
    cases h
    obtain ⟨v, e1, r⟩ := sr.get e
    exact ⟨v, e1, r⟩
  · rename_i xs e
    cases h
    obtain ⟨a, e1, o⟩ := sr.getOwn e (.inl rfl)
    exact ⟨_, e1, a, rfl, e1, o, .inl e⟩
  · rename_i xs e
    cases h
    obtain ⟨a, e1, o⟩ := sr.getOwn e (.inr rfl)
    exact ⟨_, e1, a, rfl, e1, o, .inr e⟩
  · cases h
theorem kj_nil : KJ X cl vs0 Wx [] [] := ⟨⟨[], .nil, pa_nil, fun O W σ H ρ R sr h => h [] O W H Stp.refl sr rfl⟩⟩
theorem kj_cons {e : Expr} {es : List Expr} {o : LOp} {fl : List LOp} (h : LJ X cl vs0 Wx e o) (hr : KJ X cl vs0 Wx es fl) (hs : starEach (e :: es) X.env = (false, eval e X.env) :: starEach es X.env := by rfl) : KJ X cl vs0 Wx (e :: es) (o :: fl) := by
  obtain ⟨ts, p1, p2, p3⟩ := hr.ex
  cases o with
  | va i =>
    refine ⟨⟨tVar i :: ts, .cons h p1, pa_cons h p2 hs, fun O W σ H ρ R sr hw => ?_⟩⟩
    have hw' : AftK (gx X cl) vs0 Wx O W σ H R ((argOf ρ i).bind fun _ => (cargs fl ρ).bind fun p => (argOf p.2 i).bind fun s => .ok ((s, some i) :: p.1, p.2)) := hw
    cases e0 : argOf ρ i with
    | bad => rw [e0] at hw'; exact hw'.elim
    | exc c fs ρ' => exact absurd e0 argOf_noexc
    | ok d0 =>
      rw [e0] at hw'
      obtain ⟨v, ev, _⟩ := argOf_sr sr e0
      refine ⟨v, ev, p3 O W σ H ρ _ sr ?_⟩
      have hw2 : AftK (gx X cl) vs0 Wx O W σ H R ((cargs fl ρ).bind fun p => (argOf p.2 i).bind fun s => .ok ((s, some i) :: p.1, p.2)) := hw'
      cases e1 : cargs fl ρ with
      | bad => rw [e1] at hw2; exact hw2
      | exc c fs ρ' => rw [e1] at hw2; exact hw2
      | ok p =>
        obtain ⟨ps, ρ1⟩ := p
        rw [e1] at hw2
        have hw3 : AftK (gx X cl) vs0 Wx O W σ H R ((argOf ρ1 i).bind fun s => .ok ((s, some i) :: ps, ρ1)) := hw2
        intro vs O' W' H' st sr' ho
        cases e2 : argOf ρ1 i with
        | bad => rw [e2] at hw3; exact hw3.elim
        | exc c fs ρ' => exact absurd e2 argOf_noexc
        | ok d =>
          rw [e2] at hw3
          obtain ⟨v', ev', r'⟩ := argOf_sr sr' e2
          rw [ev] at ev'; cases ev'
          exact hw3 (v :: vs) O' W' H' st sr' ⟨v, vs, rfl, r', ho⟩
  | ex f =>
    obtain ⟨t, q1, q2⟩ := h.ex
    refine ⟨⟨t :: ts, .cons q1 p1, pa_cons q1 p2 hs, fun O W σ H ρ R sr hw => ?_⟩⟩
    have hw' : AftK (gx X cl) vs0 Wx O W σ H R ((f ρ).bind fun p => (cargs fl p.2).bind fun q => .ok ((.sh p.1.frz, none) :: q.1, q.2)) := hw
    refine q2 O W σ H ρ _ sr ?_
    cases e0 : f ρ with
    | bad => rw [e0] at hw'; exact hw'
    | exc c fs ρ' => rw [e0] at hw'; exact hw'
    | ok p =>
      obtain ⟨r, ρ1⟩ := p
      rw [e0] at hw'
      have hw2 : AftK (gx X cl) vs0 Wx O W σ H R ((cargs fl ρ1).bind fun q => .ok ((.sh r.frz, none) :: q.1, q.2)) := hw'
      intro v O1 W1 H1 st1 sr1 rr
      obtain ⟨O2, W2, st2, sr2, rp⟩ := rr.frz sr1
      have st12 := st1.trans sr.wf st2
      refine p3 O2 W2 σ H1 ρ1 _ sr2 ?_
      cases e1 : cargs fl ρ1 with
      | bad => rw [e1] at hw2; exact hw2
      | exc c fs ρ' => rw [e1] at hw2; exact ExcA.back sr.wf st12 hw2
      | ok q =>
        obtain ⟨ps, ρ2⟩ := q
        rw [e1] at hw2
        intro vs O' W' H' st sr' ho
        exact hw2 (v :: vs) O' W' H' (st12.trans sr.wf st) sr' ⟨v, vs, rfl, rp.step sr2.wf st, ho⟩

/-! ### into the callee's world and back -/
def wcs : List (SD × Option Nat) → List V → List Addr
  | (.byr _, some _) :: r, .ref a :: vr => a :: wcs r vr
  | _ :: r, _ :: vr => wcs r vr
  | _, _ => []
variable {G : Gx} {O W O' W' : List Addr} {σ : L2.St} {H H' : Hp} {ρ : List SD}
theorem CRs.len : ∀ {ps : List (SD × Option Nat)} {vs : List V}, CRs G O W σ H ρ ps vs → ps.length = vs.length
  | [], vs, h => by have h : vs = [] := h; rw [h]; rfl
  | p :: ps, vs, h => by
    obtain ⟨v, r, e, _, h2⟩ := h
    rw [e, List.length_cons, List.length_cons, CRs.len h2]
theorem CRs.get : ∀ {ps : List (SD × Option Nat)} {vs : List V} {j : Nat} {p : SD × Option Nat}, CRs G O W σ H ρ ps vs → ps[j]? = some p → ∃ v, vs[j]? = some v ∧ CR1 G O W σ H ρ p v
  | [], vs, j, p, h, e => by cases j <;> cases e
  | q :: ps, vs, j, p, h, e => by
    obtain ⟨v, r, ev, h1, h2⟩ := h
    subst ev
    cases j with
    | zero => cases e; exact ⟨v, rfl, h1⟩
    | succ j => exact CRs.get (j := j) h2 e
theorem mem_wcs : ∀ {ps : List (SD × Option Nat)} {vs : List V} {a : Addr}, CRs G O W σ H ρ ps vs → (a ∈ wcs ps vs ↔ ∃ (j : Nat) (xs : List D) (i : Nat), ps[j]? = some (SD.byr xs, some i) ∧ vs[j]? = some (V.ref a))
  | [], vs, a, h => by
    have h : vs = [] := h
    subst h
    constructor
    · intro z; cases z
    · rintro ⟨j, xs, i, h1, _⟩; cases j <;> cases h1
  | p :: ps, vs, a, h => by
    obtain ⟨v, r, ev, h1, h2⟩ := h
    subst ev
    have ih := mem_wcs (a := a) h2
    have shift : (∃ (j : Nat) (xs : List D) (i : Nat), ps[j]? = some (SD.byr xs, some i) ∧ r[j]? = some (V.ref a)) → ∃ (j : Nat) (xs : List D) (i : Nat), (p :: ps)[j]? = some (SD.byr xs, some i) ∧ (v :: r)[j]? = some (V.ref a) := fun ⟨j, xs, i, z1, z2⟩ => ⟨j + 1, xs, i, z1, z2⟩
    obtain ⟨s, o⟩ := p
    have plain : wcs ((s, o) :: ps) (v :: r) = wcs ps r → (∀ xs i, (s, o) ≠ (SD.byr xs, some i)) → (a ∈ wcs ((s, o) :: ps) (v :: r) ↔ ∃ (j : Nat) (xs : List D) (i : Nat), ((s, o) :: ps)[j]? = some (SD.byr xs, some i) ∧ (v :: r)[j]? = some (V.ref a)) := fun e hn => by
      rw [e, ih]
      refine ⟨shift, ?_⟩
      rintro ⟨j, xs, i, z1, z2⟩
      cases j with
      | zero => exact absurd (Option.some.inj z1) (hn xs i)
      | succ j => exact ⟨j, xs, i, z1, z2⟩
    cases s with
    | sh d => exact plain rfl fun xs i z => by cases z
    | no => exact h1.elim
    | own xs => exact h1.elim
    | xn _ _ => exact h1.elim
    | gv => exact h1.elim
    | byr xs =>
      cases o with
      | none => exact h1.elim
      | some i =>
        obtain ⟨b, eb, h3, h4, h5⟩ := h1
        subst eb
        show a ∈ b :: wcs ps r ↔ _
        rw [List.mem_cons, ih]
        constructor
        · rintro (z | z)
          · exact ⟨0, xs, i, rfl, by rw [z]; rfl⟩
          · exact shift z
        · rintro ⟨j, ys, i', z1, z2⟩
          cases j with
          | zero =>
            left
            have z2 : some (V.ref b) = some (V.ref a) := z2
            cases z2; rfl
          | succ j => exact .inr ⟨j, ys, i', z1, z2⟩
theorem mem_lent : ∀ {ps : List (SD × Option Nat)} {i : Nat}, i ∈ lent ps ↔ ∃ (j : Nat) (xs : List D), ps[j]? = some (.byr xs, some i)
  | [], i => by
    constructor
    · intro z; cases z
    · rintro ⟨j, xs, h1⟩; cases j <;> cases h1
  | (s, o) :: ps, i => by
    have ih := mem_lent (ps := ps) (i := i)
    have plain : lent ((s, o) :: ps) = lent ps → (∀ xs i, (s, o) ≠ (SD.byr xs, some i)) → (i ∈ lent ((s, o) :: ps) ↔ ∃ (j : Nat) (xs : List D), ((s, o) :: ps)[j]? = some (.byr xs, some i)) := fun e hn => by
      rw [e, ih]
      constructor
      · rintro ⟨j, xs, z⟩; exact ⟨j + 1, xs, z⟩
      · rintro ⟨j, xs, z1⟩
        cases j with
        | zero => exact absurd (Option.some.inj z1) (hn xs i)
        | succ j => exact ⟨j, xs, z1⟩
    cases s with
    | sh d => exact plain rfl fun xs i z => by cases z
    | no => exact plain rfl fun xs i z => by cases z
    | own xs => exact plain rfl fun xs i z => by cases z
    | xn _ _ => exact plain rfl fun xs i z => by cases z
    | gv => exact plain rfl fun xs i z => by cases z
    | byr xs =>
      cases o with
      | none => exact plain rfl fun xs i z => by cases z
      | some k =>
        show i ∈ k :: lent ps ↔ _
        rw [List.mem_cons, ih]
        constructor
        · rintro (z | ⟨j, ys, z⟩)
          · exact ⟨0, xs, by rw [z]; rfl⟩
          · exact ⟨j + 1, ys, z⟩
        · rintro ⟨j, ys, z1⟩
          cases j with
          | zero =>
            left
            have z1 : some (SD.byr xs, some k) = some (SD.byr ys, some i) := z1
            cases z1; rfl
          | succ j => exact .inr ⟨j, ys, z1⟩
theorem lent_inj : ∀ {ps : List (SD × Option Nat)} {i j k : Nat} {xs ys : List D}, (lent ps).Nodup → ps[j]? = some (.byr xs, some i) → ps[k]? = some (.byr ys, some i) → j = k
  | [], i, j, k, xs, ys, _, h, _ => by cases j <;> cases h
  | (s, o) :: ps, i, j, k, xs, ys, nd, h1, h2 => by
    have sub : (lent ps).Nodup := by
      cases s <;> cases o <;> first
        | exact nd
        | exact (List.nodup_cons.mp nd).2
    cases j with
    | zero =>
      cases k with
      | zero => rfl
      | succ k =>
        have h1 : some (s, o) = some (SD.byr xs, some i) := h1
        cases h1
        exact absurd (mem_lent.mpr ⟨k, ys, h2⟩) (List.nodup_cons.mp nd).1
    | succ j =>
      cases k with
      | zero =>
        have h2 : some (s, o) = some (SD.byr ys, some i) := h2
        cases h2
        exact absurd (mem_lent.mpr ⟨j, xs, h1⟩) (List.nodup_cons.mp nd).1
      | succ k => exact congrArg (· + 1) (lent_inj (j := j) (k := k) sub h1 h2)
theorem back_out : ∀ {ps : List (SD × Option Nat)} {as : List SD} {i : Nat}, i ∉ lent ps → (backAll ps as ρ)[i]? = ρ[i]?
  | [], as, i, _ => by cases as <;> rfl
  | (s, o) :: ps, [], i, _ => by cases s <;> cases o <;> rfl
  | (s, o) :: ps, a :: as, i, h => by
    have plain : backAll ((s, o) :: ps) (a :: as) ρ = backAll ps as ρ → lent ((s, o) :: ps) = lent ps → (backAll ((s, o) :: ps) (a :: as) ρ)[i]? = ρ[i]? := fun e1 e2 => by
      rw [e1]; rw [e2] at h; exact back_out h
    cases s with
    | sh d => exact plain rfl rfl
    | no => exact plain rfl rfl
    | own xs => exact plain rfl rfl
    | xn _ _ => exact plain rfl rfl
    | gv => exact plain rfl rfl
    | byr xs =>
      cases o with
      | none => exact plain rfl rfl
      | some k =>
        have h : i ∉ k :: lent ps := h
        rw [List.mem_cons, not_or] at h
        show ((backAll ps as ρ).set k _)[i]? = _
        rw [List.getElem?_set_ne (Ne.symm h.1)]
        exact back_out h.2
theorem back_len : ∀ {ps : List (SD × Option Nat)} {as : List SD}, (backAll ps as ρ).length = ρ.length
  | [], as => by cases as <;> rfl
  | (s, o) :: ps, [] => by cases s <;> cases o <;> rfl
  | (s, o) :: ps, a :: as => by
    cases s <;> cases o <;> first
      | exact back_len (ps := ps) (as := as)
      | (show ((backAll ps as ρ).set _ _).length = _
         rw [List.length_set]; exact back_len (ps := ps) (as := as))
theorem back_in : ∀ {ps : List (SD × Option Nat)} {as : List SD} {i j : Nat} {xs : List D} {s : SD}, (lent ps).Nodup → ps[j]? = some (.byr xs, some i) → as[j]? = some s → i < ρ.length → (backAll ps as ρ)[i]? = some (backS (ρ[i]?.getD .no) s)
  | [], as, i, j, xs, s, _, h, _, _ => by cases j <;> cases h
  | (t, o) :: ps, [], i, j, xs, s, _, _, h, _ => by cases j <;> cases h
  | (t, o) :: ps, a :: as, i, j, xs, s, nd, h1, h2, hl => by
    cases j with
    | zero =>
      have h1 : some (t, o) = some (SD.byr xs, some i) := h1
      have h2 : some a = some s := h2
      cases h1
      cases h2
      show ((backAll ps as ρ).set i _)[i]? = _
      rw [List.getElem?_set_self (by rw [back_len]; exact hl)]
    | succ j =>
      have plain : backAll ((t, o) :: ps) (a :: as) ρ = backAll ps as ρ → lent ((t, o) :: ps) = lent ps → (backAll ((t, o) :: ps) (a :: as) ρ)[i]? = some (backS (ρ[i]?.getD .no) s) := fun e1 e2 => by
        rw [e1]; rw [e2] at nd; exact back_in (j := j) nd h1 h2 hl
      cases t with
      | sh d => exact plain rfl rfl
      | no => exact plain rfl rfl
      | own xs => exact plain rfl rfl
      | xn _ _ => exact plain rfl rfl
      | gv => exact plain rfl rfl
      | byr ys =>
        cases o with
        | none => exact plain rfl rfl
        | some k =>
          have nd : (k :: lent ps).Nodup := nd
          have hk : i ≠ k := fun z => (List.nodup_cons.mp nd).1 (mem_lent.mpr ⟨j, xs, z ▸ h1⟩)
          show ((backAll ps as ρ).set k _)[i]? = _
          rw [List.getElem?_set_ne (Ne.symm hk)]
          exact back_in (j := j) (List.nodup_cons.mp nd).2 h1 h2 hl
end
end Wm
end

section
namespace Wm
open PySem PySem.Spec PyProof.Rows L2
section
variable {X : Cx} {cl : Cl} {vs0 : List V} {Wx : WX}
variable {G : Gx} {O W O' W' : List Addr} {σ : L2.St} {H H' : Hp} {ρ : List SD} {ps : List (SD × Option Nat)} {vs : List V} {as : List SD}
theorem call_enter (sr : SR G vs0 O W σ H ρ) (hc : CRs G O W σ H ρ ps vs) (nd : (lent ps).Nodup) : SR G vs O (wcs ps vs) (vs.map some) H (ps.map (·.1)) := by
  have pg : ∀ {i : Nat} {s : SD}, (ps.map (·.1))[i]? = some s → ∃ o, ps[i]? = some (s, o) := fun {i s} e => by
    rw [List.getElem?_map] at e
    obtain ⟨⟨s', o⟩, h1, h2⟩ := Option.map_eq_some_iff.mp e
    have h2 : s' = s := h2
    subst h2
    exact ⟨o, h1⟩
  have mi : ∀ {i : Nat} {s : SD}, (ps.map (·.1))[i]? = some s → s.mine = true → ∃ xs k, ps[i]? = some (SD.byr xs, some k) ∧ s = .byr xs := fun {i s} e m => by
    obtain ⟨o, h1⟩ := pg e
    obtain ⟨v, h2, h3⟩ := hc.get h1
    cases s with
    | byr xs =>
      cases o with
      | none => exact h3.elim
      | some k => exact ⟨xs, k, h1, rfl⟩
    | own xs => exact h3.elim
    | xn _ _ => cases m
    | gv => cases m
    | no => cases m
    | sh d => cases m
  refine ⟨⟨fun b hb => ?_, sr.wf.trk⟩, by rw [List.length_map, List.length_map, hc.len], fun i s e => ?_, fun i j s t a e1 e2 m1 m2 s1 s2 => ?_, sr.tabs⟩
  · obtain ⟨j, xs, i, h1, h2⟩ := (mem_wcs hc).mp hb
    obtain ⟨v, h3, a, h4, h5, h6, _⟩ := hc.get h1
    rw [h2] at h3; cases h3; cases h4
    exact sr.wf.sub b h6.1
  · obtain ⟨o, h1⟩ := pg e
    obtain ⟨v, h2, h3⟩ := hc.get h1
    have e2 : ((vs.map some)[i]?).join = some v := by rw [List.getElem?_map, h2]; rfl
    rw [e2, h2]
    cases s with
    | sh d => exact ⟨v, rfl, h3⟩
    | xn _ _ => exact h3.elim
    | gv => exact h3.elim
    | byr xs =>
      cases o with
      | none => exact h3.elim
      | some k =>
        obtain ⟨a, h4, h5, ⟨h6, h7⟩, _⟩ := h3
        subst h4
        exact ⟨a, rfl, rfl, (mem_wcs hc).mpr ⟨i, xs, k, h1, h2⟩, h7⟩
    | own xs => exact h3.elim
    | no => trivial
  · obtain ⟨xs, k, h1, rfl⟩ := mi e1 m1
    obtain ⟨ys, l, h2, rfl⟩ := mi e2 m2
    obtain ⟨v, h3, b, h4, h5, _, h6⟩ := hc.get h1
    obtain ⟨u, h7, c, h8, h9, _, h10⟩ := hc.get h2
    subst h4 h8
    rw [List.getElem?_map, h3] at s1
    rw [List.getElem?_map, h7] at s2
    cases s1
    cases s2
    have hkl : k = l := by
      rcases h6 with h6 | h6 <;> rcases h10 with h10 | h10 <;> exact sr.apart k l _ _ a h6 h10 rfl rfl h5 h9
    subst hkl
    exact lent_inj nd h1 h2
theorem back_step (sr : SR G vs0 O W σ H ρ) (hc : CRs G O W σ H ρ ps vs) (nd : (lent ps).Nodup) (st : Stp O (wcs ps vs) H O' W' H') (sr' : SR G vs O' W' (vs.map some) H' as) :
    ∃ W'', Stp O W H O' W'' H' ∧ SR G vs0 O' W'' σ H' (backAll ps as ρ) ∧ ∀ v r, ResR G O' W' (vs.map some) H' as v r → ResR G O' W'' σ H' (backAll ps as ρ) v r := by
  have wc : Wf O (wcs ps vs) H := (call_enter sr hc nd).wf
  have wsub : ∀ b ∈ wcs ps vs, b ∈ W := fun b hb => by
    obtain ⟨j, xs, i, h1, h2⟩ := (mem_wcs hc).mp hb
    obtain ⟨v, h3, a, h4, h5, h6, _⟩ := hc.get h1
    rw [h2] at h3; cases h3; cases h4
    exact h6.1
  have hlen : as.length = ps.length := by
    have := sr'.len
    rw [List.length_map] at this
    rw [← this, hc.len]
  have w2 : ∀ {b : Addr}, b ∈ W' ++ W.filter (fun b => decide (b ∉ wcs ps vs)) ↔ b ∈ W' ∨ (b ∈ W ∧ b ∉ wcs ps vs) := by
    intro b
    rw [List.mem_append, List.mem_filter, decide_eq_true_eq]
  -- a slot of one's own that was not lent keeps its list
  have kept : ∀ {i : Nat} {s : SD} {xs : List D}, ρ[i]? = some s → (s = .own xs ∨ s = .byr xs) → i ∉ lent ps → ∃ a, σ[i]? = some (some (.ref a)) ∧ a ∉ wcs ps vs ∧ OwnAt G O' (W' ++ W.filter (fun b => decide (b ∉ wcs ps vs))) H' a xs := fun {i s xs} e hs hn => by
    obtain ⟨a, ea, h1, us, h2, h3, h4⟩ := sr.getOwn e hs
    have na : a ∉ wcs ps vs := fun z => by
      obtain ⟨j, ys, k, z1, z2⟩ := (mem_wcs hc).mp z
      obtain ⟨v, z3, b, z4, z5, _, z6⟩ := hc.get z1
      rw [z2] at z3; cases z3; cases z4
      have hm : s.mine = true := by rcases hs with rfl | rfl <;> rfl
      have : i = k := by rcases z6 with z6 | z6 <;> exact sr.apart i k s _ a e z6 hm rfl ea z5
      subst this
      exact hn (mem_lent.mpr ⟨j, ys, z1⟩)
    exact ⟨a, ea, na, w2.mpr (.inr ⟨h1, na⟩), us, st.keep a _ h2 na (fun _ z => by cases z), h3, h4.step wc st⟩
  -- a slot that was lent
  have lentS : ∀ {i : Nat}, i ∈ lent ps → ∃ (j : Nat) (xs : List D) (s : SD) (a : Addr), ps[j]? = some (SD.byr xs, some i) ∧ as[j]? = some s ∧ vs[j]? = some (V.ref a) ∧ σ[i]? = some (some (.ref a)) ∧ (ρ[i]? = some (.own xs) ∨ ρ[i]? = some (.byr xs)) ∧ (backAll ps as ρ)[i]? = some (backS (ρ[i]?.getD .no) s) := fun {i} hi => by
    obtain ⟨j, xs, h1⟩ := mem_lent.mp hi
    obtain ⟨v, h3, a, h4, h5, _, h6⟩ := hc.get h1
    subst h4
    have hj : j < as.length := by rw [hlen]; exact (List.getElem?_eq_some_iff.mp h1).1
    have hil : i < ρ.length := by
      rcases h6 with h6 | h6 <;> exact (List.getElem?_eq_some_iff.mp h6).1
    exact ⟨j, xs, as[j], a, h1, List.getElem?_eq_getElem hj, h3, h5, h6, back_in nd h1 (List.getElem?_eq_getElem hj) hil⟩
  have own' : ∀ {a : Addr} {xs : List D}, OwnAt G O' W' H' a xs → OwnAt G O' (W' ++ W.filter (fun b => decide (b ∉ wcs ps vs))) H' a xs := fun h => ⟨w2.mpr (.inl h.1), h.2⟩
  -- what stands in a slot that is one's own behind the call
  have mine : ∀ {i : Nat} {s : SD}, (backAll ps as ρ)[i]? = some s → s.mine = true → ∃ a, σ[i]? = some (some (.ref a)) ∧ ((a ∉ wcs ps vs ∧ a ∈ W ∧ ∃ s0, ρ[i]? = some s0 ∧ s0.mine = true) ∨ (∃ (j : Nat) (ys : List D), as[j]? = some (SD.byr ys) ∧ vs[j]? = some (V.ref a) ∧ ∃ s0, ρ[i]? = some s0 ∧ s0.mine = true)) := fun {i s} e m => by
    by_cases hi : i ∈ lent ps
    · obtain ⟨j, xs, s1, a, h1, h2, h3, h4, h5, h6⟩ := lentS hi
      rw [h6] at e
      cases e
      have h0 : ∃ s0, ρ[i]? = some s0 ∧ s0.mine = true := by rcases h5 with h5 | h5 <;> exact ⟨_, h5, rfl⟩
      cases s1 with
      | byr ys => exact ⟨a, h4, .inr ⟨j, ys, h2, h3, h0⟩⟩
      | no => rcases h5 with h5 | h5 <;> (rw [h5] at m; cases m)
      | xn _ _ => rcases h5 with h5 | h5 <;> (rw [h5] at m; cases m)
      | gv => rcases h5 with h5 | h5 <;> (rw [h5] at m; cases m)
      | sh d => rcases h5 with h5 | h5 <;> (rw [h5] at m; cases m)
      | own ys => rcases h5 with h5 | h5 <;> (rw [h5] at m; cases m)
    · rw [back_out hi] at e
      have : ∃ xs, s = .own xs ∨ s = .byr xs := by
        cases s with
        | own xs => exact ⟨xs, .inl rfl⟩
        | byr xs => exact ⟨xs, .inr rfl⟩
        | xn _ _ => cases m
        | gv => cases m
        | no => cases m
        | sh d => cases m
      obtain ⟨xs, hs⟩ := this
      obtain ⟨a, ea, na, _⟩ := kept e hs hi
      obtain ⟨b, eb, hb, _⟩ := sr.getOwn e hs
      rw [ea] at eb; cases eb
      exact ⟨a, ea, .inl ⟨na, hb, s, e, m⟩⟩
  refine ⟨W' ++ W.filter (fun b => decide (b ∉ wcs ps vs)), ⟨fun b o e hb ht => st.keep b o e (fun z => hb (wsub b z)) ht, fun b hb => ?_, st.onew, st.trk, fun b hb hn => st.ofz b hb fun z => hn (wsub b z)⟩, ⟨⟨fun b hb => ?_, sr'.wf.trk⟩, by rw [back_len, sr.len], fun i s e => ?_, fun i j s t a e1 e2 m1 m2 s1 s2 => ?_, sr'.tabs⟩, fun v r hr => ?_⟩
  · rcases w2.mp hb with z | z
    · rcases st.wnew b z with y | y
      · exact .inl (wsub b y)
      · exact .inr y
    · exact .inl z.1
  · rcases w2.mp hb with z | z
    · exact sr'.wf.sub b z
    · exact st.ofz b (sr.wf.sub b z.1) z.2
  · by_cases hi : i ∈ lent ps
    · obtain ⟨j, xs, s1, a, h1, h2, h3, h4, h5, h6⟩ := lentS hi
      rw [h6] at e
      cases e
      cases s1 with
      | byr ys =>
        obtain ⟨b, z1, z2, z3⟩ := sr'.slot j _ h2
        rw [h3] at z2; cases z2
        rw [h4]
        rcases h5 with h5 | h5
        · rw [h5]; exact ⟨a, rfl, own' z3⟩
        · rw [h5]
          obtain ⟨b, q1, q2, _⟩ := sr.slot i _ h5
          rw [h4] at q1
          cases q1
          exact ⟨a, rfl, q2, own' z3⟩
      | no => rcases h5 with h5 | h5 <;> (rw [h5]; trivial)
      | xn _ _ => rcases h5 with h5 | h5 <;> (rw [h5]; trivial)
      | gv => rcases h5 with h5 | h5 <;> (rw [h5]; trivial)
      | sh d => rcases h5 with h5 | h5 <;> (rw [h5]; trivial)
      | own ys => rcases h5 with h5 | h5 <;> (rw [h5]; trivial)
    · rw [back_out hi] at e
      have q := sr.slot i s e
      cases s with
      | no => trivial
      | xn c fs => obtain ⟨a, p, gs, e, x, t, n, r⟩ := q; exact ⟨a, p, gs, e, x, (st.at wc t n).1, (st.at wc t n).2, RpF.step wc st r⟩
      | gv => exact q
      | sh d => obtain ⟨v, ev, r⟩ := q; exact ⟨v, ev, r.step wc st⟩
      | own xs =>
        obtain ⟨a, ea, _, o⟩ := kept e (.inl rfl) hi
        exact ⟨a, by rw [ea]; rfl, o⟩
      | byr xs =>
        obtain ⟨a, ea, _, o⟩ := kept e (.inr rfl) hi
        obtain ⟨b, q1, q2, _⟩ := q
        rw [ea] at q1
        cases q1
        exact ⟨a, by rw [ea]; rfl, q2, o⟩
  · have orig : ∀ {i : Nat} {s : SD}, (backAll ps as ρ)[i]? = some s → s.mine = true → ∃ s0, ρ[i]? = some s0 ∧ s0.mine = true := fun {i s} e m => by
      obtain ⟨_, _, h⟩ := mine e m
      rcases h with ⟨_, _, h⟩ | ⟨_, _, _, _, h⟩
      · exact h
      · exact h
    obtain ⟨u1, q1, q2⟩ := orig e1 m1
    obtain ⟨u2, q3, q4⟩ := orig e2 m2
    exact sr.apart i j u1 u2 a q1 q3 q2 q4 s1 s2
  · cases r with
    | sh d => exact hr
    | xn _ _ => exact hr
    | gv => exact hr
    | no => exact hr
    | byr xs => exact hr
    | own xs =>
      obtain ⟨a, ev, o, hn⟩ := hr
      refine ⟨a, ev, own' o, fun i s e m z => ?_⟩
      obtain ⟨b, hb, h⟩ := mine e m
      rw [hb] at z; cases z
      rcases h with ⟨n1, n2, _⟩ | ⟨j, ys, y1, y2, _⟩
      · rcases st.wnew a o.1 with y | y
        · exact n1 y
        · exact sr.wf.trk a (sr.wf.sub a n2) y
      · exact hn j _ y1 rfl (by rw [List.getElem?_map, y2]; rfl)
/-- f(e, ..) -/
theorem call_core {F : Fn} {n : Nat} {t : TA} {fl : List LOp} (hn : fl.length = n) (h : ∀ O W σ H ρ R, SR (gx X cl) vs0 O W σ H ρ → AftK (gx X cl) vs0 Wx O W σ H R (cargs fl ρ) → t σ H R) :
    ∀ O W σ H ρ Q (R : List V → Hp → Prop), SR (gx X cl) vs0 O W σ H ρ → AftE (gx X cl) vs0 Wx O W σ H Q (xCall F fl ρ) → (∀ vs H1, (spF (gx X cl) n F vs H1 Q fun c d H' => Wx c d σ H') → R vs H1) → t σ H R := by
  intro O W σ H ρ Q R sr hw hR
  refine h O W σ H ρ _ sr ?_
  have clen : ∀ {fl : List LOp} {ρ : List SD} {p : List (SD × Option Nat) × List SD}, cargs fl ρ = .ok p → p.1.length = fl.length := by
    intro fl
    induction fl with
    | nil => intro ρ p e; cases e; rfl
    | cons o fl ih =>
      intro ρ p e
      cases o with
      | va i =>
        have e : ((argOf ρ i).bind fun _ => (cargs fl ρ).bind fun p => (argOf p.2 i).bind fun s => .ok ((s, some i) :: p.1, p.2)) = .ok p := e
        cases e0 : argOf ρ i with
        | bad => rw [e0] at e; cases e
        | exc c fs ρ' => rw [e0] at e; cases e
        | ok d0 =>
          rw [e0] at e
          have e : ((cargs fl ρ).bind fun p => (argOf p.2 i).bind fun s => .ok ((s, some i) :: p.1, p.2)) = .ok p := e
          cases e1 : cargs fl ρ with
          | bad => rw [e1] at e; cases e
          | exc c fs ρ' => rw [e1] at e; cases e
          | ok q =>
            rw [e1] at e
            have e : ((argOf q.2 i).bind fun s => .ok ((s, some i) :: q.1, q.2)) = .ok p := e
            cases e2 : argOf q.2 i with
            | bad => rw [e2] at e; cases e
            | exc c fs ρ' => rw [e2] at e; cases e
            | ok d =>
              rw [e2] at e
              cases e
              exact congrArg (· + 1) (ih e1)
      | ex f =>
        have e : ((f ρ).bind fun p => (cargs fl p.2).bind fun q => .ok ((.sh p.1.frz, none) :: q.1, q.2)) = .ok p := e
        cases e0 : f ρ with
        | bad => rw [e0] at e; cases e
        | exc c fs ρ' => rw [e0] at e; cases e
        | ok d0 =>
          rw [e0] at e
          have e : ((cargs fl d0.2).bind fun q => .ok ((.sh d0.1.frz, none) :: q.1, q.2)) = .ok p := e
          cases e1 : cargs fl d0.2 with
          | bad => rw [e1] at e; cases e
          | exc c fs ρ' => rw [e1] at e; cases e
          | ok q =>
            rw [e1] at e
            cases e
            exact congrArg (· + 1) (ih e1)
  unfold xCall at hw
  cases e : cargs fl ρ with
  | bad => rw [e] at hw; exact hw
  | exc c fs ρ' => rw [e] at hw; exact hw
  | ok p =>
    have hl := clen e
    obtain ⟨ps, ρ1⟩ := p
    rw [e] at hw
    have hw : AftE (gx X cl) vs0 Wx O W σ H Q (if (lent ps).Nodup then
      match F (ps.map (·.1)) with
      | .ok (r, as') => .ok (r, backAll ps as' ρ1)
      | .exc c fs as' => .exc c fs (backAll ps as' ρ1)
      | .bad => .bad
      else .bad) := hw
    intro vs O1 W1 H1 st1 sr1 hc
    split at hw
    · rename_i nd
      refine hR _ _ ⟨by rw [← hc.len]; exact hl.trans hn, O1, _, _, call_enter sr1 hc nd, ?_⟩
      cases eF : F (ps.map (·.1)) with
      | bad => rw [eF] at hw; exact hw
      | exc c fs as' =>
        rw [eF] at hw
        intro p gs O2 W2 H2 st2 sr2 hp hf
        obtain ⟨W3, st3, sr3, _⟩ := back_step sr1 hc nd st2 sr2
        exact hw p gs O2 W3 H2 (st1.trans sr.wf st3) sr3 hp hf
      | ok q =>
        obtain ⟨r, as'⟩ := q
        rw [eF] at hw
        intro v O2 W2 H2 st2 sr2 rr
        obtain ⟨W3, st3, sr3, hr⟩ := back_step sr1 hc nd st2 sr2
        exact hw v O2 W3 H2 (st1.trans sr.wf st3) sr3 (hr v r rr)
    · exact hw.elim
variable {k : Nat} {f : Addr} {fd : FuncData} {pn : List Str} {F : Fn} {x : Str} {p pos : Pos} {e : Expr} {es : List Expr} {fl : List LOp} {n : Nat}
theorem ej_call (hF : FnOk X.prog X.w X.K X.mg X.base (L2.CX X.prog X.w) k f fd pn (spF (gx X cl) n F)) (hr : Room k X.A) (hg : Gl X x) (hm : X.mg x = some (.ref f)) (hk : PySem.W.keepIn X.K (.ref f) = true) (hb : Binds X.K fd pn []) (tk : Takes X Wx)
    (h : KJ X cl vs0 Wx (e :: es) fl) (hn : fl.length = n) (hdb : (x == ("__debug__" : Str)) = false := by decide) (he : starEach (e :: es) X.env = (false, eval e X.env) :: starEach es X.env := by rfl) (hpl : (backTo pos (starEach es X.env)).any (·.1) = false := by rfl) :
    EJ X cl vs0 Wx (.Call (.Name x p) (e :: es) [] pos) (xCall F fl) := by
  obtain ⟨ts, _, pa, q⟩ := h.ex
  refine ⟨⟨_, pe_callSD (dvs := []) (ds := []) (E := fun σ c d H => Wx c d σ H) hF hr hg hm hk hb .nil (fun σ => passAt tk σ) pa hdb he hpl, fun O W σ H ρ Q sr hw => ?_⟩⟩
  have z := call_core (F := F) hn q O W σ H ρ Q _ sr hw fun _ _ h => h
  unfold tCallSD
  simp only [List.append_nil]
  exact z
end
end Wm
end

section
/-! Lists that are written; a list handed on just made. -/
namespace Wm
open PySem PySem.Spec PyProof.Rows L2
section
variable {X : Cx} {cl : Cl} {vs0 : List V} {Wx : WX}
/-- a slot's own list, replaced -/
def ownSet (ρ : List SD) (i : Nat) (xs : List D) : List SD := match ρ[i]? with
  | some (.own _) => ρ.set i (.own xs)
  | some (.byr _) => ρ.set i (.byr xs)
  | _ => ρ
def SD.like (ys : List D) : SD → SD
  | .byr _ => .byr ys
  | _ => .own ys
def ownGet (ρ : List SD) (i : Nat) : Rs (List D) := match ρ[i]? with
  | some (.own xs) => .ok xs
  | some (.byr xs) => .ok xs
  | _ => .bad
theorem ownGet_noexc {ρ : List SD} {i : Nat} {c : Str} {fs : List (Str × D)} {ρ' : List SD} : ownGet ρ i ≠ .exc c fs ρ' := by
  unfold ownGet
  split <;> exact fun z => nomatch z
theorem ownGet_at {G : Gx} {O W : List Addr} {σ : L2.St} {H : Hp} {ρ : List SD} {i : Nat} {xs : List D} (sr : SR G vs0 O W σ H ρ) (h : ownGet ρ i = .ok xs) : ∃ a, σ[i]? = some (some (.ref a)) ∧ OwnAt G O W H a xs := by
  unfold ownGet at h
  split at h
  · rename_i ys e
    cases h
    exact sr.getOwn e (.inl rfl)
  · rename_i ys e
    cases h
    exact sr.getOwn e (.inr rfl)
  · cases h
theorem SR.write {G : Gx} {O W : List Addr} {σ : L2.St} {H : Hp} {ρ : List SD} {i : Nat} {xs ys : List D} {a : Addr} {vs : List V} (sr : SR G vs0 O W σ H ρ) (h : ownGet ρ i = .ok xs) (ea : σ[i]? = some (some (.ref a))) (hl : vs.length ≤ sizeLine) (hr : RpA G O H ys vs) :
    Stp O W H O W (upd H a (.lst vs)) ∧ SR G vs0 O W σ (upd H a (.lst vs)) (ownSet ρ i ys) := by
  obtain ⟨b, eb, oW, us, h2, h3, h4⟩ := ownGet_at sr h
  rw [ea] at eb; cases eb
  have trk : ∀ b, ¬ NoD H b → ¬ NoD (upd H a (.lst vs)) b := fun b hb => noD_upd hb
  have st : Stp O W H O W (upd H a (.lst vs)) := ⟨fun b o e hb _ => by rw [upd_ne (show b ≠ a from fun z => hb (by rw [z]; exact oW))]; exact e, fun _ h => .inl h, fun _ h => .inl h, trk, fun _ h _ => h⟩
  have mine : ∃ s, ρ[i]? = some s ∧ s.mine = true ∧ (s = .own xs ∨ s = .byr xs) := by
    unfold ownGet at h
    split at h
    · rename_i zs e; cases h; exact ⟨_, e, rfl, .inl rfl⟩
    · rename_i zs e; cases h; exact ⟨_, e, rfl, .inr rfl⟩
    · cases h
  obtain ⟨s0, e0, m0, hs0⟩ := mine
  have other : ∀ {j : Nat} {s : SD} {zs : List D}, j ≠ i → ρ[j]? = some s → (s = .own zs ∨ s = .byr zs) → ∃ b, σ[j]? = some (some (.ref b)) ∧ OwnAt G O W (upd H a (.lst vs)) b zs := fun {j s zs} hj e hs => by
    obtain ⟨b, eb, h1, ws, h2', h3', h4'⟩ := sr.getOwn e hs
    have hm : s.mine = true := by rcases hs with rfl | rfl <;> rfl
    have nb : b ≠ a := fun z => by
      subst z
      exact hj (sr.apart j i s s0 b e e0 hm m0 eb ea)
    exact ⟨b, eb, h1, ws, by rw [upd_ne nb]; exact h2', h3', h4'.step sr.wf st⟩
  have il : i < ρ.length := (List.getElem?_eq_some_iff.mp e0).1
  have self : OwnAt G O W (upd H a (.lst vs)) a ys := ⟨oW, vs, upd_same, hl, hr.step sr.wf st⟩
  have os : ownSet ρ i ys = ρ.set i (s0.like ys) := by
    unfold ownSet
    rcases hs0 with rfl | rfl <;> rw [e0] <;> rfl
  rw [os]
  refine ⟨st, ⟨⟨sr.wf.sub, fun b hb => trk b (sr.wf.trk b hb)⟩, by rw [List.length_set, sr.len], fun j s e => ?_, fun j k s t b e1 e2 m1 m2 s1 s2 => ?_, tabs_but sr.tabs.tc h2 (fun b u n h => by rw [upd_ne n]; exact h), fun q hq => (sr.tabs.k q hq).step sr.wf st⟩⟩
  · by_cases hj : i = j
    · subst hj
      rw [List.getElem?_set_self il] at e
      rw [ea]
      rcases hs0 with rfl | rfl
      · cases e
        exact ⟨a, rfl, self⟩
      · cases e
        obtain ⟨b, q1, q2, _⟩ := sr.slot i _ e0
        rw [ea] at q1; cases q1
        exact ⟨a, rfl, q2, self⟩
    · rw [List.getElem?_set_ne hj] at e
      have q := sr.slot j s e
      cases s with
      | no => trivial
      | xn c fs => obtain ⟨a, p, gs, e, x, t, n, r⟩ := q; exact ⟨a, p, gs, e, x, (st.at sr.wf t n).1, (st.at sr.wf t n).2, RpF.step sr.wf st r⟩
      | gv => exact q
      | sh d => obtain ⟨v, ev, r⟩ := q; exact ⟨v, ev, r.step sr.wf st⟩
      | own zs =>
        obtain ⟨b, eb, ob⟩ := other (Ne.symm hj) e (.inl rfl)
        exact ⟨b, by rw [eb]; rfl, ob⟩
      | byr zs =>
        obtain ⟨b, eb, ob⟩ := other (Ne.symm hj) e (.inr rfl)
        obtain ⟨c, q1, q2, _⟩ := q
        rw [eb] at q1; cases q1
        exact ⟨b, by rw [eb]; rfl, q2, ob⟩
  · have orig : ∀ {j : Nat} {s : SD}, (ρ.set i (s0.like ys))[j]? = some s → s.mine = true → ∃ s', ρ[j]? = some s' ∧ s'.mine = true := fun {j s} e m => by
      by_cases hj : i = j
      · subst hj; exact ⟨s0, e0, m0⟩
      · rw [List.getElem?_set_ne hj] at e; exact ⟨s, e, m⟩
    obtain ⟨u1, q1, q2⟩ := orig e1 m1
    obtain ⟨u2, q3, q4⟩ := orig e2 m2
    exact sr.apart j k u1 u2 b q1 q3 q2 q4 s1 s2
/-! ### x[i] = e -/
def setAt (xs : List D) (k : Int) (d : D) : Option (List D) := (ixN xs.length k).map fun j => xs.set j d
def storeD (ρ : List SD) (x : Nat) (k d : D) : Rs Fl := match k with
  | .int k => (ownGet ρ x).bind fun xs => match setAt xs k d with
    | some ys => .ok (.nx (ownSet ρ x ys))
    | none => .bad
  | _ => .bad
theorem RpA.set {G : Gx} {O : List Addr} {H : Hp} {d : D} {v : V} (h : Rp G O H d v) : ∀ {ds : List D} {vs : List V} (j : Nat), RpA G O H ds vs → RpA G O H (ds.set j d) (vs.set j v)
  | [], vs, j, r => by simp only [RpA] at r; subst r; simp only [List.set_nil, RpA]
  | e :: ds, vs, 0, r => by
    simp only [RpA] at r
    obtain ⟨w, us, rfl, h1, h2⟩ := r
    simp only [List.set_cons_zero, RpA]
    exact ⟨v, us, rfl, h, h2⟩
  | e :: ds, vs, j + 1, r => by
    simp only [RpA] at r
    obtain ⟨w, us, rfl, h1, h2⟩ := r
    simp only [List.set_cons_succ, RpA]
    exact ⟨w, _, rfl, h1, RpA.set h j h2⟩
/-- the slot's value at x is there as long as the slot is its own -/
def sStore (x : Nat) (f : Sx) (o : LOp) : Ss := fun ρ => (f ρ).bind fun p => (ownGet p.2 x).bind fun _ => (ops [o] p.2).bind fun q => match q.1 with
  | [k] => storeD q.2 x k p.1.frz
  | _ => .bad
theorem sj_store {x : Nat} {ex ei e : Expr} {f : Sx} {o : LOp} {pos tpos : Pos} (hx : PE X ex (tVar x)) (hi : OJ X cl vs0 Wx [ei] [o]) (h : EJ X cl vs0 Wx e f)
    (ha : ∀ v, assign (.Subscript ex ei tpos) X.env v = (do
      let ov ← holding [v] (eval ex X.env)
      let iv ← holding [v, ov] (eval ei X.env)
      standAt tpos
      holding [v, ov, iv] (setItem ov iv v)
      release [v, ov, iv] []) := by intro _; rfl)
    (hs : swapsWithSole [.Subscript ex ei tpos] e pos.line X.env = pure false := by rfl) (hw : swappedStores [.Subscript ex ei tpos] e X.env = pure none := by rfl) (h1 : (assignEach [.Subscript ex ei tpos] X.env).map (·.2) = [assign (.Subscript ex ei tpos) X.env] := by rfl) :
    SJ X cl vs0 Wx (.Assign [.Subscript ex ei tpos] e pos) (sStore x f o) := by
  obtain ⟨t, p, q⟩ := h.ex
  obtain ⟨ti, pi, qi⟩ := one_of hi
  refine ⟨⟨_, ps_asg p (pg_sub hx pi set_list ha) hs hw h1, fun O W σ H ρ E sr hw => q O W σ H ρ _ sr (e_core sr.wf hw fun v s ρ1 O1 W1 H1 sr1 rr hk => ?_)⟩⟩
  obtain ⟨O2, W2, st2, sr2, rp⟩ := rr.frz sr1
  have hk := AftS.back sr1.wf st2 hk
  have hk : AftS (gx X cl) vs0 Wx O2 W2 H1 E ((ownGet ρ1 x).bind fun _ => (ops [o] ρ1).bind fun q => match q.1 with
    | [k] => storeD q.2 x k s.frz
    | _ => .bad) := hk
  cases eg : ownGet ρ1 x with
  | bad => rw [eg] at hk; exact hk.elim
  | exc c fs ρ' => exact absurd eg ownGet_noexc
  | ok xs0 =>
    rw [eg] at hk
    obtain ⟨a, ea, _⟩ := ownGet_at sr2 eg
    refine ⟨.ref a, ea, qi O2 W2 σ H1 ρ1 (fun vs H' => match vs with
      | [y] => rSetL (.ref a) y v H' fun H3 => E.nx σ H3
      | _ => False) sr2 ?_⟩
    have hk : AftS (gx X cl) vs0 Wx O2 W2 H1 E ((ops [o] ρ1).bind fun q => match q.1 with
      | [k] => storeD q.2 x k s.frz
      | _ => .bad) := hk
    cases eo : ops [o] ρ1 with
    | bad => rw [eo] at hk; exact hk
    | exc c fs ρ' => rw [eo] at hk; exact hk σ
    | ok w =>
      obtain ⟨ds, ρ2⟩ := w
      rw [eo] at hk
      intro vs O3 W3 H3 st3 sr3 ho
      have hk := AftS.back sr2.wf st3 hk
      cases ds with
      | nil => exact (show False from hk).elim
      | cons d ds =>
        cases ds with
        | cons _ _ => exact (show False from hk).elim
        | nil =>
          obtain ⟨y, rfl, h1⟩ := OpA.one ho
          have hk : AftS (gx X cl) vs0 Wx O3 W3 H3 E (storeD ρ2 x d s.frz) := hk
          cases d with
          | int k =>
            have hk : AftS (gx X cl) vs0 Wx O3 W3 H3 E ((ownGet ρ2 x).bind fun xs => match setAt xs k s.frz with
              | some ys => .ok (.nx (ownSet ρ2 x ys))
              | none => .bad) := hk
            cases eg2 : ownGet ρ2 x with
            | bad => rw [eg2] at hk; exact hk.elim
            | exc c fs ρ' => exact absurd eg2 ownGet_noexc
            | ok xs =>
              rw [eg2] at hk
              have hk : AftS (gx X cl) vs0 Wx O3 W3 H3 E (match setAt xs k s.frz with
                | some ys => .ok (.nx (ownSet ρ2 x ys))
                | none => .bad) := hk
              obtain ⟨b, eb, oW, us, h2, h3, h4⟩ := ownGet_at sr3 eg2
              rw [ea] at eb; cases eb
              unfold setAt at hk
              rw [h4.length] at hk
              cases ej : ixN us.length k with
              | none => rw [ej] at hk; exact hk.elim
              | some j =>
                rw [ej] at hk
                have rv := rp.step sr2.wf st3
                obtain ⟨st4, sr4⟩ := sr3.write (vs := us.set j v) eg2 ea (by rw [List.length_set]; exact h3) (h4.set rv j)
                exact ⟨a, us, k, j, rfl, h1.int, h2, ej, hk σ O3 W3 _ st4 sr4⟩
          | _ => exact hk.elim
/-! ### x.append(e) -/
def sApp (x : Nat) (f : Sx) : Ss := fun ρ => (ownGet ρ x).bind fun _ => (f ρ).bind fun p => (ownGet p.2 x).bind fun xs => if xs.length < sizeLine then .ok (.nx (ownSet p.2 x (xs ++ [p.1.frz]))) else .bad
theorem sj_app {x : Nat} {ex e : Expr} {f : Sx} {pos apos cpos : Pos} (hx : PE X ex (tVar x)) (h : EJ X cl vs0 Wx e f)
    (hbase : attributeBase ex "append" X.env (eval ex X.env) = eval ex X.env := by rfl)
    (hfew : ((backTo cpos (starEach [e] X.env)).all (fun x => !x.1) && (backToKw cpos (keywordEach [] X.env)).all (fun x => x.1.isSome)
      && decide ([e].length + ([] : List Keyword).length + (if ([] : List Keyword).isEmpty then 0 else 1) < 30)) = true := by rfl)
    (hline : (apos.endLine == cpos.line) = true := by rfl) (hs : starEach [e] X.env = (false, eval e X.env) :: starEach [] X.env := by rfl) (hplain : (backTo cpos (starEach [] X.env)).any (·.1) = false := by rfl)
    (hsw : swapsWith (.Call (.Attribute ex "append" apos) [e] [] cpos) none pos.line X.env = pure false := by rfl) :
    SJ X cl vs0 Wx (.Expr (.Call (.Attribute ex "append" apos) [e] [] cpos) pos) (sApp x f) := by
  obtain ⟨t, p, q⟩ := h.ex
  refine ⟨⟨_, ps_expr (pe_bm PySem.F.plainAttrs_list PySem.F.slot_list_append PySem.F.type_list_append mt_append hx (pa_cons p pa_nil hs) hbase hfew hline hs hplain) hsw, fun O W σ H ρ E sr hw => ?_⟩⟩
  unfold sApp at hw
  cases eg : ownGet ρ x with
  | bad => rw [eg] at hw; exact hw.elim
  | exc c fs ρ' => exact absurd eg ownGet_noexc
  | ok xs0 =>
    rw [eg] at hw
    obtain ⟨a, ea, oa⟩ := ownGet_at sr eg
    obtain ⟨_, us0, h20, _⟩ := oa
    refine ⟨.ref a, ea, .inl ⟨rfl, _, SqL.of h20⟩, q O W σ H ρ _ sr (e_core sr.wf hw fun v s ρ1 O1 W1 H1 sr1 rr hk => ?_)⟩
    obtain ⟨O2, W2, st2, sr2, rp⟩ := rr.frz sr1
    have hk := AftS.back sr1.wf st2 hk
    have hk : AftS (gx X cl) vs0 Wx O2 W2 H1 E ((ownGet ρ1 x).bind fun xs => if xs.length < sizeLine then .ok (.nx (ownSet ρ1 x (xs ++ [s.frz]))) else .bad) := hk
    cases eg2 : ownGet ρ1 x with
    | bad => rw [eg2] at hk; exact hk.elim
    | exc c fs ρ' => exact absurd eg2 ownGet_noexc
    | ok xs =>
      rw [eg2] at hk
      have hk : AftS (gx X cl) vs0 Wx O2 W2 H1 E (if xs.length < sizeLine then .ok (.nx (ownSet ρ1 x (xs ++ [s.frz]))) else .bad) := hk
      split at hk
      · rename_i hz
        obtain ⟨b, eb, oW, us, h2, h3, h4⟩ := ownGet_at sr2 eg2
        rw [ea] at eb; cases eb
        have hl : us.length < sizeLine := by rw [← h4.length]; exact hz
        obtain ⟨st4, sr4⟩ := sr2.write (vs := us ++ [v]) eg2 ea (by rw [List.length_append]; exact hl) (h4.snoc rp)
        exact ⟨a, us, v, rfl, rfl, h2, hl, hk σ O2 W2 _ st4 sr4⟩
      · exact hk.elim
/-! ### f([..]): the list just made may be written by f -/
def xCallT (F : Fn) (f : Sx) : Sx := fun ρ => (f ρ).bind fun p => match p.1 with
  | .own xs => match F [.byr xs] with
    | .ok (r, _) => .ok (r, p.2)
    | .exc c fs _ => .exc c fs p.2
    | .bad => .bad
  | _ => .bad
theorem ej_callT {k : Nat} {f : Addr} {fd : FuncData} {pn : List Str} {F : Fn} {x : Str} {p pos : Pos} {e : Expr} {fx : Sx} (hF : FnOk X.prog X.w X.K X.mg X.base (L2.CX X.prog X.w) k f fd pn (spF (gx X cl) 1 F)) (hr : Room k X.A) (hg : Gl X x) (hm : X.mg x = some (.ref f)) (hk : PySem.W.keepIn X.K (.ref f) = true) (hb : Binds X.K fd pn []) (tk : Takes X Wx)
    (h : EJ X cl vs0 Wx e fx) (hdb : (x == ("__debug__" : Str)) = false := by decide) (he : starEach [e] X.env = (false, eval e X.env) :: starEach [] X.env := by rfl) (hpl : (backTo pos (starEach [] X.env)).any (·.1) = false := by rfl) :
    EJ X cl vs0 Wx (.Call (.Name x p) [e] [] pos) (xCallT F fx) := by
  obtain ⟨t, pe, q⟩ := h.ex
  refine ⟨⟨_, pe_callSD (dvs := []) (ds := []) (E := fun σ c d H => Wx c d σ H) hF hr hg hm hk hb .nil (fun σ => passAt tk σ) (pa_cons pe pa_nil he) hdb he hpl, fun O W σ H ρ Q sr hw => ?_⟩⟩
  unfold xCallT at hw
  refine q O W σ H ρ _ sr ?_
  cases ef : fx ρ with
  | bad => rw [ef] at hw; exact hw
  | exc c fs ρ' => rw [ef] at hw; exact hw
  | ok w =>
    obtain ⟨s, ρ1⟩ := w
    rw [ef] at hw
    intro v O1 W1 H1 st1 sr1 rr
    cases s with
    | sh d => exact hw.elim
    | no => exact hw.elim
    | xn _ _ => exact hw.elim
    | gv => exact hw.elim
    | byr xs => exact hw.elim
    | own xs =>
      have hw : AftE (gx X cl) vs0 Wx O W σ H Q (match F [.byr xs] with
        | .ok (r, _) => .ok (r, ρ1)
        | .exc c fs _ => .exc c fs ρ1
        | .bad => .bad) := hw
      obtain ⟨a, ev, oa, na⟩ := rr
      subst ev
      -- the callee's world: the list alone
      have en : SR (gx X cl) [.ref a] O1 [a] ([V.ref a].map some) H1 [.byr xs] := by
        refine ⟨⟨fun b hb => ?_, sr1.wf.trk⟩, rfl, fun i s e => ?_, fun i j s t b e1 e2 m1 m2 s1 s2 => ?_, sr1.tabs⟩
        · have : b = a := by simpa using hb
          rw [this]; exact sr1.wf.sub a oa.1
        · cases i with
          | zero =>
            cases e
            exact ⟨a, rfl, rfl, by simp, oa.2⟩
          | succ i => cases e
        · cases i with
          | zero =>
            cases j with
            | zero => rfl
            | succ j => cases e2
          | succ i => cases e1
      have back : ∀ {O2 W2 : List Addr} {H2 : Hp}, Stp O1 [a] H1 O2 W2 H2 → Wf O2 W2 H2 → KT (gx X cl) O2 H2 → ∃ W3, Stp O1 W1 H1 O2 W3 H2 ∧ SR (gx X cl) vs0 O2 W3 σ H2 ρ1 ∧ (∀ b ∈ W2, b ∈ W3) ∧ ∀ b ∈ W2, ∀ (i : Nat) (s : SD), ρ1[i]? = some s → s.mine = true → σ[i]? ≠ some (some (.ref b)) := fun {O2 W2 H2} st w2 tb => by
        have mW : ∀ {b : Addr}, b ∈ W2 ++ W1.filter (fun b => decide (b ≠ a)) ↔ b ∈ W2 ∨ (b ∈ W1 ∧ b ≠ a) := by
          intro b
          rw [List.mem_append, List.mem_filter, decide_eq_true_eq]
        have st3 : Stp O1 W1 H1 O2 (W2 ++ W1.filter (fun b => decide (b ≠ a))) H2 := ⟨fun b o e hb ht => st.keep b o e (fun z => hb (by rw [show b = a by simpa using z]; exact oa.1)) ht, fun b hb => by
          rcases mW.mp hb with z | z
          · rcases st.wnew b z with y | y
            · exact .inl (by rw [show b = a by simpa using y]; exact oa.1)
            · exact .inr y
          · exact .inl z.1, st.onew, st.trk, fun b hb hn => st.ofz b hb fun z => hn (by rw [show b = a by simpa using z]; exact oa.1)⟩
        have wf3 : Wf O2 (W2 ++ W1.filter (fun b => decide (b ≠ a))) H2 := ⟨fun b hb => by
          rcases mW.mp hb with z | z
          · exact w2.sub b z
          · exact st.ofz b (sr1.wf.sub b z.1) (by simpa using z.2), w2.trk⟩
        have own3 : ∀ {i : Nat} {s : SD} {zs : List D}, ρ1[i]? = some s → (s = .own zs ∨ s = .byr zs) → ∃ b, σ[i]? = some (some (.ref b)) ∧ b ≠ a ∧ OwnAt (gx X cl) O2 (W2 ++ W1.filter (fun b => decide (b ≠ a))) H2 b zs := fun {i s zs} e hs => by
          obtain ⟨b, eb, h1, us, h2, h3, h4⟩ := sr1.getOwn e hs
          have nb : b ≠ a := fun z => na i s e (by rcases hs with rfl | rfl <;> rfl) (by rw [← z]; exact eb)
          exact ⟨b, eb, nb, mW.mpr (.inr ⟨h1, nb⟩), us, st.keep b _ h2 (by simpa using nb) (fun _ z => by cases z), h3, h4.step en.wf st⟩
        refine ⟨_, st3, ⟨wf3, sr1.len, fun i s e => ?_, sr1.apart, tb⟩, fun b hb => mW.mpr (.inl hb), fun b hb i s e m z => ?_⟩
        · have qs := sr1.slot i s e
          cases s with
          | no => trivial
          | xn c fs => obtain ⟨a, p, gs, e, x, t, n, r⟩ := qs; exact ⟨a, p, gs, e, x, (st.at en.wf t n).1, (st.at en.wf t n).2, RpF.step en.wf st r⟩
          | gv => exact qs
          | sh d => obtain ⟨u, eu, r⟩ := qs; exact ⟨u, eu, r.step en.wf st⟩
          | own zs =>
            obtain ⟨b, eb, _, ob⟩ := own3 e (.inl rfl)
            exact ⟨b, by rw [eb]; rfl, ob⟩
          | byr zs =>
            obtain ⟨b, eb, _, ob⟩ := own3 e (.inr rfl)
            obtain ⟨c, q1, q2, _⟩ := qs
            rw [eb] at q1; cases q1
            exact ⟨b, by rw [eb]; rfl, q2, ob⟩
        · have : ∃ zs, s = .own zs ∨ s = .byr zs := by
            cases s with
            | own zs => exact ⟨zs, .inl rfl⟩
            | byr zs => exact ⟨zs, .inr rfl⟩
            | xn _ _ => cases m
            | gv => cases m
            | no => cases m
            | sh d => cases m
          obtain ⟨zs, hs⟩ := this
          obtain ⟨c, ec, nc, _⟩ := own3 e hs
          obtain ⟨c', ec', h1, _⟩ := sr1.getOwn e hs
          rw [z] at ec ec'
          cases ec
          cases ec'
          rcases st.wnew b hb with y | y
          · exact nc (by simpa using y)
          · exact sr1.wf.trk b (sr1.wf.sub b h1) y
      refine ⟨rfl, O1, [a], [.byr xs], en, ?_⟩
      cases eF : F [.byr xs] with
      | bad => rw [eF] at hw; exact hw
      | exc c fs as' =>
        rw [eF] at hw
        intro p gs O2 W2 H2 st2 sr2 hp hf
        obtain ⟨W3, st3, sr3, _⟩ := back st2 sr2.wf sr2.tabs
        exact hw p gs O2 W3 H2 (st1.trans sr.wf st3) sr3 hp hf
      | ok qq =>
        obtain ⟨r, as'⟩ := qq
        rw [eF] at hw
        intro u O2 W2 H2 st2 sr2 rr2
        obtain ⟨W3, st3, sr3, sub, np⟩ := back st2 sr2.wf sr2.tabs
        refine hw u O2 W3 H2 (st1.trans sr.wf st3) sr3 ?_
        cases r with
        | sh d => exact rr2
        | xn _ _ => exact rr2
        | gv => exact rr2
        | no => exact rr2
        | byr ys => exact rr2
        | own ys =>
          obtain ⟨b, eb, ob, _⟩ := rr2
          exact ⟨b, eb, ⟨sub b ob.1, ob.2⟩, np b ob.1⟩
end
end Wm
end

section
/-! Short words for printed derivations. -/
namespace Wm
open PySem PySem.Spec PyProof.Rows L2
section
variable {X : Cx} {cl : Cl} {vs0 : List V} {Wx : WX} {a b e : Expr} {pos : Pos} {fl : List LOp}
theorem lj_va {i : Nat} (h : PE X e (tVar i)) : LJ X cl vs0 Wx e (.va i) := h
theorem lj_ex {f : Sx} (h : EJ X cl vs0 Wx e f) : LJ X cl vs0 Wx e (.ex f) := h
theorem tj_lt (h : OJ X cl vs0 Wx [a, b] fl) : TJ X cl vs0 Wx (.Compare a [.Lt] [b] pos) (bT (xPrim fl pLt)) := tj_cmp op_lt (pr_I0 fun _ _ _ _ _ => by simp only [Rp]) h (nomark _)
theorem tj_le (h : OJ X cl vs0 Wx [a, b] fl) : TJ X cl vs0 Wx (.Compare a [.LtE] [b] pos) (bT (xPrim fl pLe)) := tj_cmp op_le (pr_I0 fun _ _ _ _ _ => by simp only [Rp]) h (nomark _)
theorem tj_gt (h : OJ X cl vs0 Wx [a, b] fl) : TJ X cl vs0 Wx (.Compare a [.Gt] [b] pos) (bT (xPrim fl pGt)) := tj_cmp op_gt (pr_I0 fun _ _ _ _ _ => by simp only [Rp]) h (nomark _)
theorem tj_ge (h : OJ X cl vs0 Wx [a, b] fl) : TJ X cl vs0 Wx (.Compare a [.GtE] [b] pos) (bT (xPrim fl pGe)) := tj_cmp op_ge (pr_I0 fun _ _ _ _ _ => by simp only [Rp]) h (nomark _)
theorem tj_eq (hu : X.A.units + 64 < cLine) (h : OJ X cl vs0 Wx [a, b] fl) : TJ X cl vs0 Wx (.Compare a [.Eq] [b] pos) (bT (xPrim fl pEq)) := tj_cmp (op_eqD hu) pr_eq h (nomark _)
theorem tj_ne (hu : X.A.units + 64 < cLine) (h : OJ X cl vs0 Wx [a, b] fl) : TJ X cl vs0 Wx (.Compare a [.NotEq] [b] pos) (bT (xPrim fl pNe)) := tj_cmp (op_neD hu) pr_ne h (nomark _)
/-- a def that nobody calls so: no promise at all -/
theorem fn_bad {P : Program} {w : World} {K : PySem.W.Frag} {mg : Str → Option Value} {base : Heap} {k : Nat} {f : Addr} {fd : FuncData} {ps : List Str} {G : Gx} {n : Nat} (hn : n = ps.length) : FnOk P w K mg base (L2.CX P w) k f fd ps (spF G n fun _ => .bad) :=
  ⟨fun vs H Q E h => h.1.trans hn, fun A outer s H args us vs Q E _ _ _ _ h => by obtain ⟨_, _, _, _, _, z⟩ := h; exact z.elim⟩
/-! ### a, b = e1, e2 of two plain names -/
def sPar (i j : Nat) (f g : Sx) : Ss := fun ρ => (mops [f, g] ρ).bind fun q => match q.1 with
  | [d, e] => .ok (.nx ((q.2.set i (.sh d)).set j (.sh e)))
  | _ => .bad
theorem sj_par {i j : Nat} {x y : Str} {f g : Sx} {px py pt : Pos} {kt k2 pt2} (hc : X.calm = true) (hN : X.N.Nodup) (hi : X.N[i]? = some x) (hj : X.N[j]? = some y) (hij : i ≠ j)
    (hx : X.env.scope.names.lookup x = some .local) (hy : X.env.scope.names.lookup y = some .local) (ha : MJ X cl vs0 Wx [a, b] [f, g])
    (hw : swappedStores [.Tuple [.Name x px, .Name y py] kt pt] (.Tuple [a, b] k2 pt2) X.env = pure (some [x, y]) := by rfl)
    (hs : swapsWithSole [.Tuple [.Name x px, .Name y py] kt pt] (.Tuple [a, b] k2 pt2) pos.line X.env = pure false := by rfl) :
    SJ X cl vs0 Wx (.Assign [.Tuple [.Name x px, .Name y py] kt pt] (.Tuple [a, b] k2 pt2) pos) (sPar i j f g) := by
  obtain ⟨t, p, q⟩ := ha.ex
  refine ⟨⟨_, ps_par hc hN hi hj hij hx hy p hw hs, fun O W σ H ρ E sr hw => q O W σ H ρ _ sr ?_⟩⟩
  unfold sPar at hw
  cases e : mops [f, g] ρ with
  | bad => rw [e] at hw; exact hw
  | exc c fs ρ' => rw [e] at hw; exact hw σ
  | ok w =>
    obtain ⟨ds, ρ1⟩ := w
    rw [e] at hw
    intro vs O' W' H' st sr' ra
    match ds, ra, hw with
    | [], _, hw => exact (show False from hw).elim
    | [_], _, hw => exact (show False from hw).elim
    | [d1, d2], ra, hw =>
      simp only [RpA] at ra
      obtain ⟨v, r, ev, h1, w, r2, ew, h2, er⟩ := ra
      subst er ew
      exact ⟨v, w, ev, hw _ O' W' H' st ((sr'.set h1).set h2)⟩
    | _ :: _ :: _ :: _, _, hw => exact (show False from hw).elim
/-! ### x[i], x[j] = e -/
def sSub2 (x : Nat) (f : Sx) (o o2 : LOp) : Ss := fun ρ => (f ρ).bind fun p => match p.1 with
  | .sh (.tup [d, e]) => (ownGet p.2 x).bind fun _ => (ops [o] p.2).bind fun q => match q.1 with
    | [k] => (storeD q.2 x k d).bind fun fl => match fl with
      | .nx ρ2 => (ownGet ρ2 x).bind fun _ => (ops [o2] ρ2).bind fun q2 => match q2.1 with
        | [k2] => storeD q2.2 x k2 e
        | _ => .bad
      | _ => .bad
    | _ => .bad
  | _ => .bad
/-- one store, into whatever follows -/
theorem store_core {x : Nat} {o : LOp} {ti : TE} (qi : ∀ O W σ H ρ R, SR (gx X cl) vs0 O W σ H ρ → AftO (gx X cl) vs0 Wx O W σ H R (ops [o] ρ) → tAll [ti] σ H R) {O W : List Addr} {σ : L2.St} {H : Hp} {ρ : List SD} {d : D} {v : V} {Q : Hp → Prop} {E : Ends} {k : Fl → Rs Fl}
    (sr : SR (gx X cl) vs0 O W σ H ρ) (rp : Rp (gx X cl) O H d v)
    (hk : AftS (gx X cl) vs0 Wx O W H E (((ownGet ρ x).bind fun _ => (ops [o] ρ).bind fun q => match q.1 with
      | [k] => storeD q.2 x k d
      | _ => .bad).bind k))
    (hQ : ∀ ρ' O' W' H', Stp O W H O' W' H' → SR (gx X cl) vs0 O' W' σ H' ρ' → AftS (gx X cl) vs0 Wx O' W' H' E (k (.nx ρ')) → Q H') :
    gSub (tVar x) ti rSetL v σ H fun _ H3 => Q H3 := by
  cases eg : ownGet ρ x with
  | bad => rw [eg] at hk; exact hk.elim
  | exc c fs ρ' => exact absurd eg ownGet_noexc
  | ok xs0 =>
    rw [eg] at hk
    obtain ⟨a, ea, _⟩ := ownGet_at sr eg
    refine ⟨.ref a, ea, qi O W σ H ρ (fun vs H' => match vs with
      | [y] => rSetL (.ref a) y v H' fun H3 => Q H3
      | _ => False) sr ?_⟩
    have hk : AftS (gx X cl) vs0 Wx O W H E (((ops [o] ρ).bind fun q => match q.1 with
      | [k] => storeD q.2 x k d
      | _ => .bad).bind k) := hk
    cases eo : ops [o] ρ with
    | bad => rw [eo] at hk; exact hk
    | exc c fs ρ' => rw [eo] at hk; exact hk σ
    | ok w =>
      obtain ⟨ds, ρ2⟩ := w
      rw [eo] at hk
      intro vs O3 W3 H3 st3 sr3 ho
      have hk := AftS.back sr.wf st3 hk
      cases ds with
      | nil => exact (show False from hk).elim
      | cons d1 ds =>
        cases ds with
        | cons _ _ => exact (show False from hk).elim
        | nil =>
          obtain ⟨y, rfl, h1⟩ := OpA.one ho
          cases d1 with
          | int m =>
            have hk : AftS (gx X cl) vs0 Wx O3 W3 H3 E (((ownGet ρ2 x).bind fun xs => match setAt xs m d with
              | some ys => .ok (.nx (ownSet ρ2 x ys))
              | none => .bad).bind k) := hk
            cases eg2 : ownGet ρ2 x with
            | bad => rw [eg2] at hk; exact hk.elim
            | exc c fs ρ' => exact absurd eg2 ownGet_noexc
            | ok xs =>
              rw [eg2] at hk
              have hk : AftS (gx X cl) vs0 Wx O3 W3 H3 E ((match setAt xs m d with
                | some ys => .ok (.nx (ownSet ρ2 x ys))
                | none => .bad : Rs Fl).bind k) := hk
              obtain ⟨b, eb, oW, us, h2, h3, h4⟩ := ownGet_at sr3 eg2
              rw [ea] at eb; cases eb
              unfold setAt at hk
              rw [h4.length] at hk
              cases ej : ixN us.length m with
              | none => rw [ej] at hk; exact hk.elim
              | some j =>
                rw [ej] at hk
                have rv := rp.step sr.wf st3
                obtain ⟨st4, sr4⟩ := sr3.write (vs := us.set j v) eg2 ea (by rw [List.length_set]; exact h3) (h4.set rv j)
                exact ⟨a, us, m, j, rfl, h1.int, h2, ej, hQ _ O3 W3 _ (st3.trans sr.wf st4) sr4 (AftS.back sr3.wf st4 hk)⟩
          | _ => exact (show False from hk).elim
theorem sj_sub2 {x : Nat} {ex ei ex2 ei2 : Expr} {f : Sx} {o o2 : LOp} {tpos tpos2 pt : Pos} {kk : Nat} (hc : X.calm = true) (hx : PE X ex (tVar x)) (hi : OJ X cl vs0 Wx [ei] [o]) (hx2 : PE X ex2 (tVar x)) (hi2 : OJ X cl vs0 Wx [ei2] [o2]) (h : EJ X cl vs0 Wx e f)
    (ha : ∀ v, assign (.Subscript ex ei tpos) X.env v = (do
      let ov ← holding [v] (eval ex X.env)
      let iv ← holding [v, ov] (eval ei X.env)
      standAt tpos
      holding [v, ov, iv] (setItem ov iv v)
      release [v, ov, iv] []) := by intro _; rfl)
    (ha2 : ∀ v, assign (.Subscript ex2 ei2 tpos2) X.env v = (do
      let ov ← holding [v] (eval ex2 X.env)
      let iv ← holding [v, ov] (eval ei2 X.env)
      standAt tpos2
      holding [v, ov, iv] (setItem ov iv v)
      release [v, ov, iv] []) := by intro _; rfl)
    (hg1 : (assignEach [.Subscript ex2 ei2 tpos2] X.env).map (·.2) = assign (.Subscript ex2 ei2 tpos2) X.env :: (assignEach [] X.env).map (·.2) := by rfl)
    (hg2 : (assignEach [.Subscript ex ei tpos, .Subscript ex2 ei2 tpos2] X.env).map (·.2) = assign (.Subscript ex ei tpos) X.env :: (assignEach [.Subscript ex2 ei2 tpos2] X.env).map (·.2) := by rfl)
    (hn : (assignEach [.Subscript ex ei tpos, .Subscript ex2 ei2 tpos2] X.env).length = 2 := by rfl) (hst : (assignEach [.Subscript ex ei tpos, .Subscript ex2 ei2 tpos2] X.env).findIdx? (·.1) = none := by rfl)
    (hs : swapsWithSole [.Tuple [.Subscript ex ei tpos, .Subscript ex2 ei2 tpos2] kk pt] e pos.line X.env = pure false := by rfl) (hw : swappedStores [.Tuple [.Subscript ex ei tpos, .Subscript ex2 ei2 tpos2] kk pt] e X.env = pure none := by rfl)
    (h1 : (assignEach [.Tuple [.Subscript ex ei tpos, .Subscript ex2 ei2 tpos2] kk pt] X.env).map (·.2) = [assign (.Tuple [.Subscript ex ei tpos, .Subscript ex2 ei2 tpos2] kk pt) X.env] := by rfl) :
    SJ X cl vs0 Wx (.Assign [.Tuple [.Subscript ex ei tpos, .Subscript ex2 ei2 tpos2] kk pt] e pos) (sSub2 x f o o2) := by
  obtain ⟨t, p, q⟩ := h.ex
  obtain ⟨ti, pi, qi⟩ := one_of hi
  obtain ⟨ti2, pi2, qi2⟩ := one_of hi2
  refine ⟨⟨_, ps_asg p (pg_tup hc (pgs_cons (pg_sub hx pi set_list ha) (pgs_cons (pg_sub hx2 pi2 set_list ha2) pgs_nil hg1) hg2) hn hst) hs hw h1, fun O W σ H ρ E sr hw => q O W σ H ρ _ sr (e_core sr.wf hw fun v s ρ1 O1 W1 H1 sr1 rr hk => ?_)⟩⟩
  cases s with
  | sh dd =>
    match dd, rr, hk with
    | .tup [d1, d2], rr, hk =>
      have rr : Rp (gx X cl) O1 H1 (.tup [d1, d2]) v := rr
      simp only [Rp, RpA] at rr
      obtain ⟨a, vs, ev, tt, v1, r1, e1, p1, v2, r2, e2, p2, e3⟩ := rr
      subst e3 e2 e1
      refine ⟨a, [v1, v2], ev, tt.sq, rfl, v1, [v2], rfl, ?_⟩
      have hk : AftS (gx X cl) vs0 Wx O1 W1 H1 E (((ownGet ρ1 x).bind fun _ => (ops [o] ρ1).bind fun q => match q.1 with
        | [k] => storeD q.2 x k d1
        | _ => .bad).bind fun fl => match fl with
          | .nx ρ2 => (ownGet ρ2 x).bind fun _ => (ops [o2] ρ2).bind fun q2 => match q2.1 with
            | [k2] => storeD q2.2 x k2 d2
            | _ => .bad
          | _ => .bad) := by
        have hk : AftS (gx X cl) vs0 Wx O1 W1 H1 E ((ownGet ρ1 x).bind fun _ => (ops [o] ρ1).bind fun q => match q.1 with
          | [k] => (storeD q.2 x k d1).bind fun fl => match fl with
            | .nx ρ2 => (ownGet ρ2 x).bind fun _ => (ops [o2] ρ2).bind fun q2 => match q2.1 with
              | [k2] => storeD q2.2 x k2 d2
              | _ => .bad
            | _ => .bad
          | _ => .bad) := hk
        cases eg : ownGet ρ1 x with
        | bad => rw [eg] at hk; exact hk
        | exc c fs ρ' => exact absurd eg ownGet_noexc
        | ok xs =>
          rw [eg] at hk
          cases eo : ops [o] ρ1 with
          | bad => rw [eo] at hk; exact hk
          | exc c fs ρ' => rw [eo] at hk; exact hk
          | ok w =>
            obtain ⟨ds, ρ2⟩ := w
            rw [eo] at hk
            cases ds with
            | nil => exact hk
            | cons k ds =>
              cases ds with
              | nil => exact hk
              | cons _ _ => exact hk
      refine store_core qi sr1 p1 hk fun ρ2 O2 W2 H2 st2 sr2 hk2 => ?_
      refine ⟨v2, [], rfl, ?_⟩
      have hk2 : AftS (gx X cl) vs0 Wx O2 W2 H2 E (((ownGet ρ2 x).bind fun _ => (ops [o2] ρ2).bind fun q2 => match q2.1 with
        | [k2] => storeD q2.2 x k2 d2
        | _ => .bad).bind .ok) := by
        have e : ∀ r : Rs Fl, r.bind .ok = r := fun r => by cases r <;> rfl
        rw [e]; exact hk2
      exact store_core qi2 sr2 (p2.step sr1.wf st2) hk2 fun ρ3 O3 W3 H3 st3 sr3 hk3 => ⟨rfl, hk3 σ O3 W3 H3 Stp.refl sr3⟩
    | .non, _, hk => exact (show False from hk).elim
    | .bl _, _, hk => exact (show False from hk).elim
    | .int _, _, hk => exact (show False from hk).elim
    | .str _, _, hk => exact (show False from hk).elim
    | .lst _, _, hk => exact (show False from hk).elim
    | .ins _ _, _, hk => exact (show False from hk).elim
    | .scr _, _, hk => exact (show False from hk).elim
    | .tup [], _, hk => exact (show False from hk).elim
    | .tup [_], _, hk => exact (show False from hk).elim
    | .tup (_ :: _ :: _ :: _), _, hk => exact (show False from hk).elim
  | _ => exact hk.elim
end
end Wm
end

section
/-! Evaluation: what the pieces come to, applied. -/
namespace Wm
open PySem PySem.Spec PyProof.Rows L2
variable {α β : Type}
theorem Rs.bind_first {x y : Rs α} {f : α → Rs β} (h : x = y) : x.bind f = y.bind f := by rw [h]
@[simp] theorem bind_bad (f : α → Rs β) : (Rs.bad : Rs α).bind f = .bad := (rfl)
@[simp] theorem bind_exc (c : Str) (fs : List (Str × D)) (ρ : List SD) (f : α → Rs β) : (Rs.exc c fs ρ : Rs α).bind f = .exc c fs ρ := (rfl)
/-- a def's end -/
def Rs.leave (n : Nat) : Rs Fl → Rs (SD × List SD)
  | .ok (.rt r ρ') => .ok (r, trim n ρ')
  | .ok (.nx ρ') => .ok (.sh .non, trim n ρ')
  | .exc c fs ρ' => .exc c fs (trim n ρ')
  | _ => .bad
@[simp] theorem bodyF_ap (N : Nat) (g : Ss) (as : List SD) : bodyF N g as = (g (as ++ List.replicate (N - as.length) .no)).leave as.length := by
  unfold bodyF Rs.leave
  cases g (as ++ List.replicate (N - as.length) .no) with
  | ok fl => cases fl <;> rfl
  | exc c fs ρ => rfl
  | bad => rfl
def Rs.home (ps : List (SD × Option Nat)) (ρ : List SD) : Rs (SD × List SD) → Rs (SD × List SD)
  | .ok (r, as') => .ok (r, backAll ps as' ρ)
  | .exc c fs as' => .exc c fs (backAll ps as' ρ)
  | .bad => .bad
@[simp] theorem xCall_ap (F : Fn) (fl : List LOp) (ρ : List SD) : xCall F fl ρ = (cargs fl ρ).bind fun p => if (lent p.1).Nodup then (F (p.1.map (·.1))).home p.1 p.2 else .bad := by
  unfold xCall
  refine congrArg _ (funext fun p => ?_)
  split
  · cases F (p.1.map (·.1)) with
    | ok q => rfl
    | exc c fs ρ => rfl
    | bad => rfl
  · rfl
def Rs.homeT (ρ : List SD) : Rs (SD × List SD) → Rs (SD × List SD)
  | .ok (r, _) => .ok (r, ρ)
  | .exc c fs _ => .exc c fs ρ
  | .bad => .bad
def ownArg (F : Fn) (ρ : List SD) : SD → Rs (SD × List SD)
  | .own xs => (F [.byr xs]).homeT ρ
  | _ => .bad
@[simp] theorem xCallT_ap (F : Fn) (f : Sx) (ρ : List SD) : xCallT F f ρ = (f ρ).bind fun p => ownArg F p.2 p.1 := by
  unfold xCallT
  refine congrArg _ (funext fun p => ?_)
  cases p.1 with
  | own xs =>
    dsimp only
    show _ = (F [.byr xs]).homeT p.2
    cases F [.byr xs] with
    | ok q => rfl
    | exc c fs ρ => rfl
    | bad => rfl
  | sh d => rfl
  | no => rfl
  | byr xs => rfl
  | xn _ _ => rfl
  | gv => rfl
def Fl.next (h : Ss) : Fl → Rs Fl
  | .nx ρ' => h ρ'
  | fl => .ok fl
@[simp] theorem sSeq_ap (g h : Ss) (ρ : List SD) : sSeq g h ρ = (g ρ).bind (Fl.next h) := by
  unfold sSeq
  refine congrArg _ (funext fun fl => ?_)
  cases fl <;> rfl
@[simp] theorem sNil_ap (ρ : List SD) : sNil ρ = .ok (.nx ρ) := (rfl)
@[simp] theorem sEx_ap (f : Sx) (ρ : List SD) : sEx f ρ = (f ρ).bind fun p => .ok (.nx p.2) := (rfl)
@[simp] theorem sSet_ap (i : Nat) (f : Sx) (ρ : List SD) : sSet i f ρ = (f ρ).bind fun p => .ok (.nx (p.2.set i p.1)) := (rfl)
@[simp] theorem sRet_ap (f : Sx) (ρ : List SD) : sRet f ρ = (f ρ).bind fun p => .ok (.rt p.1 p.2) := (rfl)
def retV (i : Nat) (ρ : List SD) : Option SD → Rs Fl
  | some (.sh d) => .ok (.rt (.sh d) ρ)
  | some (.own xs) => .ok (.rt (.own xs) (ρ.set i .no))
  | some (.byr xs) => .ok (.rt (.sh (.lst xs)) (ρ.set i (.sh (.lst xs))))
  | _ => .bad
@[simp] theorem sRetV_ap (i : Nat) (ρ : List SD) : sRetV i ρ = retV i ρ ρ[i]? := by
  unfold sRetV retV
  split <;> first | rfl | (split <;> first | rfl | simp_all)
@[simp] theorem sIf_ap (t : Sb) (g h : Ss) (ρ : List SD) : sIf t g h ρ = (t ρ).bind fun p => if p.1 then g p.2 else h p.2 := (rfl)
@[simp] theorem xIf_ap (t : Sb) (f g : Sx) (ρ : List SD) : xIf t f g ρ = (t ρ).bind fun p => if p.1 then f p.2 else g p.2 := (rfl)
@[simp] theorem xC_ap (d : D) (ρ : List SD) : xC d ρ = .ok (.sh d, ρ) := (rfl)
def varV (i : Nat) (ρ : List SD) : Option SD → Rs (SD × List SD)
  | some (.sh d) => .ok (.sh d, ρ)
  | some (.own xs) => .ok (.sh (.lst xs), ρ.set i (.sh (.lst xs)))
  | some (.byr xs) => .ok (.sh (.lst xs), ρ.set i (.sh (.lst xs)))
  | _ => .bad
@[simp] theorem xVar_ap (i : Nat) (ρ : List SD) : xVar i ρ = varV i ρ ρ[i]? := by
  unfold xVar varV
  split <;> first | rfl | (split <;> first | rfl | simp_all)
def lookO : Option SD → Rs D
  | some (.sh d) => .ok d
  | some (.own xs) => .ok (.lst xs)
  | some (.byr xs) => .ok (.lst xs)
  | _ => .bad
@[simp] theorem lookD_ap (ρ : List SD) (i : Nat) : lookD ρ i = lookO ρ[i]? := by
  unfold lookD lookO
  split <;> first | rfl | (split <;> first | rfl | simp_all)
def argO : Option SD → Rs SD
  | some (.sh d) => .ok (.sh d)
  | some (.own xs) => .ok (.byr xs)
  | some (.byr xs) => .ok (.byr xs)
  | _ => .bad
@[simp] theorem argOf_ap (ρ : List SD) (i : Nat) : argOf ρ i = argO ρ[i]? := by
  unfold argOf argO
  split <;> first | rfl | (split <;> first | rfl | simp_all)
@[simp] theorem ops_nil (ρ : List SD) : ops [] ρ = .ok ([], ρ) := (rfl)
@[simp] theorem ops_va (i : Nat) (r : List LOp) (ρ : List SD) : ops (.va i :: r) ρ = (lookD ρ i).bind fun _ => (ops r ρ).bind fun p => (lookD p.2 i).bind fun d => .ok (d :: p.1, p.2) := (rfl)
@[simp] theorem ops_ex (f : Sx) (r : List LOp) (ρ : List SD) : ops (.ex f :: r) ρ = (f ρ).bind fun p => (ops r p.2).bind fun q => .ok (p.1.frz :: q.1, q.2) := (rfl)
@[simp] theorem cargs_nil (ρ : List SD) : cargs [] ρ = .ok ([], ρ) := (rfl)
@[simp] theorem cargs_va (i : Nat) (r : List LOp) (ρ : List SD) : cargs (.va i :: r) ρ = (argOf ρ i).bind fun _ => (cargs r ρ).bind fun p => (argOf p.2 i).bind fun s => .ok ((s, some i) :: p.1, p.2) := (rfl)
@[simp] theorem cargs_ex (f : Sx) (r : List LOp) (ρ : List SD) : cargs (.ex f :: r) ρ = (f ρ).bind fun p => (cargs r p.2).bind fun q => .ok ((.sh p.1.frz, none) :: q.1, q.2) := (rfl)
@[simp] theorem mops_nil (ρ : List SD) : mops [] ρ = .ok ([], ρ) := (rfl)
@[simp] theorem mops_cons (f : Sx) (r : List Sx) (ρ : List SD) : mops (f :: r) ρ = (f ρ).bind fun p => (mops r p.2).bind fun q => .ok (p.1.frz :: q.1, q.2) := (rfl)
@[simp] theorem xPrim_ap (fl : List LOp) (p : List D → Rs SD) (ρ : List SD) : xPrim fl p ρ = (ops fl ρ).bind fun q => (p q.1).fin q.2 := (rfl)
@[simp] theorem xLst_ap (fs : List Sx) (ρ : List SD) : xLst fs ρ = (mops fs ρ).bind fun q => if q.1.length ≤ sizeLine then .ok (.own q.1, q.2) else .bad := (rfl)
@[simp] theorem xTup_ap (fs : List Sx) (ρ : List SD) : xTup fs ρ = (mops fs ρ).bind fun q => if q.1.length ≤ sizeLine then .ok (.sh (.tup q.1), q.2) else .bad := (rfl)
@[simp] theorem bT_ap (f : Sx) (ρ : List SD) : bT f ρ = (f ρ).tst := (rfl)
def truL (ρ : List SD) : List D → Rs (Bool × List SD)
  | [d] => match truD d with
    | some b => .ok (b, ρ)
    | none => .bad
  | _ => .bad
@[simp] theorem bTru_ap (fl : List LOp) (ρ : List SD) : bTru fl ρ = (ops fl ρ).bind fun q => truL q.2 q.1 := by
  unfold bTru truL
  congr 1
@[simp] theorem bAnd_ap (f g : Sb) (ρ : List SD) : bAnd f g ρ = (f ρ).bind fun p => if p.1 then g p.2 else .ok (false, p.2) := (rfl)
@[simp] theorem bOr_ap (f g : Sb) (ρ : List SD) : bOr f g ρ = (f ρ).bind fun p => if p.1 then .ok (true, p.2) else g p.2 := (rfl)
@[simp] theorem bNot_ap (f : Sb) (ρ : List SD) : bNot f ρ = (f ρ).bind fun p => .ok (!p.1, p.2) := (rfl)
@[simp] theorem xAnd_ap (f g : Sx) (ρ : List SD) : xAnd f g ρ = (f ρ).tst.bind fun p => if p.1 then g p.2 else .ok (.sh (.bl false), p.2) := (rfl)
@[simp] theorem xOr_ap (f g : Sx) (ρ : List SD) : xOr f g ρ = (f ρ).tst.bind fun p => if p.1 then .ok (.sh (.bl true), p.2) else g p.2 := (rfl)
@[simp] theorem xNot_ap (f : Sx) (ρ : List SD) : xNot f ρ = (f ρ).tst.bind fun p => .ok (.sh (.bl (!p.1)), p.2) := (rfl)
def par2 (i j : Nat) (ρ : List SD) : List D → Rs Fl
  | [d, e] => .ok (.nx ((ρ.set i (.sh d)).set j (.sh e)))
  | _ => .bad
@[simp] theorem sPar_ap (i j : Nat) (f g : Sx) (ρ : List SD) : sPar i j f g ρ = (mops [f, g] ρ).bind fun q => par2 i j q.2 q.1 := by
  unfold sPar par2
  congr 1
def ownO : Option SD → Rs (List D)
  | some (.own xs) => .ok xs
  | some (.byr xs) => .ok xs
  | _ => .bad
@[simp] theorem ownGet_ap (ρ : List SD) (i : Nat) : ownGet ρ i = ownO ρ[i]? := by
  unfold ownGet ownO
  split <;> first | rfl | (split <;> first | rfl | simp_all)
def ownP (ρ : List SD) (i : Nat) (xs : List D) : Option SD → List SD
  | some (.own _) => ρ.set i (.own xs)
  | some (.byr _) => ρ.set i (.byr xs)
  | _ => ρ
@[simp] theorem ownSet_ap (ρ : List SD) (i : Nat) (xs : List D) : ownSet ρ i xs = ownP ρ i xs ρ[i]? := by
  unfold ownSet ownP
  split <;> first | rfl | (split <;> first | rfl | simp_all)
def putO (ρ : List SD) (x : Nat) : Option (List D) → Rs Fl
  | some ys => .ok (.nx (ownSet ρ x ys))
  | none => .bad
@[simp] theorem storeD_int (ρ : List SD) (x : Nat) (k : Int) (d : D) : storeD ρ x (.int k) d = (ownGet ρ x).bind fun xs => putO ρ x (setAt xs k d) := by
  unfold storeD putO
  congr 1
def storeL (x : Nat) (d : D) (ρ : List SD) : List D → Rs Fl
  | [k] => storeD ρ x k d
  | _ => .bad
@[simp] theorem sStore_ap (x : Nat) (f : Sx) (o : LOp) (ρ : List SD) : sStore x f o ρ = (f ρ).bind fun p => (ownGet p.2 x).bind fun _ => (ops [o] p.2).bind fun q => storeL x p.1.frz q.2 q.1 := by
  unfold sStore storeL
  congr 1
@[simp] theorem sApp_ap (x : Nat) (f : Sx) (ρ : List SD) : sApp x f ρ = (ownGet ρ x).bind fun _ => (f ρ).bind fun p => (ownGet p.2 x).bind fun xs => if xs.length < sizeLine then .ok (.nx (ownSet p.2 x (xs ++ [p.1.frz]))) else .bad := (rfl)
def tupD (is : List Nat) (ρ : List SD) : SD → Rs Fl
  | .sh (.tup ds) => (setAll is ds ρ).bind fun ρ' => .ok (.nx ρ')
  | _ => .bad
@[simp] theorem sTup_ap (is : List Nat) (f : Sx) (ρ : List SD) : sTup is f ρ = (f ρ).bind fun p => tupD is p.2 p.1 := by
  unfold sTup tupD
  congr 1
def sub2a (x : Nat) (o o2 : LOp) (ρ : List SD) : SD → Rs Fl
  | .sh (.tup [d, e]) => (ownGet ρ x).bind fun _ => (ops [o] ρ).bind fun q => (storeL x d q.2 q.1).bind fun fl => match fl with
      | .nx ρ2 => (ownGet ρ2 x).bind fun _ => (ops [o2] ρ2).bind fun q2 => storeL x e q2.2 q2.1
      | _ => .bad
  | _ => .bad
/-- loops -/
def Fl.turn (k : List SD → Rs Fl) : Fl → Rs Fl
  | .nx ρ2 => k ρ2
  | .ct ρ2 => k ρ2
  | .bk ρ2 => .ok (.nx ρ2)
  | .rt r ρ2 => .ok (.rt r ρ2)
def forT (body : Ss) (k : List SD → Rs Fl) : Option (List SD) → Rs Fl
  | some ρ1 => (body ρ1).bind (Fl.turn k)
  | none => .bad
@[simp] theorem forL_nil (st : Tg) (body : Ss) (ρ : List SD) : forL st body [] ρ = .ok (.nx ρ) := (rfl)
@[simp] theorem forL_cons (st : Tg) (body : Ss) (d : D) (ds : List D) (ρ : List SD) : forL st body (d :: ds) ρ = forT body (forL st body ds) (st d ρ) := by
  rw [forL]
  cases st d ρ with
  | none => rfl
  | some ρ1 =>
    dsimp only
    show _ = (body ρ1).bind _
    refine congrArg _ (funext fun fl => ?_)
    cases fl <;> rfl
noncomputable def forS (st : Tg) (body : Ss) (ρ : List SD) (m : Itm) : Rs Fl := match m.bor with
  | [] => forL st body m.xs ρ
  | bs => if bs.all (fun b => b.2.isByr) then forK m st body m.xs ρ else .bad
@[simp] theorem forS_byr (st : Tg) (body : Ss) (ρ : List SD) (xs ys : List D) (i : Nat) : forS st body ρ ⟨xs, [(i, .byr ys)]⟩ = forK ⟨xs, [(i, .byr ys)]⟩ st body xs ρ := (rfl)
@[simp] theorem forK_nil (m : Itm) (st : Tg) (body : Ss) (ρ : List SD) : forK m st body [] ρ = if m.keep ρ then .ok (.nx ρ) else .bad := (rfl)
@[simp] theorem forK_cons (m : Itm) (st : Tg) (body : Ss) (d : D) (ds : List D) (ρ : List SD) : forK m st body (d :: ds) ρ = if m.keep ρ then forT body (forK m st body ds) (st d ρ) else .bad := by
  rw [forK]
  split
  · cases st d ρ with
    | none => rfl
    | some ρ1 =>
      dsimp only
      show _ = (body ρ1).bind _
      refine congrArg _ (funext fun fl => ?_)
      cases fl <;> rfl
  · rfl
def conG (i : Nat) (ρ : List SD) : Option SD → Rs (Itm × List SD)
  | some (.sh d) => (itemsOf d).bind fun xs => .ok (⟨xs, []⟩, ρ)
  | some (.own xs) => .ok (⟨xs, []⟩, ρ.set i (.sh (.lst xs)))
  | some (.byr xs) => .ok (⟨xs, [(i, .byr xs)]⟩, ρ)
  | _ => .bad
@[simp] theorem conF_ap (i : Nat) (ρ : List SD) : conF i ρ = conG i ρ ρ[i]? := by
  unfold conF conG
  split <;> first | rfl | (split <;> first | rfl | simp_all)
@[simp] theorem conG_sh (i : Nat) (ρ : List SD) (d : D) : conG i ρ (some (.sh d)) = (itemsOf d).bind fun xs => .ok (⟨xs, []⟩, ρ) := (rfl)
@[simp] theorem conG_own (i : Nat) (ρ : List SD) (d : List D) : conG i ρ (some (.own d)) = .ok (⟨d, []⟩, ρ.set i (.sh (.lst d))) := (rfl)
@[simp] theorem conG_byr (i : Nat) (ρ : List SD) (d : List D) : conG i ρ (some (.byr d)) = .ok (⟨d, [(i, .byr d)]⟩, ρ) := (rfl)
@[simp] theorem forS_nil (st : Tg) (body : Ss) (ρ : List SD) (xs : List D) : forS st body ρ ⟨xs, []⟩ = forL st body xs ρ := (rfl)
@[simp] theorem sFor_ap (src : Src) (st : Tg) (body : Ss) (ρ : List SD) : sFor src st body ρ = (src ρ).bind fun p => forS st body p.2 p.1 := (rfl)
@[simp] theorem con_ex (f : Sx) (ρ : List SD) : con (.ex f) ρ = (f ρ).bind fun p => (itemsOf p.1.frz).bind fun xs => .ok (⟨xs, []⟩, p.2) := (rfl)
def conO (i : Nat) (ρ : List SD) : Option SD → Rs (Itm × List SD)
  | some (.sh d) => (itemsOf d).bind fun xs => .ok (⟨xs, []⟩, ρ)
  | some (.own xs) => .ok (⟨xs, [(i, .own xs)]⟩, ρ)
  | some (.byr xs) => .ok (⟨xs, [(i, .byr xs)]⟩, ρ)
  | _ => .bad
@[simp] theorem con_va (i : Nat) (ρ : List SD) : con (.va i) ρ = conO i ρ ρ[i]? := by
  unfold con conV conO
  split <;> first | rfl | (split <;> first | rfl | simp_all)
@[simp] theorem enumS_ap (src : Src) (ρ : List SD) : enumS src ρ = (src ρ).bind fun p => .ok (⟨enumD p.1.xs, p.1.bor⟩, p.2) := (rfl)
@[simp] theorem srcZip_ap (o o2 : LOp) (ρ : List SD) : srcZip o o2 ρ = (con o ρ).bind fun p => (con o2 p.2).bind fun q => if p.1.keep q.2 then .ok (⟨zipD p.1.xs q.1.xs, p.1.bor ++ q.1.bor⟩, q.2) else .bad := (rfl)
@[simp] theorem srcRng1_ap (fl : List LOp) (ρ : List SD) : srcRng1 fl ρ = (ops fl ρ).bind fun q => rng1 q.2 q.1 := (rfl)
@[simp] theorem srcRng2_ap (fl : List LOp) (ρ : List SD) : srcRng2 fl ρ = (ops fl ρ).bind fun q => rng2 q.2 q.1 := (rfl)
@[simp] theorem keep_nil (xs : List D) (ρ : List SD) : Itm.keep ⟨xs, []⟩ ρ ↔ True := ⟨fun _ => trivial, fun _ p hp => absurd hp (by simp)⟩
@[simp] theorem keep_cons (xs : List D) (i : Nat) (s : SD) (r : List (Nat × SD)) (ρ : List SD) : Itm.keep ⟨xs, (i, s) :: r⟩ ρ ↔ ρ[i]? = some s ∧ Itm.keep ⟨xs, r⟩ ρ := by
  unfold Itm.keep
  simp
/-- comprehensions -/
def lcBack (vs : List Nat) (ρ : List SD) : Rs (List D × List SD) → Rs (SD × List SD)
  | .ok (ds, ρ') => .ok (.own ds, backR ρ ρ' vs)
  | _ => .bad
noncomputable def lcGo (st : Tg) (test : Sb) (elt : Sx) (vs : List Nat) (m : Itm) (ρ : List SD) : Rs (SD × List SD) := if m.keep (wipeR ρ vs) ∧ (∀ b ∈ m.bor, b.1 ∉ vs) then lcBack vs ρ (lcL m st test elt vs m.xs (wipeR ρ vs)) else .bad
@[simp] theorem xLc_ap (src : Src) (st : Tg) (test : Sb) (elt : Sx) (vs : List Nat) (ρ : List SD) : xLc src st test elt vs ρ = (src ρ).bind fun p => lcGo st test elt vs p.1 p.2 := by
  unfold xLc lcGo
  refine congrArg _ (funext fun p => ?_)
  split
  · unfold lcBack
    rfl
  · rfl
noncomputable def lcElt (m : Itm) (vs : List Nat) (k : List SD → Rs (List D × List SD)) : Rs (SD × List SD) → Rs (List D × List SD)
  | .ok (r, ρ3) => if m.keep (wipeR ρ3 vs) then (k (wipeR ρ3 vs)).bind fun q => .ok (r.frz :: q.1, q.2) else .bad
  | _ => .bad
noncomputable def lcTest (m : Itm) (elt : Sx) (vs : List Nat) (k : List SD → Rs (List D × List SD)) : Rs (Bool × List SD) → Rs (List D × List SD)
  | .ok (true, ρ2) => lcElt m vs k (elt ρ2)
  | .ok (false, ρ2) => if m.keep (wipeR ρ2 vs) then k (wipeR ρ2 vs) else .bad
  | _ => .bad
noncomputable def lcTg (m : Itm) (test : Sb) (elt : Sx) (vs : List Nat) (k : List SD → Rs (List D × List SD)) : Option (List SD) → Rs (List D × List SD)
  | some ρ1 => lcTest m elt vs k (test ρ1)
  | none => .bad
@[simp] theorem lcL_nil (m : Itm) (st : Tg) (test : Sb) (elt : Sx) (vs : List Nat) (ρ : List SD) : lcL m st test elt vs [] ρ = .ok ([], ρ) := (rfl)
@[simp] theorem lcL_cons (m : Itm) (st : Tg) (test : Sb) (elt : Sx) (vs : List Nat) (d : D) (ds : List D) (ρ : List SD) : lcL m st test elt vs (d :: ds) ρ = lcTg m test elt vs (lcL m st test elt vs ds) (st d ρ) := by
  rw [lcL]
  cases st d ρ with
  | none => rfl
  | some ρ1 =>
    dsimp only
    show _ = lcTest m elt vs _ (test ρ1)
    cases test ρ1 with
    | bad => rfl
    | exc c fs ρ => rfl
    | ok p =>
      obtain ⟨b, ρ2⟩ := p
      cases b with
      | false => rfl
      | true =>
        show _ = lcElt m vs _ (elt ρ2)
        dsimp only
        cases elt ρ2 with
        | bad => rfl
        | exc c fs ρ => rfl
        | ok q => rfl
/-- a comprehension whose turns are plain: one list, the state as it is but for the well -/
theorem lc_plain {m : Itm} {st : Tg} {test : Sb} {elt : Sx} {vs : List Nat} {ρ : List SD} {f : D → D} : ∀ {ds : List D}, (∀ d ∈ ds, ∃ ρ1 ρ2 r, st d ρ = some ρ1 ∧ test ρ1 = .ok (true, ρ1) ∧ elt ρ1 = .ok (r, ρ2) ∧ r.frz = f d ∧ wipeR ρ2 vs = ρ) → m.keep ρ →
    lcL m st test elt vs ds ρ = .ok (ds.map f, ρ)
  | [], _, _ => rfl
  | d :: ds, h, hk => by
    obtain ⟨ρ1, ρ2, r, h1, h2, h3, h4, h5⟩ := h d (by simp)
    rw [lcL_cons, h1]
    show lcTest m elt vs _ (test ρ1) = _
    rw [h2]
    show lcElt m vs _ (elt ρ1) = _
    rw [h3]
    show (if m.keep (wipeR ρ2 vs) then _ else _) = _
    rw [h5, if_pos hk, lc_plain (fun d hd => h d (List.mem_cons_of_mem _ hd)) hk]
    show Rs.ok (r.frz :: _, _) = _
    rw [h4]
    rfl
end Wm
end

section
/-! The end of a law: its def's promise, at the script. -/
namespace Wm
open PySem PySem.Spec PyProof.Rows L2
theorem law_sp {K : PySem.W.Frag} {cl : Cl} {F : Fn} {H : Hp} {a : Addr} {ns : List Int} (hl : ns.length ≤ 63) (hS : SqL K H a (ns.map V.int)) (hT : KT (gk K cl) [] H) (hF : ∃ ρ, F [.sh (.scr ns)] = .ok (.sh (.bl true), ρ)) :
    spF (gk K cl) 1 F [.ref a] H (fun v _ => v = .bl true) fun _ _ _ => False := by
  obtain ⟨ρ, e⟩ := hF
  refine ⟨rfl, [], [], [.sh (.scr ns)], ⟨⟨fun _ h => h, fun _ h => absurd h (by simp)⟩, rfl, fun i s h => ?_, fun i j s t b h1 h2 m1 m2 _ _ => ?_, hT⟩, ?_⟩
  · match i, h with
    | 0, h =>
      cases h
      refine ⟨.ref a, rfl, ?_⟩
      simp only [Rp]
      refine ⟨a, rfl, ?_, ?_⟩
      · rw [List.length_map]
        exact Nat.le_trans hl (by decide)
      · rcases hS with h | h
        · exact .inl ⟨h, by simp⟩
        · exact .inr h
    | i + 1, h => cases h
  · match i, h1 with
    | 0, h1 => cases h1; cases m1
    | i + 1, h1 => cases h1
  · rw [e]
    intro v O' W' H' _ _ r
    exact r
theorem law_cx {P : Program} {w : World} (H : Hp) (s : Shared) (e : Value) (s' : Shared) (h : L2.CX P w [] H s (fun _ _ _ => False) e s') : False := by
  obtain ⟨_, _, _, _, _, _, _, _, _, _, _, _, z⟩ := h
  exact z
end Wm
end

section
/-! Evaluation, the words that simp takes. -/
namespace Wm
open PySem PySem.Spec PyProof.Rows L2
variable {α β : Type}
@[simp] theorem bind_ok (a : α) (f : α → Rs β) : (Rs.ok a).bind f = f a := (rfl)
@[simp] theorem leave_rt (n : Nat) (r : SD) (ρ : List SD) : Rs.leave n (.ok (.rt r ρ)) = .ok (r, trim n ρ) := (rfl)
@[simp] theorem leave_nx (n : Nat) (ρ : List SD) : Rs.leave n (.ok (.nx ρ)) = .ok (.sh .non, trim n ρ) := (rfl)
@[simp] theorem home_ok (ps : List (SD × Option Nat)) (ρ : List SD) (r : SD) (as : List SD) : Rs.home ps ρ (.ok (r, as)) = .ok (r, backAll ps as ρ) := (rfl)
@[simp] theorem homeT_ok (ρ : List SD) (r : SD) (as : List SD) : Rs.homeT ρ (.ok (r, as)) = .ok (r, ρ) := (rfl)
@[simp] theorem ownArg_own (F : Fn) (ρ : List SD) (xs : List D) : ownArg F ρ (.own xs) = (F [.byr xs]).homeT ρ := (rfl)
@[simp] theorem next_nx (h : Ss) (ρ : List SD) : Fl.next h (.nx ρ) = h ρ := (rfl)
@[simp] theorem next_rt (h : Ss) (r : SD) (ρ : List SD) : Fl.next h (.rt r ρ) = .ok (.rt r ρ) := (rfl)
@[simp] theorem turn_nx (k : List SD → Rs Fl) (ρ : List SD) : Fl.turn k (.nx ρ) = k ρ := (rfl)
@[simp] theorem turn_rt (k : List SD → Rs Fl) (r : SD) (ρ : List SD) : Fl.turn k (.rt r ρ) = .ok (.rt r ρ) := (rfl)
@[simp] theorem retV_sh (i : Nat) (ρ : List SD) (d : D) : retV i ρ (some (.sh d)) = .ok (.rt (.sh d) ρ) := (rfl)
@[simp] theorem retV_own (i : Nat) (ρ : List SD) (d : List D) : retV i ρ (some (.own d)) = .ok (.rt (.own d) (ρ.set i .no)) := (rfl)
@[simp] theorem varV_sh (i : Nat) (ρ : List SD) (d : D) : varV i ρ (some (.sh d)) = .ok (.sh d, ρ) := (rfl)
@[simp] theorem varV_own (i : Nat) (ρ : List SD) (d : List D) : varV i ρ (some (.own d)) = .ok (.sh (.lst d), ρ.set i (.sh (.lst d))) := (rfl)
@[simp] theorem varV_byr (i : Nat) (ρ : List SD) (d : List D) : varV i ρ (some (.byr d)) = .ok (.sh (.lst d), ρ.set i (.sh (.lst d))) := (rfl)
@[simp] theorem lookO_sh (d : D) : lookO (some (.sh d)) = .ok d := (rfl)
@[simp] theorem lookO_own (d : List D) : lookO (some (.own d)) = .ok (.lst d) := (rfl)
@[simp] theorem lookO_byr (d : List D) : lookO (some (.byr d)) = .ok (.lst d) := (rfl)
@[simp] theorem argO_sh (d : D) : argO (some (.sh d)) = .ok (.sh d) := (rfl)
@[simp] theorem argO_own (d : List D) : argO (some (.own d)) = .ok (.byr d) := (rfl)
@[simp] theorem argO_byr (d : List D) : argO (some (.byr d)) = .ok (.byr d) := (rfl)
@[simp] theorem ownO_own (d : List D) : ownO (some (.own d)) = .ok d := (rfl)
@[simp] theorem ownO_byr (d : List D) : ownO (some (.byr d)) = .ok d := (rfl)
@[simp] theorem ownP_own (ρ : List SD) (i : Nat) (xs d : List D) : ownP ρ i xs (some (.own d)) = ρ.set i (.own xs) := (rfl)
@[simp] theorem ownP_byr (ρ : List SD) (i : Nat) (xs d : List D) : ownP ρ i xs (some (.byr d)) = ρ.set i (.byr xs) := (rfl)
@[simp] theorem putO_some (ρ : List SD) (i : Nat) (ys : List D) : putO ρ i (some ys) = .ok (.nx (ownSet ρ i ys)) := (rfl)
@[simp] theorem storeL_one (x : Nat) (d k : D) (ρ : List SD) : storeL x d ρ [k] = storeD ρ x k d := (rfl)
@[simp] theorem conO_sh (i : Nat) (ρ : List SD) (d : D) : conO i ρ (some (.sh d)) = (itemsOf d).bind fun xs => .ok (⟨xs, []⟩, ρ) := (rfl)
@[simp] theorem conO_own (i : Nat) (ρ : List SD) (d : List D) : conO i ρ (some (.own d)) = .ok (⟨d, [(i, .own d)]⟩, ρ) := (rfl)
@[simp] theorem conO_byr (i : Nat) (ρ : List SD) (d : List D) : conO i ρ (some (.byr d)) = .ok (⟨d, [(i, .byr d)]⟩, ρ) := (rfl)
@[simp] theorem items_lst (xs : List D) : itemsOf (.lst xs) = .ok xs := (rfl)
@[simp] theorem items_tup (xs : List D) : itemsOf (.tup xs) = .ok xs := (rfl)
@[simp] theorem frz_sh (d : D) : (SD.sh d).frz = d := (rfl)
@[simp] theorem frz_own (d : List D) : (SD.own d).frz = .lst d := (rfl)
@[simp] theorem fin_sh (ρ : List SD) (d : D) : Rs.fin ρ (.ok (.sh d)) = .ok (.sh d, ρ) := (rfl)
@[simp] theorem fin_own (ρ : List SD) (d : List D) : Rs.fin ρ (.ok (.own d)) = .ok (.own d, ρ) := (rfl)
@[simp] theorem fin_bad (ρ : List SD) : Rs.fin ρ .bad = .bad := (rfl)
@[simp] theorem tst_ok (b : Bool) (ρ : List SD) : Rs.tst (.ok (.sh (.bl b), ρ)) = .ok (b, ρ) := (rfl)
@[simp] theorem par2_two (i j : Nat) (ρ : List SD) (d e : D) : par2 i j ρ [d, e] = .ok (.nx ((ρ.set i (.sh d)).set j (.sh e))) := (rfl)
@[simp] theorem forT_some (body : Ss) (k : List SD → Rs Fl) (ρ : List SD) : forT body k (some ρ) = (body ρ).bind (Fl.turn k) := (rfl)
@[simp] theorem stN_ap (i : Nat) (d : D) (ρ : List SD) : stN i d ρ = some (ρ.set i (.sh d)) := (rfl)
@[simp] theorem stT_ap (is : List Nat) (ds : List D) (ρ : List SD) : stT is (.tup ds) ρ = setO is ds ρ := (rfl)
@[simp] theorem setO_nil (ρ : List SD) : setO [] [] ρ = some ρ := (rfl)
@[simp] theorem setO_cons (i : Nat) (is : List Nat) (d : D) (ds : List D) (ρ : List SD) : setO (i :: is) (d :: ds) ρ = setO is ds (ρ.set i (.sh d)) := (rfl)
@[simp] theorem tupD_tup (is : List Nat) (ρ : List SD) (ds : List D) : tupD is ρ (.sh (.tup ds)) = (setAll is ds ρ).bind fun ρ' => .ok (.nx ρ') := (rfl)
@[simp] theorem bYes_ap (ρ : List SD) : bYes ρ = .ok (true, ρ) := (rfl)
@[simp] theorem wipeR_nil (ρ : List SD) : wipeR ρ [] = ρ := (rfl)
@[simp] theorem wipeR_cons (ρ : List SD) (v : Nat) (vs : List Nat) : wipeR ρ (v :: vs) = (wipeR ρ vs).set v .no := (rfl)
@[simp] theorem backR_nil (ρ ρ' : List SD) : backR ρ ρ' [] = ρ' := (rfl)
@[simp] theorem backR_cons (ρ ρ' : List SD) (v : Nat) (vs : List Nat) : backR ρ ρ' (v :: vs) = (backR ρ ρ' vs).set v (keptSD ρ[v]?) := (rfl)
@[simp] theorem kept_sh (d : D) : keptSD (some (.sh d)) = .sh d := (rfl)
@[simp] theorem kept_no : keptSD (some .no) = .no := (rfl)
@[simp] theorem kept_own (xs : List D) : keptSD (some (.own xs)) = .no := (rfl)
@[simp] theorem lcBack_ok (vs : List Nat) (ρ : List SD) (ds : List D) (ρ' : List SD) : lcBack vs ρ (.ok (ds, ρ')) = .ok (.own ds, backR ρ ρ' vs) := (rfl)
@[simp] theorem trim_ap0 (ρ : List SD) : trim 0 ρ = [] := (rfl)
@[simp] theorem trim_ap1 (ρ : List SD) : trim 1 ρ = [trim1 (ρ[0]?.getD .no)] := (rfl)
@[simp] theorem trim_ap2 (ρ : List SD) : trim 2 ρ = [trim1 (ρ[0]?.getD .no), trim1 (ρ[1]?.getD .no)] := (rfl)
@[simp] theorem trim_ap3 (ρ : List SD) : trim 3 ρ = [trim1 (ρ[0]?.getD .no), trim1 (ρ[1]?.getD .no), trim1 (ρ[2]?.getD .no)] := (rfl)
@[simp] theorem trim1_byr (xs : List D) : trim1 (.byr xs) = .byr xs := (rfl)
@[simp] theorem trim1_own (xs : List D) : trim1 (.own xs) = .no := (rfl)
@[simp] theorem trim1_sh (d : D) : trim1 (.sh d) = .no := (rfl)
@[simp] theorem trim1_no : trim1 .no = .no := (rfl)
@[simp] theorem pI0_ev (g : Int → Int → D) (i j : Int) : pI0 g [.int i, .int j] = .ok (.sh (g i j)) := (rfl)
@[simp] theorem pI2_ev (C : Int → Int → Prop) [∀ i j, Decidable (C i j)] (g : Int → Int → D) (i j : Int) : pI2 C g [.int i, .int j] = if C i j then .ok (.sh (g i j)) else .bad := (rfl)
@[simp] theorem pAdd_int (i j : Int) : pAdd [.int i, .int j] = .ok (.sh (.int (i + j))) := (rfl)
@[simp] theorem pNeg_ev (i : Int) : pNeg [.int i] = .ok (.sh (.int (-i))) := (rfl)
@[simp] theorem cmd_iff (i j : Int) : CMd i j ↔ j ≠ 0 := Iff.rfl
/-! ### reading, writing -/
def ixO : Option D → Rs SD
  | some d => .ok (.sh d)
  | none => .bad
@[simp] theorem ixO_some (d : D) : ixO (some d) = .ok (.sh d) := (rfl)
@[simp] theorem pIx_lst (xs : List D) (i : Int) : pIx [.lst xs, .int i] = ixO (atI xs i) := by
  show (match atI xs i with | some d => _ | none => _) = _
  cases atI xs i <;> rfl
@[simp] theorem pIx_tup (xs : List D) (i : Int) : pIx [.tup xs, .int i] = ixO (atI xs i) := by
  show (match atI xs i with | some d => _ | none => _) = _
  cases atI xs i <;> rfl
theorem atI_ofNat (xs : List D) (k : Nat) (h : k < xs.length) : atI xs (k : Int) = xs[k]? := by
  unfold atI ixN
  rw [if_pos (by omega), if_pos (by omega)]
  simp
theorem atI_at (xs : List D) (i : Int) (d : D) (h0 : 0 ≤ i) (h : xs[i.toNat]? = some d) : atI xs i = some d := by
  have hl := (List.getElem?_eq_some_iff.mp h).1
  unfold atI ixN
  rw [if_pos h0, if_pos (by omega)]
  simpa using h
@[simp] theorem atI_0 (a : D) (r : List D) : atI (a :: r) 0 = some a := atI_at _ _ _ (by omega) rfl
@[simp] theorem atI_1 (a b : D) (r : List D) : atI (a :: b :: r) 1 = some b := atI_at _ _ _ (by omega) rfl
@[simp] theorem atI_2 (a b c : D) (r : List D) : atI (a :: b :: c :: r) 2 = some c := atI_at _ _ _ (by omega) rfl
theorem setAt_at (xs : List D) (i : Int) (d : D) (h0 : 0 ≤ i) (h : i.toNat < xs.length) : setAt xs i d = some (xs.set i.toNat d) := by
  unfold setAt ixN
  rw [if_pos h0, if_pos (by omega)]
  rfl
@[simp] theorem setAt_0 (a d : D) (r : List D) : setAt (a :: r) 0 d = some (d :: r) := setAt_at _ _ _ (by omega) (by simp)
@[simp] theorem setAt_1 (a b d : D) (r : List D) : setAt (a :: b :: r) 1 d = some (a :: d :: r) := setAt_at _ _ _ (by omega) (by simp)
@[simp] theorem setAt_2 (a b c d : D) (r : List D) : setAt (a :: b :: c :: r) 2 d = some (a :: b :: d :: r) := setAt_at _ _ _ (by omega) (by simp)
theorem pMul_int {i j : Int} (h : IntMulOk i j) : pMul [.int i, .int j] = .ok (.sh (.int (i * j))) := by
  show (if IntMulOk i j then _ else _) = _
  rw [if_pos h]
/-- products of small numbers -/
def Sml (b : Nat) (i : Int) : Prop := i.natAbs < 2 ^ b
theorem mul_ok {i j : Int} {b c : Nat} (hi : Sml b i) (hj : Sml c j) (hb : b ≤ 1000) (hc : c ≤ 1000) : IntMulOk i j := IntMulOk.of_bits (Nat.le_trans (intBits_le_iff.mpr hi) (Nat.le_trans hb (by decide))) (Nat.le_trans (intBits_le_iff.mpr hj) (Nat.le_trans hc (by decide)))
theorem mul_okL {i j : Int} (hi : i.natAbs < 2 ^ 64) : IntMulOk i j := IntMulOk.of_left (intBits_le_iff.mpr hi)
theorem mul_okR {i j : Int} (hj : j.natAbs < 2 ^ 64) : IntMulOk i j := IntMulOk.of_right (intBits_le_iff.mpr hj)
theorem cdv_small {i j : Int} (h : j ≠ 0) (hj : j.natAbs < 2 ^ 64) : CDv i j := ⟨h, (Nat.log2_lt (by omega)).mpr (Nat.lt_of_lt_of_le hj (Nat.pow_le_pow_right (by omega) (by omega)))⟩
end Wm
end

section
/-! Evaluation of blocks over lists that are not told item by item. -/
namespace Wm
open PySem PySem.Spec PyProof.Rows L2
variable {S : Type} {m : Itm} {st : Tg} {test : Sb} {elt : Sx} {vs : List Nat}
@[simp] theorem lcTg_some (k : List SD → Rs (List D × List SD)) (ρ : List SD) : lcTg m test elt vs k (some ρ) = lcTest m elt vs k (test ρ) := (rfl)
@[simp] theorem lcTest_true (k : List SD → Rs (List D × List SD)) (ρ : List SD) : lcTest m elt vs k (.ok (true, ρ)) = lcElt m vs k (elt ρ) := (rfl)
@[simp] theorem lcTest_false (k : List SD → Rs (List D × List SD)) (ρ : List SD) : lcTest m elt vs k (.ok (false, ρ)) = if m.keep (wipeR ρ vs) then k (wipeR ρ vs) else .bad := (rfl)
@[simp] theorem lcElt_ok (k : List SD → Rs (List D × List SD)) (r : SD) (ρ : List SD) : lcElt m vs k (.ok (r, ρ)) = if m.keep (wipeR ρ vs) then (k (wipeR ρ vs)).bind fun q => .ok (r.frz :: q.1, q.2) else .bad := (rfl)
@[simp] theorem lcGo_ap (m : Itm) (ρ : List SD) : lcGo st test elt vs m ρ = if m.keep (wipeR ρ vs) ∧ (∀ b ∈ m.bor, b.1 ∉ vs) then lcBack vs ρ (lcL m st test elt vs m.xs (wipeR ρ vs)) else .bad := (rfl)
/-- each turn gives a thing and goes on -/
theorem lc_ex {P : D → D → Prop} (R : S → List SD) : ∀ {ds : List D}, (∀ s, ∀ d ∈ ds, ∃ v s', P d v ∧ ∀ k, lcTg m test elt vs k (st d (R s)) = (k (R s')).bind fun q => .ok (v :: q.1, q.2)) → ∀ s, ∃ ws s', lcL m st test elt vs ds (R s) = .ok (ws, R s') ∧ ws.length = ds.length ∧ ∀ (i : Nat) d v, ds[i]? = some d → ws[i]? = some v → P d v
  | [], _, s => ⟨[], s, rfl, rfl, fun i d v h => by simp at h⟩
  | d :: ds, h, s => by
    obtain ⟨v, s1, hp, e⟩ := h s d (by simp)
    obtain ⟨ws, s2, e2, hl, hw⟩ := lc_ex R (ds := ds) (fun s d hd => h s d (List.mem_cons_of_mem _ hd)) s1
    refine ⟨v :: ws, s2, ?_, by simp [hl], fun i d' v' h1 h2 => ?_⟩
    · rw [lcL_cons, e, e2]
      rfl
    · cases i with
      | zero => simp at h1 h2; subst h1 h2; exact hp
      | succ i => exact hw i d' v' (by simpa using h1) (by simpa using h2)
/-- no state: each turn gives f of its item -/
theorem lc_map {f : D → D} {ρ : List SD} : ∀ {ds : List D}, (∀ d ∈ ds, ∀ k, lcTg m test elt vs k (st d ρ) = (k ρ).bind fun q => .ok (f d :: q.1, q.2)) → lcL m st test elt vs ds ρ = .ok (ds.map f, ρ)
  | [], _ => rfl
  | d :: ds, h => by
    rw [lcL_cons, h d (by simp), lc_map fun d hd => h d (List.mem_cons_of_mem _ hd)]
    rfl
/-- a loop that goes through -/
theorem for_inv {body : Ss} (I : List D → List SD → Prop) : ∀ {ds : List D}, (∀ d ds ρ, I (d :: ds) ρ → ∃ ρ', I ds ρ' ∧ ∀ k, forT body k (st d ρ) = k ρ') → ∀ {ρ : List SD}, I ds ρ → ∃ ρ', I [] ρ' ∧ forL st body ds ρ = .ok (.nx ρ')
  | [], _, ρ, h => ⟨ρ, h, rfl⟩
  | d :: ds, h, ρ, hi => by
    obtain ⟨ρ1, h1, e1⟩ := h d ds ρ hi
    obtain ⟨ρ2, h2, e2⟩ := for_inv I (ds := ds) h h1
    exact ⟨ρ2, h2, by rw [forL_cons, e1, e2]⟩
@[simp] theorem rng1_ev (ρ : List SD) (j : Int) : rng1 ρ [.int j] = if rngOk j ∧ j.toNat ≤ sizeLine then .ok (⟨rangeD 0 j.toNat, []⟩, ρ) else .bad := (rfl)
@[simp] theorem rng2_ev (ρ : List SD) (i j : Int) : rng2 ρ [.int i, .int j] = if rngOk i ∧ rngOk j ∧ (j - i).toNat ≤ sizeLine then .ok (⟨rangeD i (j - i).toNat, []⟩, ρ) else .bad := (rfl)
theorem rngOk_nat (n : Nat) (h : n < 2 ^ 62) : rngOk (n : Int) := ⟨by omega, by omega⟩
theorem rangeD_len (lo : Int) (n : Nat) : (rangeD lo n).length = n := by simp [rangeD]
theorem rangeD_get {lo : Int} {n i : Nat} (h : i < n) : (rangeD lo n)[i]? = some (.int (lo + i)) := by
  unfold rangeD
  rw [List.getElem?_map, List.getElem?_range h]
  rfl
theorem rangeD_mem {lo : Int} {n : Nat} {d : D} (h : d ∈ rangeD lo n) : ∃ i, i < n ∧ d = .int (lo + (i : Nat)) := by
  unfold rangeD at h
  obtain ⟨i, hi, rfl⟩ := List.mem_map.mp h
  exact ⟨i, List.mem_range.mp hi, rfl⟩
@[simp] theorem pList_lst (xs : List D) : pList [.lst xs] = .ok (.own xs) := (rfl)
@[simp] theorem pTuple_lst (xs : List D) : pTuple [.lst xs] = .ok (.sh (.tup xs)) := (rfl)
@[simp] theorem pTuple_tup (xs : List D) : pTuple [.tup xs] = .ok (.sh (.tup xs)) := (rfl)
@[simp] theorem pInt_int (i : Int) : pInt [.int i] = .ok (.sh (.int i)) := (rfl)
@[simp] theorem pInt_bl (b : Bool) : pInt [.bl b] = .ok (.sh (.int (if b then 1 else 0))) := (rfl)
@[simp] theorem pLen_lst (xs : List D) : pLen [.lst xs] = .ok (.sh (.int xs.length)) := (rfl)
@[simp] theorem pLen_tup (xs : List D) : pLen [.tup xs] = .ok (.sh (.int xs.length)) := (rfl)
@[simp] theorem pEq_ev (x y : D) : pEq [x, y] = if okD x && okD y then .ok (.sh (.bl (eqD x y))) else .bad := (rfl)
@[simp] theorem pNe_ev (x y : D) : pNe [x, y] = if okD x && okD y then .ok (.sh (.bl (!eqD x y))) else .bad := (rfl)
@[simp] theorem okN_int (n : Nat) (i : Int) : okN n (.int i) = true := by cases n <;> rfl
@[simp] theorem okN_bl (n : Nat) (i : Bool) : okN n (.bl i) = true := by cases n <;> rfl
@[simp] theorem okN_non (n : Nat) : okN n .non = true := by cases n <;> rfl
@[simp] theorem okN_tup (n : Nat) (xs : List D) : okN (n + 1) (.tup xs) = okNs n xs := (rfl)
@[simp] theorem okN_lst (n : Nat) (xs : List D) : okN (n + 1) (.lst xs) = okNs n xs := (rfl)
@[simp] theorem okNs_nil (n : Nat) : okNs n [] = true := by cases n <;> rfl
@[simp] theorem okNs_cons (n : Nat) (x : D) (xs : List D) : okNs n (x :: xs) = (okN n x && okNs n xs) := by cases n <;> rfl
@[simp] theorem eqD_int (i j : Int) : eqD (.int i) (.int j) = (i == j) := (rfl)
@[simp] theorem eqD_lst (xs ys : List D) : eqD (.lst xs) (.lst ys) = eqDs xs ys := (rfl)
@[simp] theorem eqD_tup (xs ys : List D) : eqD (.tup xs) (.tup ys) = eqDs xs ys := (rfl)
@[simp] theorem eqDs_nil : eqDs [] [] = true := (rfl)
@[simp] theorem eqDs_cons (x y : D) (xs ys : List D) : eqDs (x :: xs) (y :: ys) = (eqD x y && eqDs xs ys) := (rfl)
@[simp] theorem eqDs_nil_cons (y : D) (ys : List D) : eqDs [] (y :: ys) = false := (rfl)
@[simp] theorem eqDs_cons_nil (y : D) (ys : List D) : eqDs (y :: ys) [] = false := (rfl)
@[simp] theorem lent_nil : lent [] = [] := (rfl)
@[simp] theorem lent_byr (xs : List D) (i : Nat) (r : List (SD × Option Nat)) : lent ((.byr xs, some i) :: r) = i :: lent r := (rfl)
@[simp] theorem lent_sh (d : D) (o : Option Nat) (r : List (SD × Option Nat)) : lent ((.sh d, o) :: r) = lent r := (rfl)
@[simp] theorem back_nil (as ρ : List SD) : backAll [] as ρ = ρ := (rfl)
@[simp] theorem back_byr (xs : List D) (i : Nat) (r : List (SD × Option Nat)) (s : SD) (ss ρ : List SD) : backAll ((.byr xs, some i) :: r) (s :: ss) ρ = (backAll r ss ρ).set i (backS (ρ[i]?.getD .no) s) := (rfl)
@[simp] theorem back_sh (d : D) (o : Option Nat) (r : List (SD × Option Nat)) (s : SD) (ss ρ : List SD) : backAll ((.sh d, o) :: r) (s :: ss) ρ = backAll r ss ρ := (rfl)
@[simp] theorem backS_own (xs ys : List D) : backS (.own xs) (.byr ys) = .own ys := (rfl)
@[simp] theorem backS_byr (xs ys : List D) : backS (.byr xs) (.byr ys) = .byr ys := (rfl)
@[simp] theorem setAll_nil (ρ : List SD) : setAll [] [] ρ = .ok ρ := (rfl)
@[simp] theorem setAll_cons (i : Nat) (is : List Nat) (d : D) (ds : List D) (ρ : List SD) : setAll (i :: is) (d :: ds) ρ = setAll is ds (ρ.set i (.sh d)) := (rfl)
@[simp] theorem pAdd_tup (xs ys : List D) : pAdd [.tup xs, .tup ys] = if xs.length + ys.length ≤ sizeLine then .ok (.sh (.tup (xs ++ ys))) else .bad := (rfl)
@[simp] theorem pAdd_lst (xs ys : List D) : pAdd [.lst xs, .lst ys] = if xs.length + ys.length ≤ sizeLine then .ok (.own (xs ++ ys)) else .bad := (rfl)
@[simp] theorem pAdd_scr (ns : List Int) (ys : List D) : pAdd [.scr ns, .lst ys] = if ns.length + ys.length ≤ sizeLine then .ok (.own (ns.map .int ++ ys)) else .bad := (rfl)
@[simp] theorem isi_ev (t : BT) (d : D) : pIsi t [d] = match isB t d with | some b => .ok (.sh (.bl b)) | none => .bad := (rfl)
end Wm
end

section
namespace Wm
open PySem PySem.Spec PyProof.Rows L2
variable {α : Type}
theorem cut_lo (xs : List α) (i : Int) (h : 0 ≤ i) : cutL xs (some i) none = xs.drop i.toNat := by
  unfold cutL HT.sIx
  dsimp only
  rw [if_neg (by omega)]
  apply List.ext_getElem?
  intro k
  rw [List.getElem?_take]
  split
  · rename_i hk
    rw [List.getElem?_drop, List.getElem?_drop]
    by_cases h2 : i.toNat ≤ xs.length
    · rw [Nat.min_eq_left h2]
    · rw [Nat.min_eq_right (by omega)] at hk ⊢
      omega
  · rename_i hk
    rw [List.getElem?_drop]
    symm
    apply List.getElem?_eq_none
    by_cases h2 : i.toNat ≤ xs.length
    · rw [Nat.min_eq_left h2] at hk; omega
    · omega
theorem cut_hi (xs : List α) (i : Int) (h : 0 ≤ i) : cutL xs none (some i) = xs.take i.toNat := by
  unfold cutL HT.sIx
  dsimp only
  rw [if_neg (by omega), List.drop_zero, Nat.sub_zero]
  by_cases h2 : i.toNat ≤ xs.length
  · rw [Nat.min_eq_left h2]
  · rw [Nat.min_eq_right (by omega), List.take_of_length_le (Nat.le_refl _), List.take_of_length_le (by omega)]
theorem slLo_lst (xs : List D) (i : Int) (h : 0 ≤ i) : pSlLo [.lst xs, .int i] = .ok (.own (xs.drop i.toNat)) := by
  show Rs.ok (SD.own (cutL xs (some i) none)) = _
  rw [cut_lo xs i h]
theorem slLo_tup (xs : List D) (i : Int) (h : 0 ≤ i) : pSlLo [.tup xs, .int i] = .ok (.sh (.tup (xs.drop i.toNat))) := by
  show Rs.ok (SD.sh (.tup (cutL xs (some i) none))) = _
  rw [cut_lo xs i h]
theorem slHi_lst (xs : List D) (i : Int) (h : 0 ≤ i) : pSlHi [.lst xs, .int i] = .ok (.own (xs.take i.toNat)) := by
  show Rs.ok (SD.own (cutL xs none (some i))) = _
  rw [cut_hi xs i h]
theorem slHi_tup (xs : List D) (i : Int) (h : 0 ≤ i) : pSlHi [.tup xs, .int i] = .ok (.sh (.tup (xs.take i.toNat))) := by
  show Rs.ok (SD.sh (.tup (cutL xs none (some i)))) = _
  rw [cut_hi xs i h]
@[simp] theorem rangeD_0 (n : Nat) : rangeD 0 n = (List.range n).map fun (k : Nat) => D.int k := by
  unfold rangeD
  exact List.map_congr_left fun k _ => by rw [Int.zero_add]
section
variable {S : Type} {m : Itm} {st : Tg} {test : Sb} {elt : Sx} {vs : List Nat}
theorem lc_rg {n : Nat} {g f : Nat → D} {ρ : List SD} (h : ∀ j, j < n → ∀ k, lcTg m test elt vs k (st (g j) ρ) = (k ρ).bind fun q => .ok (f j :: q.1, q.2)) : lcL m st test elt vs ((List.range n).map g) ρ = .ok ((List.range n).map f, ρ) := by
  have key : ∀ (l : List Nat), (∀ j ∈ l, j < n) → lcL m st test elt vs (l.map g) ρ = .ok (l.map f, ρ) := by
    intro l
    induction l with
    | nil => intro _; rfl
    | cons j l ih =>
      intro hl
      rw [List.map_cons, lcL_cons, h j (hl j (by simp)), ih fun i hi => hl i (List.mem_cons_of_mem _ hi)]
      rfl
  exact key _ fun j hj => List.mem_range.mp hj
theorem lc_use {P : D → D → Prop} {ds : List D} {ρ : List SD} {L : Rs (List D × List SD)} (hL : lcL m st test elt vs ds ρ = L) (R : S → List SD) (s : S) (hρ : ρ = R s)
    (h : ∀ s, ∀ d ∈ ds, ∃ v s', P d v ∧ ∀ k, lcTg m test elt vs k (st d (R s)) = (k (R s')).bind fun q => .ok (v :: q.1, q.2)) : ∃ ws s', L = .ok (ws, R s') ∧ ws.length = ds.length ∧ ∀ (i : Nat) d v, ds[i]? = some d → ws[i]? = some v → P d v := by
  subst hρ
  obtain ⟨ws, s', e, hl, hp⟩ := lc_ex R h s
  exact ⟨ws, s', hL.symm.trans e, hl, hp⟩
theorem for_use {body : Ss} {ds : List D} {ρ : List SD} {L : Rs Fl} (hL : forL st body ds ρ = L) (I : List D → List SD → Prop) (h0 : I ds ρ) (h : ∀ d ds ρ, I (d :: ds) ρ → ∃ ρ', I ds ρ' ∧ ∀ k, forT body k (st d ρ) = k ρ') : ∃ ρ', I [] ρ' ∧ L = .ok (.nx ρ') := by
  obtain ⟨ρ', h1, e⟩ := for_inv I h h0
  exact ⟨ρ', h1, hL.symm.trans e⟩
end
/-! ### rows and grids -/
def rw (m : Nat) (f : Nat → Int) : D := .tup ((List.range m).map fun j => .int (f j))
def gr (m : Nat) (A : Nat → Nat → Int) : List D := (List.range m).map fun i => rw m (A i)
theorem gr_len (m : Nat) (A : Nat → Nat → Int) : (gr m A).length = m := by simp [gr]
theorem gr_get {m i : Nat} {A : Nat → Nat → Int} (h : i < m) : (gr m A)[i]? = some (rw m (A i)) := by
  unfold gr
  rw [List.getElem?_map, List.getElem?_range h]
  rfl
theorem rg_get {α : Type} {m j : Nat} {f : Nat → α} (h : j < m) : ((List.range m).map f)[j]? = some (f j) := by
  rw [List.getElem?_map, List.getElem?_range h]
  rfl
theorem rw_congr {m : Nat} {f g : Nat → Int} (h : ∀ j, j < m → f j = g j) : rw m f = rw m g := by
  unfold rw
  congr 1
  exact List.map_congr_left fun j hj => by rw [h j (List.mem_range.mp hj)]
theorem gr_congr {m : Nat} {A B : Nat → Nat → Int} (h : ∀ i j, i < m → j < m → A i j = B i j) : gr m A = gr m B := by
  unfold gr
  exact List.map_congr_left fun i hi => rw_congr fun j hj => h i j (List.mem_range.mp hi) hj
/-- a list of as many as there are, told place by place -/
theorem rg_of {α : Type} {m : Nat} {xs : List α} {f : Nat → α} (hl : xs.length = m) (h : ∀ i, i < m → xs[i]? = some (f i)) : xs = (List.range m).map f := by
  apply List.ext_getElem?
  intro i
  by_cases hi : i < m
  · rw [h i hi, rg_get hi]
  · rw [List.getElem?_eq_none (by omega), List.getElem?_eq_none (by simp; omega)]
def RowOk (m b : Nat) (d : D) : Prop := ∃ f : Nat → Int, d = rw m f ∧ ∀ j, j < m → (f j).natAbs ≤ b
def GrOk (m b : Nat) (xs : List D) : Prop := xs.length = m ∧ ∀ x ∈ xs, RowOk m b x
theorem GrOk.ex {m b : Nat} {xs : List D} (h : GrOk m b xs) : ∃ A, xs = gr m A ∧ ∀ i j, i < m → j < m → (A i j).natAbs ≤ b := by
  obtain ⟨hl, hr⟩ := h
  have : ∀ i, ∃ f : Nat → Int, i < m → xs[i]? = some (rw m f) ∧ ∀ j, j < m → (f j).natAbs ≤ b := fun i => by
    by_cases hi : i < m
    · have hi' : i < xs.length := by omega
      obtain ⟨f, e, hf⟩ := hr xs[i] (List.getElem_mem hi')
      exact ⟨f, fun _ => ⟨by rw [List.getElem?_eq_getElem hi', e], hf⟩⟩
    · exact ⟨fun _ => 0, fun z => absurd z hi⟩
  refine ⟨fun i => Classical.choose (this i), rg_of hl fun i hi => (Classical.choose_spec (this i) hi).1, fun i j hi hj => (Classical.choose_spec (this i) hi).2 j hj⟩
theorem GrOk.of {m b : Nat} {A : Nat → Nat → Int} (h : ∀ i j, i < m → j < m → (A i j).natAbs ≤ b) : GrOk m b (gr m A) := by
  refine ⟨gr_len m A, fun x hx => ?_⟩
  unfold gr at hx
  obtain ⟨i, hi, rfl⟩ := List.mem_map.mp hx
  exact ⟨A i, rfl, fun j hj => h i j (List.mem_range.mp hi) hj⟩
theorem GrOk.mono {m b c : Nat} {xs : List D} (h : GrOk m b xs) (hb : b ≤ c) : GrOk m c xs :=
  ⟨h.1, fun x hx => by obtain ⟨f, e, hf⟩ := h.2 x hx; exact ⟨f, e, fun j hj => Nat.le_trans (hf j hj) hb⟩⟩
theorem GrOk.set {m b i : Nat} {xs : List D} {x : D} (h : GrOk m b xs) (hx : RowOk m b x) : GrOk m b (xs.set i x) :=
  ⟨by rw [List.length_set]; exact h.1, fun y hy => by
    rcases List.mem_or_eq_of_mem_set hy with z | z
    · exact h.2 y z
    · rw [z]; exact hx⟩
theorem GrOk.get {m b i : Nat} {xs : List D} (h : GrOk m b xs) (hi : i < m) : ∃ x, xs[i]? = some x ∧ RowOk m b x := by
  have hi' : i < xs.length := by rw [h.1]; exact hi
  exact ⟨xs[i], List.getElem?_eq_getElem hi', h.2 _ (List.getElem_mem hi')⟩
theorem rw_zip {m : Nat} {f g : Nat → Int} : zipD ((List.range m).map fun j => D.int (f j)) ((List.range m).map fun j => D.int (g j)) = (List.range m).map fun j => D.tup [.int (f j), .int (g j)] := by
  unfold zipD
  refine rg_of (by simp) fun i hi => ?_
  rw [List.getElem?_zipWith, rg_get hi, rg_get hi]
theorem gr_set {m i : Nat} {A : Nat → Nat → Int} {f : Nat → Int} : (gr m A).set i (rw m f) = gr m (fun r j => if r = i then f j else A r j) := by
  refine rg_of (by rw [List.length_set, gr_len]) fun k hk => ?_
  by_cases e : i = k
  · subst e
    rw [List.getElem?_set_self (by rw [gr_len]; exact hk)]
    simp
  · rw [List.getElem?_set_ne e, gr_get hk]
    congr 2
    funext j
    exact (if_neg (Ne.symm e)).symm
theorem okNs_map {n : Nat} {f : Nat → D} : ∀ {l : List Nat}, (∀ i ∈ l, okN n (f i) = true) → okNs n (l.map f) = true
  | [], _ => by simp
  | i :: l, h => by
    rw [List.map_cons, okNs_cons, h i (by simp), okNs_map fun j hj => h j (List.mem_cons_of_mem _ hj)]
    rfl
theorem okN_rw {n m : Nat} {f : Nat → Int} : okN (n + 1) (rw m f) = true := okNs_map fun _ _ => okN_int _ _
theorem ok_gr {m : Nat} {A : Nat → Nat → Int} : okN 60 (.lst (gr m A)) = true := okNs_map (n := 59) fun _ _ => okN_rw
theorem eqDs_map {f : Nat → D} : ∀ {l : List Nat}, (∀ i ∈ l, eqD (f i) (f i) = true) → eqDs (l.map f) (l.map f) = true
  | [], _ => rfl
  | i :: l, h => by
    rw [List.map_cons, eqDs_cons, h i (by simp), eqDs_map fun j hj => h j (List.mem_cons_of_mem _ hj)]
    rfl
theorem eq_rw {m : Nat} {f : Nat → Int} : eqD (rw m f) (rw m f) = true := eqDs_map fun _ _ => by simp
theorem eq_gr {m : Nat} {A : Nat → Nat → Int} : eqD (.lst (gr m A)) (.lst (gr m A)) = true := eqDs_map fun _ _ => eq_rw
end Wm
namespace Wm
open PySem PySem.Spec PyProof.Rows L2
theorem ints_of {n b : Nat} {ws : List D} (hl : ws.length = n) (h : ∀ (i : Nat) v, ws[i]? = some v → ∃ x : Int, v = .int x ∧ x.natAbs ≤ b) : ∃ f : Nat → Int, ws = (List.range n).map (fun j => D.int (f j)) ∧ ∀ j, j < n → (f j).natAbs ≤ b := by
  have : ∀ i, ∃ x : Int, i < n → ws[i]? = some (.int x) ∧ x.natAbs ≤ b := fun i => by
    by_cases hi : i < n
    · have hi' : i < ws.length := by omega
      obtain ⟨x, e, hx⟩ := h i ws[i] (List.getElem?_eq_getElem hi')
      exact ⟨x, fun _ => ⟨by rw [List.getElem?_eq_getElem hi', e], hx⟩⟩
    · exact ⟨0, fun z => absurd z hi⟩
  exact ⟨fun i => Classical.choose (this i), rg_of hl fun i hi => (Classical.choose_spec (this i) hi).1, fun j hj => (Classical.choose_spec (this j) hj).2⟩
theorem setAt_last (xs : List D) (d : D) (h : 0 < xs.length) : setAt xs (-1) d = some (xs.set (xs.length - 1) d) := by
  unfold setAt ixN
  rw [if_neg (by omega), if_pos (by omega)]
  have : (-1 + (xs.length : Int)).toNat = xs.length - 1 := by omega
  rw [this]
  rfl
theorem atI_nth {xs : List D} {k : Nat} {d : D} (h : xs[k]? = some d) : atI xs (k : Int) = some d := atI_at _ _ _ (by omega) (by simpa using h)
theorem setAt_nth {xs : List D} {k : Nat} (d : D) (h : k < xs.length) : setAt xs (k : Int) d = some (xs.set k d) := by
  rw [setAt_at _ _ _ (by omega) (by simpa using h)]
  simp
theorem enum_gr {m : Nat} {A : Nat → Nat → Int} : enumD (gr m A) = (List.range m).map fun i => D.tup [.int (i : Nat), rw m (A i)] := by
  unfold enumD
  refine rg_of (by rw [List.length_mapIdx, gr_len]) fun i hi => ?_
  rw [List.getElem?_mapIdx, gr_get hi]
  rfl
theorem rw_eq (m : Nat) (f : Nat → Int) : rw m f = .tup ((List.range m).map fun j => .int (f j)) := rfl
theorem pMul_rep (xs : List D) (k : Int) (h : -1000 ≤ k ∧ k ≤ 1000) (h2 : xs.length ≤ 1000) : pMul [.tup xs, .int k] = .ok (.sh (.tup (List.replicate k.toNat xs).flatten)) := by
  show (if -(2 ^ 63) ≤ k ∧ k ≤ 1000 ∧ xs.length ≤ 1000 then _ else _) = _
  rw [if_pos ⟨by omega, h.2, h2⟩]
theorem szl : sizeLine = 16777216 := by decide
end Wm
namespace Wm
open PySem PySem.Spec PyProof.Rows L2
theorem for_rg {st : Tg} {body : Ss} {n : Nat} {g : Nat → D} {ρ : List SD} {L : Rs Fl} (hL : forL st body ((List.range n).map g) ρ = L) (I : Nat → List SD → Prop) (h0 : I 0 ρ) (h : ∀ i ρ, i < n → I i ρ → ∃ ρ', I (i + 1) ρ' ∧ ∀ k, forT body k (st (g i) ρ) = k ρ') : ∃ ρ', I n ρ' ∧ L = .ok (.nx ρ') := by
  have key : ∀ (m i : Nat) (ρ : List SD), i + m = n → I i ρ → ∃ ρ', I n ρ' ∧ forL st body (((List.range n).map g).drop i) ρ = .ok (.nx ρ') := by
    intro m
    induction m with
    | zero =>
      intro i ρ e hi
      have : ((List.range n).map g).drop i = [] := List.drop_eq_nil_of_le (by simp; omega)
      rw [this]
      have e2 : i = n := by omega
      subst e2
      exact ⟨ρ, hi, rfl⟩
    | succ m ih =>
      intro i ρ e hi
      have hin : i < n := by omega
      obtain ⟨ρ1, h1, e1⟩ := h i ρ hin hi
      obtain ⟨ρ2, h2, e2⟩ := ih (i + 1) ρ1 (by omega) h1
      refine ⟨ρ2, h2, ?_⟩
      have hd : ((List.range n).map g).drop i = g i :: ((List.range n).map g).drop (i + 1) := by
        rw [List.drop_eq_getElem_cons (by simpa using hin)]
        simp
      rw [hd, forL_cons, e1, e2]
  obtain ⟨ρ', h1, h2⟩ := key n 0 ρ (by omega) h0
  exact ⟨ρ', h1, hL.symm.trans h2⟩
theorem enum_rg {m : Nat} {g : Nat → D} : enumD ((List.range m).map g) = (List.range m).map fun i => D.tup [.int (i : Nat), g i] := by
  unfold enumD
  refine rg_of (by simp) fun i hi => ?_
  rw [List.getElem?_mapIdx, rg_get hi]
  rfl
end Wm
namespace Wm
open PySem PySem.Spec PyProof.Rows L2
theorem of_ws {α : Type} [Inhabited α] {mk : α → D} {Q : Nat → α → Prop} {n : Nat} {ws : List D} (hl : ws.length = n) (h : ∀ (i : Nat) v, i < n → ws[i]? = some v → ∃ x, v = mk x ∧ Q i x) : ∃ f : Nat → α, ws = (List.range n).map (fun j => mk (f j)) ∧ ∀ j, j < n → Q j (f j) := by
  have : ∀ i, ∃ x : α, i < n → ws[i]? = some (mk x) ∧ Q i x := fun i => by
    by_cases hi : i < n
    · have hi' : i < ws.length := by omega
      obtain ⟨x, e, hx⟩ := h i ws[i] hi (List.getElem?_eq_getElem hi')
      exact ⟨x, fun _ => ⟨by rw [List.getElem?_eq_getElem hi', e], hx⟩⟩
    · exact ⟨default, fun z => absurd z hi⟩
  exact ⟨fun i => Classical.choose (this i), rg_of hl fun i hi => (Classical.choose_spec (this i) hi).1, fun j hj => (Classical.choose_spec (this j) hj).2⟩
end Wm
end

section
/-! Refusals: an own class's `__init__` called by the class's name. -/
namespace Wm
open PySem PySem.Spec PyProof.Rows L2
section
variable {X : Cx} {e : Expr} {es : List Expr} {ta : TA} {p1 p2 pos : Pos}
theorem pe_winit {x : Str} {CW : Addr} {mc : Value} {pl : Sem Bool} (hg : Gl X x) (hm : X.mg x = some (.ref CW)) (hga : PySem.W.specialIn X.K (.ref CW) "__getattribute__" = some (some (.builtin "type.__getattribute__"))) (hrd : PySem.W.readsIn X.K CW mc = true)
    (vV : PySem.W.findCls X.K (.ref CW) mc "__init__" = some (.val (.builtin "ValueError.__init__"))) (ha : PA X (e :: es) ta) (hdb : (x == ("__debug__" : Str)) = false := by decide)
    (hc : eval (.Call (.Attribute (.Name x p1) "__init__" p2) (e :: es) [] pos) X.env = (do
      let ov ← eval (.Name x p1) X.env
      standAt p2.atName
      let (f, first) ← holding [ov] (getMethod ov "__init__" pl)
      callWith pos f first (backTo pos (starEach (e :: es) X.env)) (backToKw pos (keywordEach [] X.env))) := by rfl)
    (he : starEach (e :: es) X.env = (false, eval e X.env) :: starEach es X.env := by rfl) (hpl : (backTo pos (starEach es X.env)).any (·.1) = false := by rfl) :
    PE X (.Call (.Attribute (.Name x p1) "__init__" p2) (e :: es) [] pos) (tVeI X.K ta) := by
  refine ⟨fun pins s σ H Q I h => ?_⟩
  refine PySem.W.methodCall_KW (ld_glob I hg hm ?_ hdb) hc
  refine PySem.W.method_cls I.kIn hga (PySem.W.cls_value I.kIn hrd vV (by decide +kernel) ?_)
  refine PyProof.Rows.callWith_method1 (thn (ha.run pos pins _ σ H _ (I.tok _) h) fun us s1 ⟨vs, H1, I1, r1, a, C, ws, ev, hl, T, ea, q⟩ => ?_) he hpl
  subst ev
  cases r1 with
  | @cons _ u0 _ ur ra rw' =>
    obtain rfl : u0 = Value.ref a := ra
    have hlen : ur.length ≤ sizeLine := by
      rw [← Paired.length rw', sizeLine_eq]
      omega
    exact oinit_ok T I1 ea hlen fun s' J => ⟨.non, H1, J, rfl, q⟩
end
end Wm
end

section
/-! Refusals: what `C.__init__` does with one field. -/
namespace Wm
open PySem PySem.Spec PyProof.Rows L2
def spI1 (K : PySem.W.Frag) (C : Addr) (f : Str) : Sp := fun vs H Q E => ∃ (a : Addr) (w : V), vs = [.ref a, w] ∧ OexC K C ∧ PySem.W.findIn K (.ref C) f = some none ∧ H a = some (exo a C none) ∧ ∀ dx, H dx = none → dx ≠ a → Q .non (upd (upd H dx (exd dx [(f, w)])) a (exo a C (some dx)))
theorem init1_sound {K : PySem.W.Frag} {C : Addr} {f : Str} {m : Str} {vs : List V} {H : Hp} {Q : VK} {E : XK} (h : spI1 K C f vs H Q E) :
    tSeq (tDrop (tVeI K (tCons (tVar 0) (tCons (tC (.str m)) tNil)))) (tOst K f (tVar 0) (tVar 1)) { nx := fun _ H' => Q .non H', rt := Q } (vs.map some) H := by
  obtain ⟨a, w, rfl, T, hf, ha, q⟩ := h
  refine ⟨_, rfl, a, C, _, rfl, by show 1 ≤ 1000; decide, T, ha, ?_⟩
  exact ⟨_, rfl, _, rfl, a, C, rfl, T, hf, .inl ⟨ha, fun dx n ne => q dx n ne⟩⟩
end Wm
end

section
namespace Wm
open PySem PySem.Spec PyProof.Rows L2
def excOne (c f : Str) (ρ : List SD) : List D → Rs Fl
  | [d] => .exc c [(f, d)] ρ
  | _ => .bad
def sRaise1 (c f : Str) (fx : Sx) : Ss := fun ρ => (mops [fx] ρ).bind fun q => excOne c f q.2 q.1
section
variable {X : Cx} {cl : Cl} {vs0 : List V} {Wx : WX} {e : Expr} {p pos pos' : Pos} {fx : Sx}
theorem sj_raise1 {CX : CXT} {x c f : Str} {fI : Addr} {k : Nat} {fd : FuncData} {ps : List Str} (hc : X.calm = true) (tk : Takes X Wx) (T : OexC X.K (cl.at' c)) (hf : PySem.W.findIn X.K (.ref (cl.at' c)) f = some none) (iC : PySem.W.findIn X.K (.ref (cl.at' c)) "__init__" = some (some (.ref fI))) (tI : PySem.W.typeIn X.K (.ref fI) = some (.type "function"))
    (F1 : FnOk X.prog X.w X.K X.mg X.base CX k fI fd ps (spI1 X.K (cl.at' c) f)) (hr : Room (k + 1) X.A) (hb : Binds X.K fd ps []) (hx : Passes CX X (fun _ _ _ => False)) (hg : Gl X x) (hm : X.mg x = some (.ref (cl.at' c))) (h : MJ X cl vs0 Wx [e] [fx])
    (hdb : (x == ("__debug__" : Str)) = false := by decide) (he : starEach [e] X.env = (false, eval e X.env) :: starEach [] X.env := by rfl) (hpl : (backTo pos' (starEach [] X.env)).any (·.1) = false := by rfl) :
    SJ X cl vs0 Wx (.Raise (some (.Call (.Name x p) [e] [] pos')) none pos) (sRaise1 c f fx) := by
  obtain ⟨t, pt, q⟩ := h.ex
  refine ⟨⟨_, ps_raise hc tk (pmk_oex T iC tI F1 hr hb .nil hx hg hm pt hdb he hpl), fun O W σ H ρ D sr hw => q O W σ H ρ _ sr ?_⟩⟩
  unfold sRaise1 at hw
  cases em : mops [fx] ρ with
  | bad => rw [em] at hw; exact hw
  | exc c' fs ρ' => rw [em] at hw; exact hw σ
  | ok w =>
    obtain ⟨ds, ρ1⟩ := w
    rw [em] at hw
    intro vs O' W' H1 st sr' ra
    match ds, ra, hw with
    | [], _, hw => exact (show False from hw).elim
    | [d], ra, hw =>
      simp only [RpA] at ra
      obtain ⟨v, r, ev, h1, er⟩ := ra
      subst er ev
      refine ⟨by show 1 ≤ 1000; decide, fun a na => ⟨a, v, rfl, T, hf, upd_same, fun dx nd ne => ⟨rfl, dx, [(f, v)], upd_same, ?_, ?_, ?_⟩⟩⟩
      · rw [upd_ne ne, upd_same]
      · rw [upd_ne ne] at nd; exact nd
      · have nd1 : H1 dx = none := by rw [upd_ne ne] at nd; exact nd
        have eH : upd (del (upd (upd (upd H1 a (exo a (cl.at' c) none)) dx (exd dx [(f, v)])) a (exo a (cl.at' c) (some dx))) a) dx (.xd [(f, v)]) = upd H1 dx (.xd [(f, v)]) := by
          funext b
          by_cases e1 : b = dx
          · subst e1; rw [upd_same, upd_same]
          · rw [upd_ne e1, upd_ne e1]
            by_cases e2 : b = a
            · subst e2; rw [del_same, na]
            · rw [del_ne e2, upd_ne e2, upd_ne e1, upd_ne e2]
        rw [eH]
        have sm : Same H1 (upd H1 dx (.xd [(f, v)])) := same_upd nd1
        refine hw σ dx [(f, v)] O' W' _ (st.trans sr.wf (Stp.same sm)) (sr'.same sm) ⟨upd_same, fun z => sr'.wf.trk dx z (noD_none nd1)⟩ ?_
        simp only [RpF]
        exact ⟨v, [], rfl, h1.step sr'.wf (Stp.same sm), rfl⟩
    | _ :: _ :: _, _, hw => exact (show False from hw).elim
end
end Wm
end

section
/-! try: several clauses, each with a name or without. -/
namespace Wm
open PySem PySem.Spec PyProof.Rows L2
abbrev Cts := Addr → Value → Option Addr → TS
/-- the ends behind a suite whose name is unbound -/
def offE (i : Nat) (D : Ends) : Ends where
  nx := fun σ H => D.nx (σ.set i none) H
  rt := D.rt
  bk := fun σ H => D.bk (σ.set i none) H
  ct := fun σ H => D.ct (σ.set i none) H
def cTS (o : Option Nat) (ts : Cts) : Cts := match o with
  | none => ts
  | some i => fun a cls d D σ H => ts a cls d (offE i D) (σ.set i (some (.ref a))) H
/-- the wish of all clauses, in order -/
def wHds (K : PySem.W.Frag) (Wo : WX) (D : Ends) : List (Value × Option Nat × Cts) → WX
  | [] => Wo
  | (c, o, ts) :: r => fun cls d σ H => ∃ b, PySem.W.exmOne K cls c = some b ∧ (b = true → ∀ a, H a = none → cTS o ts a cls d D σ H) ∧ (b = false → wHds K Wo D r cls d σ H)
inductive HdsN (X : Cx) : List ExceptHandler → List (Value × Option Nat × Cts) → Prop
  | nil : HdsN X [] []
  | one {x : Str} {c : Value} {ts : Cts} {b₀ : Stmt} {bs : List Stmt} {p1 p2 : Pos} {hs : List ExceptHandler} {l : List (Value × Option Nat × Cts)} (hc : Names X x c)
      (hu : ∀ (a : Addr) (oe : Obj) (cls : Value) (d : Option Addr) (pn : List (Addr × Obj)), Zc cls d oe → (∃ vs, oe.data = .fields vs) → PSs (X.suite a ((a, oe) :: pn)) (b₀ :: bs) (ts a cls d)) (r : HdsN X hs l) :
      HdsN X (.ExceptHandler (some (.Name x p1)) none (b₀ :: bs) p2 :: hs) ((c, none, ts) :: l)
  | named {x n : Str} {i : Nat} {c : Value} {ts : Cts} {b₀ : Stmt} {bs : List Stmt} {p1 p2 : Pos} {hs : List ExceptHandler} {l : List (Value × Option Nat × Cts)} (hc : Names X x c) (hi : X.N[i]? = some n) (hl : X.env.kindOf n = some .local)
      (hu : ∀ (a : Addr) (oe : Obj) (cls : Value) (d : Option Addr) (pn : List (Addr × Obj)), Zc cls d oe → (∃ vs, oe.data = .fields vs) → PSs (X.suite a ((a, oe) :: pn)) (b₀ :: bs) (ts a cls d)) (r : HdsN X hs l) :
      HdsN X (.ExceptHandler (some (.Name x p1)) (some n) (b₀ :: bs) p2 :: hs) ((c, some i, ts) :: l)
section
variable {X : Cx} {body : List Stmt} {h0 : ExceptHandler} {hs : List ExceptHandler} {l : List (Value × Option Nat × Cts)} {pos : Pos} {tb : WX → TS} {Wo : WX}
theorem ps_tryN (hS : X.stack = X.env :: X.outer) (hF : X.env.frame = some X.env.locals) (hN : X.N.Nodup) (tk : Takes X Wo)
    (hb : ∀ (W : WX) (pn : List (Addr × Obj)) (xe : Value → Shared → Prop), Takes (X.tr pn xe) W → PassesOwn (model X.prog X.w) X.A X.env xe → PSs (X.tr pn xe) body (tb W))
    (hh : HdsN X (h0 :: hs) l) : PS X (.Try body (h0 :: hs) [] [] pos) (fun D σ H => tb (wHds X.K Wo D l) D σ H) := by
  refine ⟨fun pins s σ H D I hyp => ?_⟩
  have okx := I.ok
  have hfr : X.A.frames = some (X.env :: X.outer) := okx.frames.trans (congrArg some hS)
  refine wpAny_Try_except (wpAny_mono ((hb (wHds X.K Wo D l) (X.pn ++ pins) _ (fun u s' xx => ?_) PassesOwn.looking).run [] s σ H D (I.toTry _) hyp) (fun f s1 q => ?_) (fun e s1 q => q))
  · obtain ⟨a, B, sI, _, σ', H', cls, d, rfl, J0, nb, up, sky, na, os, ag, wsh⟩ := xx
    have J : Inv X pins σ' H' sI := J0.ofTry okx
    have sky' : Sky B (X.env :: X.outer) a (Zc cls d) X.env.locals s'.heap := hS ▸ sky
    show wpAny (model X.prog X.w) X.A (noteFrame (.ref a) X.env) _ _ _
    refine Sky.land Zc.steady hfr hF sky' fun g3 fl3 up3 => ?_
    have J3 : Inv X pins σ' H' { s' with heap := g3 } := J.landed nb fl3.1 (up.trans up3) os ag
    obtain ⟨oe3, vs3, he3, hz3, hd3⟩ := fl3.there
    have nfr : a ∉ frs (X.env :: X.outer) := fun hm => by
      obtain ⟨_, o', e', hnf⟩ := fl3.2.2.1.mem hm
      rw [he3] at e'
      cases e'
      exact hnf _ hd3
    have nL : a ≠ X.env.locals := fun z => nfr (List.mem_filterMap.mpr ⟨X.env, List.mem_cons_self, hF.trans (congrArg some z.symm)⟩)
    have nF : a ∉ X.fs := fun hm => by
      obtain ⟨v, hv, qv⟩ := List.mem_filterMap.mp hm
      exact nfr (List.mem_filterMap.mpr ⟨v, List.mem_cons_of_mem _ hv, qv⟩)
    have S3 := J3.suite he3 hd3 na nL nF
    have LT : PySem.W.Looks (model X.prog X.w) g3 (typeOf (.ref a)) cls := fun A Q E s k q => wpAny_typeOf_ref (k _ _ he3) (hz3.1.symm ▸ q)
    have test : ∀ {x : Str} {c : Value} {np : Pos} {Q : Value → Shared → Prop} {E : Value → Shared → Prop}, Names X x c → Q c { s' with heap := g3 } → wpAny (model X.prog X.w) (X.A.mark (some (.ref a))) (eval (.Name x np) X.env) Q E { s' with heap := g3 } := fun hc q => by
      obtain ⟨hg, hdbg, hm | ⟨hm, hv, hnn⟩⟩ := hc
      · exact ld_glob (X := X.suite a ((a, oe3) :: (X.pn ++ pins))) S3 hg hm q hdbg
      · exact ld_blt (X := X.suite a ((a, oe3) :: (X.pn ++ pins))) S3 hg hm hv q hnn hdbg
    have go : ∀ {hs' : List ExceptHandler} {l' : List (Value × Option Nat × Cts)}, HdsN X hs' l' → wHds X.K Wo D l' cls d σ' H' →
        wpAny (model X.prog X.w) X.A (handleBy (.ref a) X.env hs') (SP X pins D) X.xe { s' with heap := g3 } := by
      intro hs' l' hk
      induction hk with
      | nil =>
        intro ww
        refine wpAny_handleBy_nil ?_
        obtain ⟨k1, k2, k3, oe, vs, T, oT, ts', he, hz, hd, h1, hr⟩ := id fl3
        unfold PySem.passOn
        refine wpAny_bind (wpAny_field he hd h1 ?_)
        rw [if_neg (show ¬ ((Value.ref T == Value.none) = true) from by simp)]
        have fin : wpAny (model X.prog X.w) X.A (setFlight (.ref a) X.env.frame) (fun _ s4 => wpAny (model X.prog X.w) X.A (throw (.ref a) : Sem Flow) (SP X pins D) X.xe s4) X.xe { s' with heap := g3 } := by
          rw [hF]
          exact HandSPX.setFlight_upZ fl3 fun h4 hh4 up4 => wpAny_throw (tk _ _ ⟨a, B, sI, pins, σ', H', cls, d, rfl, J, nb, (up.trans up3).trans up4, .inr (.inr (hS.symm ▸ hh4)), na, os, ag, ww⟩)
        first
          | exact wpAny_bind (wpAny_pure (wpAny_bind fin))
          | exact wpAny_bind fin
      | @one x c ts b₀ bs p1 p2 hs2 l2 hc hu r ih =>
        rintro ⟨b, hb1, hyes, hno⟩
        refine wpAny_handleBy_cons (codeAny_handlers_test ?_) (by intro q; cases q)
        refine test hc ((PySem.W.exm_one (M := model X.prog X.w) J3.kIn LT hb1).here ?_)
        cases b with
        | false => exact ih (hno rfl)
        | true =>
          refine codeAny_handlers_suite (HandSPX.lands_againZ fl3 fun h4 fl4 up4 => ?_)
          have J4 : Inv X pins σ' H' { s' with heap := h4 } := J.landed nb fl4.1 ((up.trans up3).trans up4) os ag
          obtain ⟨oe4, vs4, he4, hz4, hd4⟩ := fl4.there
          have S4 := J4.suite he4 hd4 na nL nF
          refine wpAny_mono ((hu a oe4 cls d (X.pn ++ pins) hz4 ⟨_, hd4⟩).run [] _ _ H' _ S4 (hyes rfl a na)) (fun f s6 q => ?_) (fun _ _ z => z.elim)
          cases f with
          | next => obtain ⟨σ6, H6, S6, q6⟩ := q; exact ⟨σ6, H6, S6.unsuite okx, q6⟩
          | brk => obtain ⟨σ6, H6, S6, q6⟩ := q; exact ⟨σ6, H6, S6.unsuite okx, q6⟩
          | cont => obtain ⟨σ6, H6, S6, q6⟩ := q; exact ⟨σ6, H6, S6.unsuite okx, q6⟩
          | ret u => obtain ⟨v6, σ6, H6, S6, r6, q6⟩ := q; exact ⟨v6, σ6, H6, S6.unsuite okx, r6, q6⟩
      | @named x n i c ts b₀ bs p1 p2 hs2 l2 hc hi hl hu r ih =>
        rintro ⟨b, hb1, hyes, hno⟩
        refine wpAny_handleBy_cons (codeAny_handlers_test ?_) (by intro q; cases q)
        refine test hc ((PySem.W.exm_one (M := model X.prog X.w) J3.kIn LT hb1).here ?_)
        cases b with
        | false => exact ih (hno rfl)
        | true =>
          refine codeAny_handlers_suite_as (HandSPX.lands_againZ fl3 fun h4 fl4 up4 => ?_)
          have J4 : Inv X pins σ' H' { s' with heap := h4 } := J.landed nb fl4.1 ((up.trans up3).trans up4) os ag
          obtain ⟨oe4, vs4, he4, hz4, hd4⟩ := fl4.there
          have S4 := J4.suite he4 hd4 na nL nF
          refine store_ok (X := X.suite a ((a, oe4) :: (X.pn ++ pins))) (v := .ref a) S4 hN hi (.inl hl) rfl (fun s5 S5 => ?_) (.inr hl)
          refine wpAny_mono ((hu a oe4 cls d (X.pn ++ pins) hz4 ⟨_, hd4⟩).run [] s5 _ H' _ S5 (hyes rfl a na)) (fun f s6 q => ?_) (fun _ _ z => z.elim)
          have fin : ∀ {σ6 : L2.St} {H6 : Hp} {R : Shared → Prop}, Inv (X.suite a ((a, oe4) :: (X.pn ++ pins))) [] σ6 H6 s6 → (∀ s7, Inv X pins (σ6.set i none) H6 s7 → R s7) →
              wpAny (model X.prog X.w) X.A (do bindName X.env n .none; unbindBehindTheSuite X.env n p2) (fun _ s7 => R s7) X.xe s6 := fun S6 hq => gone_ok (S6.unsuite okx) hN hi hl hq
          cases f with
          | next => obtain ⟨σ6, H6, S6, q6⟩ := q; exact fin S6 fun s7 J7 => ⟨_, _, J7, q6⟩
          | brk => obtain ⟨σ6, H6, S6, q6⟩ := q; exact fin S6 fun s7 J7 => ⟨_, _, J7, q6⟩
          | cont => obtain ⟨σ6, H6, S6, q6⟩ := q; exact fin S6 fun s7 J7 => ⟨_, _, J7, q6⟩
          | ret u => obtain ⟨v6, σ6, H6, S6, r6, q6⟩ := q; exact fin S6 fun s7 J7 => ⟨_, _, _, J7, r6, q6⟩
    exact go hh wsh
  · cases f with
    | next => obtain ⟨σ', H', J', r⟩ := q; exact wpAny_execs_nil ⟨σ', H', J'.ofTry okx, r⟩
    | brk => obtain ⟨σ', H', J', r⟩ := q; exact ⟨σ', H', J'.ofTry okx, r⟩
    | cont => obtain ⟨σ', H', J', r⟩ := q; exact ⟨σ', H', J'.ofTry okx, r⟩
    | ret u => obtain ⟨v, σ', H', J', r, r2⟩ := q; exact ⟨v, σ', H', J'.ofTry okx, r, r2⟩
end
end Wm
end

section
/-! try on data: what is caught stands in a slot of its own kind, and only its fields are read. -/
namespace Wm
open PySem PySem.Spec PyProof.Rows L2
section
variable {G G' : Gx} {O W : List Addr} {H : Hp}
theorem TO.re {a : Addr} {vs : List V} (hK : G.K = G'.K) (h : TO G.K O H a vs) : TO G'.K O H a vs := hK ▸ h
mutual
theorem Rp.re (hK : G.K = G'.K) (hc : G.cls = G'.cls) : ∀ {d : D} {v : V}, Rp G O H d v → Rp G' O H d v
  | .non, v, h => by simpa only [Rp] using h
  | .bl b, v, h => by simpa only [Rp] using h
  | .int i, v, h => by simpa only [Rp] using h
  | .str x, v, h => by simpa only [Rp] using h
  | .tup ds, v, h => by
    simp only [Rp] at h ⊢
    obtain ⟨a, vs, e, t, r⟩ := h
    exact ⟨a, vs, e, hK ▸ t, RpA.re hK hc r⟩
  | .lst ds, v, h => by
    simp only [Rp] at h ⊢
    obtain ⟨a, vs, e, t, r⟩ := h
    exact ⟨a, vs, e, hK ▸ t, RpA.re hK hc r⟩
  | .ins c fs, v, h => by
    simp only [Rp] at h ⊢
    obtain ⟨a, dx, gs, e, t, n, r⟩ := h
    exact ⟨a, dx, gs, e, hc ▸ t, n, RpF.re hK hc r⟩
  | .scr ns, v, h => by
    simp only [Rp] at h ⊢
    obtain ⟨a, e, t⟩ := h
    exact ⟨a, e, hK ▸ t⟩
  | .emp, v, h => by simpa only [Rp] using h
theorem RpA.re (hK : G.K = G'.K) (hc : G.cls = G'.cls) : ∀ {ds : List D} {vs : List V}, RpA G O H ds vs → RpA G' O H ds vs
  | [], vs, h => by simpa only [RpA] using h
  | d :: ds, vs, h => by
    simp only [RpA] at h ⊢
    obtain ⟨v, r, e, h1, h2⟩ := h
    exact ⟨v, r, e, Rp.re hK hc h1, RpA.re hK hc h2⟩
theorem RpF.re (hK : G.K = G'.K) (hc : G.cls = G'.cls) : ∀ {ds : List (Str × D)} {vs : List (Str × V)}, RpF G O H ds vs → RpF G' O H ds vs
  | [], vs, h => by simpa only [RpF] using h
  | (n, d) :: ds, vs, h => by
    simp only [RpF] at h ⊢
    obtain ⟨v, r, e, h1, h2⟩ := h
    exact ⟨v, r, e, Rp.re hK hc h1, RpF.re hK hc h2⟩
end
theorem OwnAt.re (hK : G.K = G'.K) (hc : G.cls = G'.cls) {a : Addr} {xs : List D} (h : OwnAt G O W H a xs) : OwnAt G' O W H a xs := by
  obtain ⟨h1, vs, h2, h3, h4⟩ := h
  exact ⟨h1, vs, h2, h3, h4.re hK hc⟩
/-- no slot holds an exception -/
def noXn : List SD → Bool
  | [] => true
  | .xn _ _ :: _ => false
  | _ :: r => noXn r
theorem noXn_get : ∀ {ρ : List SD} {i : Nat} {s : SD}, noXn ρ = true → ρ[i]? = some s → ∀ c fs, s ≠ .xn c fs
  | [], i, s, _, e => by cases e
  | t :: r, 0, s, h, e => by
    cases e
    intro c fs z
    subst z
    cases h
  | t :: r, i + 1, s, h, e => by
    have : noXn r = true := by
      cases t with
      | xn c fs => cases h
      | no => exact h
      | gv => exact h
      | sh d => exact h
      | own xs => exact h
      | byr xs => exact h
    exact noXn_get this e
theorem SlotR.re (hK : G.K = G'.K) (hc : G.cls = G'.cls) {ov ov0 : Option V} {s : SD} (hx : (∀ a q, G.xof a = some q → G'.xof a = some q) ∨ ∀ c fs, s ≠ .xn c fs) (h : SlotR G O W H ov ov0 s) : SlotR G' O W H ov ov0 s := by
  cases s with
  | no => trivial
  | gv => exact h
  | sh d => obtain ⟨v, e, r⟩ := h; exact ⟨v, e, r.re hK hc⟩
  | own xs => obtain ⟨a, e, r⟩ := h; exact ⟨a, e, r.re hK hc⟩
  | byr xs => obtain ⟨a, e, e0, r⟩ := h; exact ⟨a, e, e0, r.re hK hc⟩
  | xn c fs =>
    obtain ⟨a, p, gs, e, x, t, n, r⟩ := h
    rcases hx with hx | hx
    · exact ⟨a, p, gs, e, hx _ _ x, t, n, r.re hK hc⟩
    · exact absurd rfl (hx c fs)
theorem SR.re (hK : G.K = G'.K) (hc : G.cls = G'.cls) (ht : G.tabs = G'.tabs) {vs0 : List V} {σ : L2.St} {ρ : List SD} (hx : (∀ a q, G.xof a = some q → G'.xof a = some q) ∨ noXn ρ = true) (r : SR G vs0 O W σ H ρ) : SR G' vs0 O W σ H ρ :=
  ⟨r.wf, r.len, fun i s e => (r.slot i s e).re hK hc (hx.imp id fun z => noXn_get z e), r.apart, ht ▸ r.tabs.tc, fun q hq => (r.tabs.k q (ht ▸ hq)).re hK hc⟩
theorem ResR.re (hK : G.K = G'.K) (hc : G.cls = G'.cls) {σ : L2.St} {ρ : List SD} {v : V} {s : SD} (h : ResR G O W σ H ρ v s) : ResR G' O W σ H ρ v s := by
  cases s with
  | no => exact h
  | byr xs => exact h
  | xn _ _ => exact h
  | gv => exact h
  | sh d => exact Rp.re hK hc h
  | own xs =>
    obtain ⟨a, e, o, n⟩ := h
    exact ⟨a, e, o.re hK hc, n⟩
/-- an exception goes into a slot -/
theorem SR.setX {vs0 : List V} {σ : L2.St} {ρ : List SD} {i : Nat} {a p : Addr} {c : Str} {fs : List (Str × D)} {gs : List (Str × V)} (r : SR G vs0 O W σ H ρ) (hx : G.xof a = some (c, p)) (hp : H p = some (.xd gs)) (hn : p ∉ O) (hf : RpF G O H fs gs) :
    SR G vs0 O W (σ.set i (some (.ref a))) H (ρ.set i (.xn c fs)) := by
  refine ⟨r.wf, by rw [List.length_set, List.length_set, r.len], fun j s e => ?_, fun j k s t b e1 e2 m1 m2 s1 s2 => ?_, r.tabs⟩
  · by_cases hj : i = j
    · subst hj
      by_cases hl : i < ρ.length
      · rw [List.getElem?_set_self hl] at e; cases e
        rw [List.getElem?_set_self (by rw [r.len]; exact hl)]
        exact ⟨a, p, gs, rfl, hx, hp, hn, hf⟩
      · rw [List.getElem?_eq_none (by rw [List.length_set]; omega)] at e; cases e
    · rw [List.getElem?_set_ne hj] at e
      rw [List.getElem?_set_ne hj]
      exact r.slot j s e
  · have nn : ∀ {j : Nat} {s : SD}, (ρ.set i (.xn c fs))[j]? = some s → s.mine = true → i ≠ j := fun {j s} e m z => by
      subst z
      by_cases hl : i < ρ.length
      · rw [List.getElem?_set_self hl] at e; cases e; cases m
      · rw [List.getElem?_eq_none (by rw [List.length_set]; omega)] at e; cases e
    have nj := nn e1 m1
    have nk := nn e2 m2
    rw [List.getElem?_set_ne nj] at e1 s1
    rw [List.getElem?_set_ne nk] at e2 s2
    exact r.apart j k s t b e1 e2 m1 m2 s1 s2
/-- a slot is emptied -/
theorem SR.gone {vs0 : List V} {σ : L2.St} {ρ : List SD} (i : Nat) (r : SR G vs0 O W σ H ρ) : SR G vs0 O W (σ.set i none) H (ρ.set i .no) := by
  refine ⟨r.wf, by rw [List.length_set, List.length_set, r.len], fun j s e => ?_, fun j k s t b e1 e2 m1 m2 s1 s2 => ?_, r.tabs⟩
  · by_cases hj : i = j
    · subst hj
      by_cases hl : i < ρ.length
      · rw [List.getElem?_set_self hl] at e; cases e
        trivial
      · rw [List.getElem?_eq_none (by rw [List.length_set]; omega)] at e; cases e
    · rw [List.getElem?_set_ne hj] at e
      rw [List.getElem?_set_ne hj]
      exact r.slot j s e
  · have nn : ∀ {j : Nat} {s : SD}, (ρ.set i .no)[j]? = some s → s.mine = true → i ≠ j := fun {j s} e m z => by
      subst z
      by_cases hl : i < ρ.length
      · rw [List.getElem?_set_self hl] at e; cases e; cases m
      · rw [List.getElem?_eq_none (by rw [List.length_set]; omega)] at e; cases e
    have nj := nn e1 m1
    have nk := nn e2 m2
    rw [List.getElem?_set_ne nj] at e1 s1
    rw [List.getElem?_set_ne nk] at e2 s2
    exact r.apart j k s t b e1 e2 m1 m2 s1 s2
end
/-! ### what is meant -/
/-- a clause: its class, its name's slot, its suite -/
structure Hd where
  cn : Str
  sl : Option Nat
  g : Ss
def Hd.into (h : Hd) (c : Str) (fs : List (Str × D)) (ρ : List SD) : List SD := match h.sl with
  | none => ρ
  | some i => ρ.set i (.xn c fs)
def Hd.off (h : Hd) (ρ : List SD) : List SD := match h.sl with
  | none => ρ
  | some i => ρ.set i .no
def flX (o : List SD → List SD) : Rs Fl → Rs Fl
  | .ok (.nx ρ) => if noXn (o ρ) then .ok (.nx (o ρ)) else .bad
  | .ok (.rt r ρ) => if noXn (o ρ) then .ok (.rt r (o ρ)) else .bad
  | .ok (.bk ρ) => if noXn (o ρ) then .ok (.bk (o ρ)) else .bad
  | .ok (.ct ρ) => if noXn (o ρ) then .ok (.ct (o ρ)) else .bad
  | _ => .bad
def catchS (E : Str → Str → Option Bool) : List Hd → Str → List (Str × D) → List SD → Rs Fl
  | [], c, fs, ρ => .exc c fs ρ
  | h :: r, c, fs, ρ => match E c h.cn with
    | some true => flX h.off (h.g (h.into c fs ρ))
    | some false => catchS E r c fs ρ
    | none => .bad
def sTry (E : Str → Str → Option Bool) (gb : Ss) (hs : List Hd) : Ss := fun ρ => match gb ρ with
  | .exc c fs ρ' => catchS E hs c fs ρ'
  | r => r
/-- what a suite's context knows of the caught one -/
structure XofOk (cl cl' : Cl) (a : Addr) (cls : Value) (d : Option Addr) : Prop where
  at' : cl'.at' = cl.at'
  tb : cl'.tabs = cl.tabs
  xof : ∀ b c p, cl'.xof b = some (c, p) → b = a ∧ cls = .ref (cl.at' c) ∧ d = some p
inductive HJ (X : Cx) (cl : Cl) (vs0 : List V) : List ExceptHandler → List Hd → Prop
  | nil : HJ X cl vs0 [] []
  | one {x : Str} {g : Ss} {b₀ : Stmt} {bs : List Stmt} {p1 p2 : Pos} {hs : List ExceptHandler} {l : List Hd} (hc : Names X x (.ref (cl.at' x)))
      (hu : ∀ (a : Addr) (oe : Obj) (cls : Value) (d : Option Addr) (pn : List (Addr × Obj)) (cl' : Cl), Zc cls d oe → (∃ vs, oe.data = .fields vs) → XofOk cl cl' a cls d → BJ (X.suite a ((a, oe) :: pn)) cl' vs0 WX0 (b₀ :: bs) g) (r : HJ X cl vs0 hs l) :
      HJ X cl vs0 (.ExceptHandler (some (.Name x p1)) none (b₀ :: bs) p2 :: hs) (⟨x, none, g⟩ :: l)
  | named {x n : Str} {i : Nat} {g : Ss} {b₀ : Stmt} {bs : List Stmt} {p1 p2 : Pos} {hs : List ExceptHandler} {l : List Hd} (hc : Names X x (.ref (cl.at' x))) (hi : X.N[i]? = some n) (hl : X.env.kindOf n = some .local)
      (hu : ∀ (a : Addr) (oe : Obj) (cls : Value) (d : Option Addr) (pn : List (Addr × Obj)) (cl' : Cl), Zc cls d oe → (∃ vs, oe.data = .fields vs) → XofOk cl cl' a cls d → BJ (X.suite a ((a, oe) :: pn)) cl' vs0 WX0 (b₀ :: bs) g) (r : HJ X cl vs0 hs l) :
      HJ X cl vs0 (.ExceptHandler (some (.Name x p1)) (some n) (b₀ :: bs) p2 :: hs) (⟨x, some i, g⟩ :: l)
section
variable {X : Cx} {cl : Cl} {vs0 : List V} {Wx : WX}
/-- one reading of a suite -/
def tSui (K : PySem.W.Frag) (cl : Cl) (vs0 : List V) (g : Ss) : Cts := fun a cls d D σ H => ∃ cl' O W ρ, XofOk cl cl' a cls d ∧ SR (gk K cl') vs0 O W σ H ρ ∧ AftS (gk K cl') vs0 WX0 O W H D (g ρ)
theorem sui_ok {g : Ss} {sts : List Stmt} {a : Addr} {oe : Obj} {cls : Value} {d : Option Addr} {pn : List (Addr × Obj)} (hz : Zc cls d oe) (hf : ∃ vs, oe.data = .fields vs)
    (hu : ∀ (cl' : Cl), XofOk cl cl' a cls d → BJ (X.suite a ((a, oe) :: pn)) cl' vs0 WX0 sts g) : PSs (X.suite a ((a, oe) :: pn)) sts (tSui X.K cl vs0 g a cls d) := by
  refine ⟨fun pins s σ H D I h => ?_⟩
  obtain ⟨cl', O, W, ρ, hx, sr, hw⟩ := h
  obtain ⟨t, pt, q⟩ := (hu cl' hx).ex
  exact pt.run pins s σ H D I (q O W σ H ρ D sr hw)
def hdT (K : PySem.W.Frag) (cl : Cl) (vs0 : List V) (l : List Hd) : List (Value × Option Nat × Cts) := l.map fun h => (.ref (cl.at' h.cn), h.sl, tSui K cl vs0 h.g)
theorem hds_ok : ∀ {hs : List ExceptHandler} {l : List Hd}, HJ X cl vs0 hs l → HdsN X hs (hdT X.K cl vs0 l)
  | _, _, .nil => .nil
  | _, _, .one hc hu r => .one hc (fun a oe cls d pn hz hf => sui_ok hz hf fun cl' hx => hu a oe cls d pn cl' hz hf hx) (hds_ok r)
  | _, _, .named hc hi hl hu r => .named hc hi hl (fun a oe cls d pn hz hf => sui_ok hz hf fun cl' hx => hu a oe cls d pn cl' hz hf hx) (hds_ok r)
def offS (o : Option Nat) (σ : L2.St) : L2.St := match o with
  | none => σ
  | some i => σ.set i none
def offD (o : Option Nat) (D : Ends) : Ends := match o with
  | none => D
  | some i => offE i D
theorem SR.offs {G : Gx} {O W : List Addr} {σ : L2.St} {H : Hp} {ρ : List SD} {h : Hd} (r : SR G vs0 O W σ H ρ) : SR G vs0 O W (offS h.sl σ) H (h.off ρ) := by
  obtain ⟨cn, sl, g⟩ := h
  cases sl with
  | none => exact r
  | some i => exact r.gone i
theorem ResR.offs {G : Gx} {O W : List Addr} {σ : L2.St} {H : Hp} {ρ : List SD} {h : Hd} {v : V} {s : SD} (r : ResR G O W σ H ρ v s) : ResR G O W (offS h.sl σ) H (h.off ρ) v s := by
  obtain ⟨cn, sl, g⟩ := h
  cases sl with
  | none => exact r
  | some i =>
    cases s with
    | no => exact r
    | byr xs => exact r
    | xn _ _ => exact r
    | gv => exact r
    | sh d => exact r
    | own xs =>
      obtain ⟨a, e, o, n⟩ := r
      refine ⟨a, e, o, fun j t q m z => ?_⟩
      have q : (ρ.set i .no)[j]? = some t := q
      have z : (σ.set i none)[j]? = some (some (.ref a)) := z
      by_cases hj : i = j
      · subst hj
        by_cases hl : i < ρ.length
        · rw [List.getElem?_set_self hl] at q; cases q; cases m
        · rw [List.getElem?_eq_none (by rw [List.length_set]; omega)] at q; cases q
      · rw [List.getElem?_set_ne hj] at q z
        exact n j t q m z
theorem flX_core {G G' : Gx} {O W O' W' : List Addr} {H H' : Hp} {D : Ends} {h : Hd} (hK : G'.K = G.K) (hc : G'.cls = G.cls) (hT : G'.tabs = G.tabs) (w : Wf O W H) (st : Stp O W H O' W' H') {r : Rs Fl} (hw : AftS G vs0 Wx O W H D (flX h.off r)) : AftS G' vs0 WX0 O' W' H' (offD h.sl D) r := by
  have dn : ∀ {ρ σ O W H}, noXn (h.off ρ) = true → SR G' vs0 O W σ H ρ → SR G vs0 O W (offS h.sl σ) H (h.off ρ) := fun hn r => r.offs.re hK hc hT (.inr hn)
  have dnx : (offD h.sl D).nx = fun σ H => D.nx (offS h.sl σ) H := by obtain ⟨cn, sl, g⟩ := h; cases sl <;> rfl
  have dbk : (offD h.sl D).bk = fun σ H => D.bk (offS h.sl σ) H := by obtain ⟨cn, sl, g⟩ := h; cases sl <;> rfl
  have dct : (offD h.sl D).ct = fun σ H => D.ct (offS h.sl σ) H := by obtain ⟨cn, sl, g⟩ := h; cases sl <;> rfl
  have drt : (offD h.sl D).rt = D.rt := by obtain ⟨cn, sl, g⟩ := h; cases sl <;> rfl
  cases r with
  | bad => exact hw
  | exc c fs ρ => exact hw.elim
  | ok fl =>
    cases fl with
    | nx ρ2 =>
      have hw : AftS G vs0 Wx O W H D (if noXn (h.off ρ2) then .ok (.nx (h.off ρ2)) else .bad) := hw
      split at hw
      · rename_i hn
        intro σ2 O2 W2 H2 st2 sr2
        rw [dnx]
        exact hw _ O2 W2 H2 (st.trans w st2) (dn hn sr2)
      · exact hw.elim
    | bk ρ2 =>
      have hw : AftS G vs0 Wx O W H D (if noXn (h.off ρ2) then .ok (.bk (h.off ρ2)) else .bad) := hw
      split at hw
      · rename_i hn
        intro σ2 O2 W2 H2 st2 sr2
        rw [dbk]
        exact hw _ O2 W2 H2 (st.trans w st2) (dn hn sr2)
      · exact hw.elim
    | ct ρ2 =>
      have hw : AftS G vs0 Wx O W H D (if noXn (h.off ρ2) then .ok (.ct (h.off ρ2)) else .bad) := hw
      split at hw
      · rename_i hn
        intro σ2 O2 W2 H2 st2 sr2
        rw [dct]
        exact hw _ O2 W2 H2 (st.trans w st2) (dn hn sr2)
      · exact hw.elim
    | rt r ρ2 =>
      have hw : AftS G vs0 Wx O W H D (if noXn (h.off ρ2) then .ok (.rt r (h.off ρ2)) else .bad) := hw
      split at hw
      · rename_i hn
        intro v σ2 O2 W2 H2 st2 sr2 rr
        rw [drt]
        exact hw v _ O2 W2 H2 (st.trans w st2) (dn hn sr2) (rr.offs.re hK hc)
      · exact hw.elim
theorem sj_try {E : Str → Str → Option Bool} {body : List Stmt} {gb : Ss} {h0 : ExceptHandler} {hs : List ExceptHandler} {l : List Hd} {pos : Pos} (hx0 : ∀ b, cl.xof b = none) (hE : ∀ c h b, E c h = some b → PySem.W.exmOne X.K (.ref (cl.at' c)) (.ref (cl.at' h)) = some b)
    (hS : X.stack = X.env :: X.outer) (hF : X.env.frame = some X.env.locals) (hN : X.N.Nodup) (tk : Takes X Wx)
    (hb : ∀ (W : WX) (pn : List (Addr × Obj)) (xe : Value → Shared → Prop), Takes (X.tr pn xe) W → PassesOwn (model X.prog X.w) X.A X.env xe → BJ (X.tr pn xe) cl vs0 W body gb)
    (hh : HJ X cl vs0 (h0 :: hs) l) : SJ X cl vs0 Wx (.Try body (h0 :: hs) [] [] pos) (sTry E gb l) := by
  refine ⟨⟨_, ps_tryN (tb := fun W D σ H => ∃ O W' ρ, SR (gx X cl) vs0 O W' σ H ρ ∧ AftS (gx X cl) vs0 W O W' H D (gb ρ)) hS hF hN tk (fun W pn xe tk' pw => ?_) (hds_ok hh), fun O W σ H ρ D sr hw => ⟨O, W, ρ, sr, ?_⟩⟩⟩
  · refine ⟨fun pins s σ H D I h => ?_⟩
    obtain ⟨O, W', ρ, sr, hw⟩ := h
    obtain ⟨t, pt, q⟩ := (hb W pn xe tk' pw).ex
    exact pt.run pins s σ H D I (q O W' σ H ρ D sr hw)
  · unfold sTry at hw
    cases e : gb ρ with
    | bad => rw [e] at hw; exact hw
    | ok fl =>
      rw [e] at hw
      cases fl with
      | nx ρ' => exact hw
      | rt r ρ' => exact hw
      | bk ρ' => exact hw
      | ct ρ' => exact hw
    | exc c fs ρ' =>
      rw [e] at hw
      clear hh e
      intro σ' p gs O' W' H' st sr' hp hf
      have key : ∀ (l : List Hd), AftS (gx X cl) vs0 Wx O W H D (catchS E l c fs ρ') → wHds X.K Wx D (hdT X.K cl vs0 l) (.ref (cl.at' c)) (some p) σ' H' := by
        intro l
        induction l with
        | nil => intro hw; exact hw σ' p gs O' W' H' st sr' hp hf
        | cons h r ih =>
          intro hw
          have hw : AftS (gx X cl) vs0 Wx O W H D (match E c h.cn with
            | some true => flX h.off (h.g (h.into c fs ρ'))
            | some false => catchS E r c fs ρ'
            | none => .bad) := hw
          cases eb : E c h.cn with
          | none => rw [eb] at hw; exact hw.elim
          | some b =>
            rw [eb] at hw
            refine ⟨b, hE _ _ _ eb, fun hbt a na => ?_, fun hbf => ?_⟩
            · subst hbt
              have hw : AftS (gx X cl) vs0 Wx O W H D (flX h.off (h.g (h.into c fs ρ'))) := hw
              obtain ⟨cn, sl, g⟩ := h
              let cl' : Cl := ⟨cl.at', fun b => if b = a then some (c, p) else none, cl.tabs⟩
              have xo : XofOk cl cl' a (.ref (cl.at' c)) (some p) := ⟨rfl, rfl, fun b c' p' e => by
                have e : (if b = a then some (c, p) else none) = some (c', p') := e
                split at e
                · cases e; exact ⟨by assumption, rfl, rfl⟩
                · cases e⟩
              have up : ∀ {ρ σ O W H}, SR (gx X cl) vs0 O W σ H ρ → SR (gk X.K cl') vs0 O W σ H ρ := fun r => SR.re (G := gx X cl) (G' := gk X.K cl') rfl rfl rfl (.inl fun b q z => by
                have z : cl.xof b = some q := z
                rw [hx0] at z; cases z) r
              have fin := flX_core (G := gx X cl) (G' := gk X.K cl') (h := ⟨cn, sl, g⟩) rfl rfl rfl sr.wf st hw
              cases sl with
              | none => exact ⟨cl', O', W', ρ', xo, up sr', fin⟩
              | some i => exact ⟨cl', O', W', _, xo, (up sr').setX (c := c) (p := p) (show (if a = a then some (c, p) else none) = _ from if_pos rfl) hp.1 hp.2 (RpF.re (G := gx X cl) (G' := gk X.K cl') rfl rfl hf), fin⟩
            · subst hbf
              exact ih hw
      exact key l hw
/-- e.f of what was caught -/
def xFld (i : Nat) (cs : List Str) (f : Str) : Sx := fun ρ => match ρ[i]? with
  | some (.xn c fs) => if c ∈ cs then match fs.lookup f with
    | some d => .ok (.sh d, ρ)
    | none => .bad
    else .bad
  | _ => .bad
theorem RpF.look {G : Gx} {O : List Addr} {H : Hp} {f : Str} {d : D} : ∀ {fs : List (Str × D)} {gs : List (Str × V)}, RpF G O H fs gs → fs.lookup f = some d → ∃ v, gs.lookup f = some v ∧ Rp G O H d v
  | [], gs, _, e => by cases e
  | (n, d0) :: fs, gs, h, e => by
    simp only [RpF] at h
    obtain ⟨v, r, rfl, h1, h2⟩ := h
    rw [List.lookup_cons] at e ⊢
    by_cases hn : (f == n) = true
    · rw [hn] at e ⊢
      cases e
      exact ⟨v, rfl, h1⟩
    · rw [Bool.not_eq_true] at hn
      rw [hn] at e ⊢
      exact RpF.look h2 e
theorem ej_xf {a : Addr} {oe : Obj} {cls : Value} {d : Option Addr} {pn : List (Addr × Obj)} {cl' : Cl} {i : Nat} {e : Expr} {f : Str} {cs : List Str} {pos : Pos} (hz : Zc cls d oe) (hf : ∃ vs, oe.data = .fields vs) (hx : XofOk cl cl' a cls d)
    (hT : ∀ c ∈ cs, XfC X.K (cl.at' c) ∧ PySem.W.findIn X.K (.ref (cl.at' c)) f = some none) (he : PE (X.suite a ((a, oe) :: pn)) e (tVar i)) (hb : attributeBase e f X.env (eval e X.env) = eval e X.env := by rfl) :
    EJ (X.suite a ((a, oe) :: pn)) cl' vs0 Wx (.Attribute e f pos) (xFld i cs f) := by
  refine ⟨⟨fun σ H Q => ∃ c ∈ cs, tXf a cls d (cl.at' c) f (tVar i) σ H Q, ⟨fun pins s σ H Q I h => ?_⟩, fun O W σ H ρ Q sr hw => ?_⟩⟩
  · obtain ⟨c, hc, h⟩ := h
    exact (pe_xf (hT c hc).1 (hT c hc).2 hz hf he hb).run pins s σ H Q I h
  · unfold xFld at hw
    split at hw
    · rename_i c fs e0
      split at hw
      · rename_i hc
        obtain ⟨b, p, gs, ev, xb, hp, hn, hr⟩ := sr.slot i _ e0
        obtain ⟨rfl, rfl, rfl⟩ := hx.xof b c p xb
        split at hw
        · rename_i dd ed
          obtain ⟨v, e1, r1⟩ := RpF.look hr ed
          exact ⟨c, hc, .ref b, join_some ev, rfl, rfl, p, gs, v, rfl, hp, e1, hw v O W H Stp.refl sr r1⟩
        · exact hw.elim
      · exact hw.elim
    · exact hw.elim
end
end Wm
end

section
/-! Calls with keywords: what is written, put into the parameters' order, defaults among it. -/
namespace Wm
open PySem PySem.Spec PyProof.Rows L2
/-- where a parameter's value comes from -/
inductive SelI where
  | arg (j : Nat) | dfI (i : Int) | dfN
def pickA (as : List SD) : SelI → SD
  | .arg j => as[j]?.getD .no
  | .dfI i => .sh (.int i)
  | .dfN => .sh .non
def pickV (vs : List V) : SelI → V
  | .arg j => vs[j]?.getD .non
  | .dfI i => .int i
  | .dfN => .non
def unperm (inv : List Nat) (outs : List SD) : List SD := inv.map fun i => outs[i]?.getD .no
def permR (inv : List Nat) : Rs (SD × List SD) → Rs (SD × List SD)
  | .ok (r, outs) => .ok (r, unperm inv outs)
  | .exc c fs outs => .exc c fs (unperm inv outs)
  | .bad => .bad
def permF (sel : List SelI) (inv : List Nat) (F : Fn) : Fn := fun as => permR inv (F (sel.map (pickA as)))
def selB (m : Nat) (sel : List SelI) (inv : List Nat) : Bool :=
  inv.length == m && (List.range m).all (fun j => match inv[j]? with
    | some i => (match sel[i]? with
      | some (.arg k) => k == j
      | _ => false)
    | none => false) && (List.range sel.length).all (fun i => match sel[i]? with
    | some (.arg j) => inv[j]? == some i
    | _ => true)
theorem selB_len {m : Nat} {sel : List SelI} {inv : List Nat} (h : selB m sel inv = true) : inv.length = m := by
  unfold selB at h
  simp only [Bool.and_eq_true, beq_iff_eq] at h
  exact h.1.1
theorem selB_inv {m : Nat} {sel : List SelI} {inv : List Nat} (h : selB m sel inv = true) {i j : Nat} (e : inv[j]? = some i) : sel[i]? = some (.arg j) := by
  have hl := selB_len h
  unfold selB at h
  simp only [Bool.and_eq_true, beq_iff_eq, List.all_eq_true, List.mem_range] at h
  have hj : j < m := by have := (List.getElem?_eq_some_iff.mp e).1; omega
  have q := h.1.2 j hj
  rw [e] at q
  dsimp only at q
  cases es : sel[i]? with
  | none => rw [es] at q; cases q
  | some s =>
    rw [es] at q
    cases s with
    | arg k => have q : (k == j) = true := q; rw [beq_iff_eq] at q; rw [q]
    | dfI i => cases q
    | dfN => cases q
theorem selB_sel {m : Nat} {sel : List SelI} {inv : List Nat} (h : selB m sel inv = true) {i j : Nat} (e : sel[i]? = some (.arg j)) : inv[j]? = some i := by
  unfold selB at h
  simp only [Bool.and_eq_true, beq_iff_eq, List.all_eq_true, List.mem_range] at h
  have hi : i < sel.length := (List.getElem?_eq_some_iff.mp e).1
  have q := h.2 i hi
  rw [e] at q
  have q : (inv[j]? == some i) = true := q
  simpa using q
section
variable {G : Gx} {O W : List Addr} {H : Hp} {vs : List V}
theorem pickV_get {sel : List SelI} {i : Nat} {q : SelI} (e : sel[i]? = some q) : (sel.map (pickV vs))[i]? = some (pickV vs q) := by rw [List.getElem?_map, e]; rfl
theorem pv_join {sel : List SelI} {i : Nat} {q : SelI} (e : sel[i]? = some q) : (((sel.map (pickV vs)).map some)[i]?).join = some (pickV vs q) := by rw [List.getElem?_map, pickV_get e]; rfl
theorem vs_join {j : Nat} (h : j < vs.length) : ((vs.map some)[j]?).join = some (pickV vs (.arg j)) ∧ vs[j]? = some (pickV vs (.arg j)) := by
  have e : vs[j]? = some vs[j] := List.getElem?_eq_getElem h
  have p : pickV vs (.arg j) = vs[j] := by show vs[j]?.getD .non = _; rw [e]; rfl
  rw [List.getElem?_map, e, p]
  exact ⟨rfl, rfl⟩
theorem SR.perm {sel : List SelI} {inv : List Nat} {as : List SD} (ok : selB vs.length sel inv = true) (r : SR G vs O W (vs.map some) H as) : SR G (sel.map (pickV vs)) O W ((sel.map (pickV vs)).map some) H (sel.map (pickA as)) := by
  have la : as.length = vs.length := by have := r.len; rw [List.length_map] at this; exact this.symm
  have key : ∀ {i : Nat} {s : SD}, (sel.map (pickA as))[i]? = some s → ∃ q, sel[i]? = some q ∧ s = pickA as q := fun {i s} e => by
    rw [List.getElem?_map] at e
    obtain ⟨q, h1, h2⟩ := Option.map_eq_some_iff.mp e
    exact ⟨q, h1, h2.symm⟩
  have arg : ∀ {i j : Nat}, sel[i]? = some (.arg j) → j < vs.length ∧ as[j]? = some (pickA as (.arg j)) := fun {i j} e => by
    have hj : j < vs.length := by have := (List.getElem?_eq_some_iff.mp (selB_sel ok e)).1; rw [selB_len ok] at this; exact this
    refine ⟨hj, ?_⟩
    have e2 : as[j]? = some as[j] := List.getElem?_eq_getElem (by omega)
    show _ = some (as[j]?.getD .no)
    rw [e2]; rfl
  refine ⟨r.wf, by simp, fun i s e => ?_, fun i1 i2 s t a e1 e2 m1 m2 s1 s2 => ?_, r.tabs⟩
  · obtain ⟨q, h1, rfl⟩ := key e
    rw [pv_join h1, pickV_get h1]
    cases q with
    | arg j =>
      obtain ⟨hj, h2⟩ := arg h1
      have := r.slot j _ h2
      rw [(vs_join hj).1, (vs_join hj).2] at this
      exact this
    | dfI n => exact ⟨.int n, rfl, by simp only [Rp]⟩
    | dfN => exact ⟨.non, rfl, by simp only [Rp]⟩
  · obtain ⟨q1, h1, rfl⟩ := key e1
    obtain ⟨q2, h2, rfl⟩ := key e2
    have v1 := pv_join (vs := vs) h1
    have v2 := pv_join (vs := vs) h2
    rw [s1] at v1
    rw [s2] at v2
    cases q1 with
    | dfI n => cases m1
    | dfN => cases m1
    | arg j1 =>
      cases q2 with
      | dfI n => cases m2
      | dfN => cases m2
      | arg j2 =>
        obtain ⟨hj1, g1⟩ := arg h1
        obtain ⟨hj2, g2⟩ := arg h2
        have z := r.apart j1 j2 _ _ a g1 g2 m1 m2 (join_some (by rw [(vs_join hj1).1]; exact v1.symm)) (join_some (by rw [(vs_join hj2).1]; exact v2.symm))
        subst z
        have := (selB_sel ok h1).symm.trans (selB_sel ok h2)
        exact Option.some.inj this
theorem perm_back {sel : List SelI} {inv : List Nat} {outs : List SD} {j : Nat} {s : SD} (ok : selB vs.length sel inv = true) (lo : outs.length = sel.length) (e : (unperm inv outs)[j]? = some s) :
    ∃ i : Nat, sel[i]? = some (SelI.arg j) ∧ outs[i]? = some s ∧ j < vs.length := by
  unfold unperm at e
  rw [List.getElem?_map] at e
  obtain ⟨i, h1, h2⟩ := Option.map_eq_some_iff.mp e
  have h3 := selB_inv ok h1
  have hi : i < outs.length := by rw [lo]; exact (List.getElem?_eq_some_iff.mp h3).1
  have e2 : outs[i]? = some outs[i] := List.getElem?_eq_getElem hi
  rw [e2] at h2
  refine ⟨i, h3, e2.trans (congrArg some h2), ?_⟩
  have := (List.getElem?_eq_some_iff.mp h1).1
  rw [selB_len ok] at this
  exact this
theorem SR.unperm {sel : List SelI} {inv : List Nat} {outs : List SD} (ok : selB vs.length sel inv = true) (r : SR G (sel.map (pickV vs)) O W ((sel.map (pickV vs)).map some) H outs) : SR G vs O W (vs.map some) H (unperm inv outs) := by
  have lo : outs.length = sel.length := by have := r.len; simp at this; exact this.symm
  refine ⟨r.wf, by unfold Wm.unperm; rw [List.length_map, List.length_map, selB_len ok], fun j s e => ?_, fun j1 j2 s t a e1 e2 m1 m2 s1 s2 => ?_, r.tabs⟩
  · obtain ⟨i, h1, h2, hj⟩ := perm_back ok lo e
    have q := r.slot i s h2
    rw [pv_join h1, pickV_get h1] at q
    rw [(vs_join hj).1, (vs_join hj).2]
    exact q
  · obtain ⟨i1, h1, h2, hj1⟩ := perm_back ok lo e1
    obtain ⟨i2, g1, g2, hj2⟩ := perm_back ok lo e2
    have v1 := (vs_join hj1).1
    have v2 := (vs_join hj2).1
    rw [s1] at v1
    rw [s2] at v2
    have z := r.apart i1 i2 s t a h2 g2 m1 m2 (join_some (by rw [pv_join h1]; exact v1.symm)) (join_some (by rw [pv_join g1]; exact v2.symm))
    subst z
    have := h1.symm.trans g1
    cases this
    rfl
theorem ResR.unperm {sel : List SelI} {inv : List Nat} {outs : List SD} {v : V} {s : SD} (ok : selB vs.length sel inv = true) (r : SR G (sel.map (pickV vs)) O W ((sel.map (pickV vs)).map some) H outs) (h : ResR G O W ((sel.map (pickV vs)).map some) H outs v s) : ResR G O W (vs.map some) H (unperm inv outs) v s := by
  have lo : outs.length = sel.length := by have := r.len; simp at this; exact this.symm
  cases s with
  | no => exact h
  | byr xs => exact h
  | xn _ _ => exact h
  | gv => exact h
  | sh d => exact h
  | own xs =>
    obtain ⟨a, e, o, n⟩ := h
    refine ⟨a, e, o, fun j t q m z => ?_⟩
    obtain ⟨i, h1, h2, hj⟩ := perm_back ok lo q
    have v1 := (vs_join hj).1
    rw [z] at v1
    exact n i t h2 m (join_some (by rw [pv_join h1]; exact v1.symm))
theorem spF_perm {sel : List SelI} {inv : List Nat} {F : Fn} {m : Nat} {Q : VK} {E : XK} (ok : selB m sel inv = true) (h : spF G m (permF sel inv F) vs H Q E) : spF G sel.length F (sel.map (pickV vs)) H Q E := by
  obtain ⟨hl, O, W, as, sr, hw⟩ := h
  subst hl
  refine ⟨by simp, O, W, _, sr.perm ok, ?_⟩
  unfold permF at hw
  cases e : F (sel.map (pickA as)) with
  | bad => rw [e] at hw; exact hw
  | exc c fs outs =>
    rw [e] at hw
    exact fun p gs O' W' H' st sr' hp hf => hw p gs O' W' H' st (sr'.unperm ok) hp hf
  | ok q =>
    obtain ⟨r, outs⟩ := q
    rw [e] at hw
    exact fun v O' W' H' st sr' rr => hw v O' W' H' st (sr'.unperm ok) (rr.unperm ok sr')
end
/-- how a call with n values and keywords ks binds -/
structure KBs (K : PySem.W.Frag) (fd : FuncData) (ps : List Str) (n : Nat) (ks : List Str) (sel : List SelI) : Prop where
  ex : ∃ g, KBn K fd ps n ks g (fun vs zs => sel.map (pickV (vs ++ zs)))
def pickU (us : List Value) : Sum Nat Value → Value
  | .inl j => us[j]?.getD .none
  | .inr u => u
def selRel : List SelI → List (Sum Nat Value) → Prop
  | [], [] => True
  | .arg j :: r, .inl k :: t => j = k ∧ selRel r t
  | .dfI i :: r, .inr u :: t => (∃ k, u = .int i k) ∧ selRel r t
  | .dfN :: r, .inr u :: t => u = .none ∧ selRel r t
  | _, _ => False
theorem vals_get {vs : List V} {us : List Value} (h : Vals vs us) : ∀ j : Nat, RelV (vs[j]?.getD .non) (us[j]?.getD .none) := by
  induction h with
  | nil => intro j; exact rfl
  | cons h1 h2 ih =>
    intro j
    cases j with
    | zero => exact h1
    | succ j => exact ih j
theorem selRel_vals {vs : List V} {us : List Value} (h : Vals vs us) : ∀ {sel : List SelI} {su : List (Sum Nat Value)}, selRel sel su → Vals (sel.map (pickV vs)) (su.map (pickU us))
  | [], [], _ => .nil
  | .arg j :: r, .inl k :: t, q => by
    obtain ⟨rfl, q⟩ := q
    exact .cons (vals_get h j) (selRel_vals h q)
  | .dfI i :: r, .inr u :: t, q => by
    obtain ⟨⟨k, rfl⟩, q⟩ := q
    exact .cons ⟨k, rfl⟩ (selRel_vals h q)
  | .dfN :: r, .inr u :: t, q => by
    obtain ⟨rfl, q⟩ := q
    exact .cons rfl (selRel_vals h q)
theorem kbs_mk {K : PySem.W.Frag} {fd : FuncData} {ps : List Str} {n : Nat} {ks : List Str} {sel : List SelI} (su : List (Sum Nat Value)) (Dd : Addr) (dv : List (Str × Value)) (hr : selRel sel su) (hd : ∀ q ∈ dv, PySem.W.nsIn K Dd q.1 = some (some q.2))
    (h : ∀ us ws : List Value, us.length = n → ws.length = ks.length → KwChain Dd dv (bindArgs fd ⟨us, ks.zip ws⟩) (ps.zip (su.map (pickU (us ++ ws))))) : KBs K fd ps n ks sel :=
  ⟨fun us ws => su.map (pickU (us ++ ws)), ⟨fun s us ws X h1 h2 => BindsTo.of_looks fun M => KwChain.looks X hd (h us ws h1 h2), fun r1 r2 => selRel_vals (r1.append r2) hr⟩⟩
/-! ### the call -/
section
variable {X : Cx} {cl : Cl} {vs0 : List V} {Wx : WX} {k n : Nat} {f : Addr} {fd : FuncData} {ps ks : List Str} {x : Str} {p pos : Pos} {e : Expr} {es : List Expr} {kws : List Keyword} {fl : List LOp} {F : Fn} {sel : List SelI} {inv : List Nat} {m : Nat}
def tCallM (sp : Sp) (gV : List V → List V → List V) (E : L2.St → XK) (n m : Nat) (t tk : TA) : TE := fun σ H Q => t σ H fun vs H1 => tk σ H1 fun zs H2 => vs.length = n ∧ zs.length = m ∧ sp (gV vs zs) H2 Q (E σ)
theorem run_fnM {sp : Sp} {CX : CXT} {g : List Value → List Value → List Value} {gV : List V → List V → List V} {E : L2.St → XK} {pins : List (Addr × Obj)} {σ : L2.St} {H : Hp} {s : Shared} {Q : VK} {us ws : List Value} {vs zs : List V} (F : FnOk X.prog X.w X.K X.mg X.base CX k f fd ps sp) (hr : Room k X.A) (hb : KBn X.K fd ps n ks g gV) (hx : PassesAt CX X σ (E σ))
    (I : Inv X pins σ H s) (r : Vals vs us) (rz : Vals zs ws) (l1 : vs.length = n) (l2 : zs.length = ks.length) (h : sp (gV vs zs) H Q (E σ)) : wpAny (model X.prog X.w) X.A (call (.ref f) us (ks.zip ws)) (EP X pins σ Q) X.xe s := by
  refine wpAny_call (codeAny_mono (F.run X.A X.stack s H ⟨us, ks.zip ws⟩ (g us ws) (gV vs zs) Q (E σ) hr I.env0 (hb.to s us ws I.kIn (r.length.symm.trans l1) (rz.length.symm.trans l2)) (hb.rel r rz) h) fun q s' hq => ?_)
  match q, hq with
  | .error e, hq => exact hx pins H s e s' I hq
  | .ok (.ret u), hq => exact I.after hq
theorem pe_callM {sp : Sp} {CX : CXT} {g : List Value → List Value → List Value} {gV : List V → List V → List V} {E : L2.St → XK} {t tk : TA} (F : FnOk X.prog X.w X.K X.mg X.base CX k f fd ps sp) (hr : Room k X.A) (hg : Gl X x) (hm : X.mg x = some (.ref f)) (hk : PySem.W.keepIn X.K (.ref f) = true) (hb : KBn X.K fd ps n ks g gV) (hx : ∀ σ, PassesAt CX X σ (E σ))
    (ha : PA X (e :: es) t) (hkw : PK X kws tk) (hall : (backToKw pos (keywordEach kws X.env)).all (·.1.isSome) = true := by rfl) (hks : (backToKw pos (keywordEach kws X.env)).filterMap (·.1) = ks := by rfl)
    (hdb : (x == ("__debug__" : Str)) = false := by decide) (he : starEach (e :: es) X.env = (false, eval e X.env) :: starEach es X.env := by rfl)
    (hpl : ((backTo pos (starEach (e :: es) X.env)).any (·.1) || (backToKw pos (keywordEach kws X.env)).any (·.1.isNone)) = false := by rfl) :
    PE X (.Call (.Name x p) (e :: es) kws pos) (tCallM sp gV E n ks.length t tk) := by
  refine ⟨fun pins s σ H Q I h => wpAny_Call_Name_kw (ld_glob I hg hm ?_ hdb)⟩
  refine PySem.W.callWith_KW (h₀ := X.base) I.ok.mod.kin hk hall (thn (ha.run pos pins s σ H _ I h) fun us s1 q => ?_) hpl he
  obtain ⟨vs, H1, I1, r, q⟩ := q
  refine thn (hkw.run pos pins s1 σ H1 _ I1 q) fun ws s2 q2 => ?_
  obtain ⟨zs, H2, I2, rz, l1, l2, q2⟩ := q2
  refine ⟨I2.kIn, ?_⟩
  rw [hks]
  exact run_fnM F hr hb (hx σ) I2 r rz l1 l2 q2
theorem tAll_len : ∀ {ts : List TE} {σ : L2.St} {H : Hp} {R : List V → Hp → Prop}, tAll ts σ H R = tAll ts σ H fun vs H' => vs.length = ts.length ∧ R vs H'
  | [], σ, H, R => propext ⟨fun h => ⟨rfl, h⟩, fun h => h.2⟩
  | t :: ts, σ, H, R => by
    show t σ H (fun v H1 => tAll ts σ H1 fun vs H2 => R (v :: vs) H2) = t σ H fun v H1 => tAll ts σ H1 fun vs H2 => (v :: vs).length = (t :: ts).length ∧ R (v :: vs) H2
    congr 1
    funext v H1
    rw [tAll_len]
    congr 1
    funext vs H2
    simp only [List.length_cons, Nat.add_right_cancel_iff]
theorem tAll_app : ∀ {ts us : List TE} {σ : L2.St} {H : Hp} {R : List V → Hp → Prop}, tAll (ts ++ us) σ H R = tAll ts σ H fun vs H1 => tAll us σ H1 fun zs H2 => R (vs ++ zs) H2
  | [], us, σ, H, R => rfl
  | t :: ts, us, σ, H, R => by
    show t σ H (fun v H1 => tAll (ts ++ us) σ H1 fun vs H2 => R (v :: vs) H2) = t σ H fun v H1 => tAll ts σ H1 fun vs H2 => tAll us σ H2 fun zs H3 => R (v :: vs ++ zs) H3
    congr 1
    funext v H1
    exact tAll_app
inductive Stars (X : Cx) : List Expr → Prop
  | nil : Stars X []
  | cons {e : Expr} {es : List Expr} (h : starEach (e :: es) X.env = (false, eval e X.env) :: starEach es X.env) (r : Stars X es) : Stars X (e :: es)
theorem pes_split : ∀ {es fs : List Expr} {ts : List TE}, PEs X (es ++ fs) ts → ∃ t1 t2, ts = t1 ++ t2 ∧ PEs X es t1 ∧ PEs X fs t2
  | [], fs, ts, h => ⟨[], ts, rfl, .nil, h⟩
  | e :: es, fs, _, .cons h r => by
    obtain ⟨t1, t2, rfl, h1, h2⟩ := pes_split r
    exact ⟨_ :: t1, t2, rfl, .cons h h1, h2⟩
theorem pes_len : ∀ {es : List Expr} {ts : List TE}, PEs X es ts → ts.length = es.length
  | _, _, .nil => rfl
  | _, _, .cons _ r => congrArg (· + 1) (pes_len r)
theorem pes_pa : ∀ {es : List Expr} {ts : List TE}, PEs X es ts → Stars X es → PA X es (tAll ts)
  | _, _, .nil, _ => pa_nil
  | _, _, .cons h r, .cons q s => pa_cons h (pes_pa r s) q
theorem pes_pk : ∀ {kws : List Keyword} {ts : List TE}, PEs X (kws.map (·.value)) ts → PK X kws (tAll ts)
  | [], _, .nil => pk_nil
  | ⟨_, _, _⟩ :: kws, _, .cons h r => pk_cons h (pes_pk r)
/-- f(e, .., k = v, ..) -/
theorem ej_callK (hF : FnOk X.prog X.w X.K X.mg X.base (L2.CX X.prog X.w) k f fd ps (spF (gx X cl) sel.length F)) (hr : Room k X.A) (hg : Gl X x) (hm : X.mg x = some (.ref f)) (hk : PySem.W.keepIn X.K (.ref f) = true) (hb : KBs X.K fd ps (es.length + 1) ks sel) (tk : Takes X Wx)
    (hst : Stars X (e :: es)) (h : KJ X cl vs0 Wx (e :: es ++ kws.map (·.value)) fl) (ok : selB fl.length sel inv = true) (hall : (backToKw pos (keywordEach kws X.env)).all (·.1.isSome) = true := by rfl) (hks : (backToKw pos (keywordEach kws X.env)).filterMap (·.1) = ks := by rfl) (hkl : kws.length = ks.length := by rfl)
    (hdb : (x == ("__debug__" : Str)) = false := by decide) (he : starEach (e :: es) X.env = (false, eval e X.env) :: starEach es X.env := by rfl)
    (hpl : ((backTo pos (starEach (e :: es) X.env)).any (·.1) || (backToKw pos (keywordEach kws X.env)).any (·.1.isNone)) = false := by rfl) :
    EJ X cl vs0 Wx (.Call (.Name x p) (e :: es) kws pos) (xCall (permF sel inv F) fl) := by
  obtain ⟨ts, pe, _, q⟩ := h.ex
  obtain ⟨g, kb⟩ := hb.ex
  obtain ⟨t1, t2, rfl, h1, h2⟩ := pes_split pe
  refine ⟨⟨_, pe_callM (E := fun σ c d H => Wx c d σ H) hF hr hg hm hk kb (fun σ => passAt tk σ) (pes_pa h1 hst) (pes_pk h2) hall hks hdb he hpl, fun O W σ H ρ Q sr hw => ?_⟩⟩
  have z := call_core (F := permF sel inv F) rfl q O W σ H ρ Q (fun vs H1 => spF (gx X cl) sel.length F (sel.map (pickV vs)) H1 Q fun c d H' => Wx c d σ H') sr hw fun vs H1 h => spF_perm ok h
  have e1 : t1.length = es.length + 1 := pes_len h1
  have e2 : t2.length = ks.length := by rw [pes_len h2, List.length_map, hkl]
  rw [tAll_app, tAll_len] at z
  unfold tCallM
  rw [tAll_len]
  refine cast ?_ z
  congr 1
  funext vs H1
  refine propext (and_congr_right fun hl => ?_)
  rw [tAll_len]
  refine iff_of_eq ?_
  congr 1
  funext zs H2
  refine propext ⟨fun h => ⟨hl.trans e1, h.1.trans e2, h.2⟩, fun h => ⟨h.2.1.trans e2.symm, h.2.2⟩⟩
end
end Wm
end

section
/-! More operations: sorted, in, a dict without entries. -/
namespace Wm
open PySem PySem.Spec PyProof.Rows L2
section
variable {X : Cx} {cl : Cl} {vs0 : List V} {Wx : WX} {a b c e : Expr} {pos p2 : Pos} {fl : List LOp}
/-! ### sorted, of ints -/
def isrt (ns : List Int) : List Int := ns.mergeSort fun x y => decide (x ≤ y)
theorem isrt_perm (ns : List Int) : (isrt ns).Perm ns := List.mergeSort_perm ns _
theorem isrt_sorted (ns : List Int) : (isrt ns).Pairwise (· ≤ ·) := by
  have h := List.pairwise_mergeSort (le := fun (x y : Int) => decide (x ≤ y)) (fun x y z h1 h2 => by simp only [decide_eq_true_eq] at *; omega) (fun x y => by simp only [Bool.or_eq_true, decide_eq_true_eq]; omega) ns
  exact h.imp fun h => of_decide_eq_true h
theorem same_sorted {a b : List Int} (hp : a.Perm b) (ha : a.Pairwise (· ≤ ·)) (hb : b.Pairwise (· ≤ ·)) : a = b :=
  hp.eq_of_pairwise (fun x y _ _ h1 h2 => Int.le_antisymm h1 h2) ha hb
theorem isrt_of {ns ms : List Int} (h1 : ms.Perm ns) (h2 : ms.Pairwise (· ≤ ·)) : ms = isrt ns := same_sorted (h1.trans (isrt_perm ns).symm) h2 (isrt_sorted ns)
theorem isrt_self {ns : List Int} (h : ns.Pairwise (· ≤ ·)) : isrt ns = ns := (isrt_of (List.Perm.refl _) h).symm
abbrev pSorted := pIL fun ns => if ns.length ≤ sizeLine then .ok (.own ((isrt ns).map D.int)) else .bad
theorem pr_sorted : PrimR X cl (rSortedI X.K) pSorted := pr_IL fun O H a ns Q s hp => by
  split at hp
  · rename_i hl
    refine ⟨a, ns, rfl, s, fun ms p h1 h2 n => ?_⟩
    rw [isrt_of h1 h2]
    exact hp p _ _ (same_upd n) n upd_same (by rw [List.length_map, (isrt_perm ns).length_eq]; exact hl) RpA.ofInts
  · exact hp.elim
/-! ### {} -/
theorem ej_emp : EJ X cl vs0 Wx (.Dict [] [] pos) (xC .emp) := by
  refine ⟨⟨_, pe_dnewK, fun O W σ H ρ Q sr q d hd => ?_⟩⟩
  have sm : Same H (upd H d (.dK [])) := same_upd hd
  refine q (.ref d) O W _ (Stp.same sm) (sr.same sm) ?_
  show Rp (gx X cl) O (upd H d (.dK [])) .emp (.ref d)
  simp only [Rp]
  exact ⟨d, rfl, upd_same, fun z => sr.wf.trk d z (noD_none hd)⟩
/-! ### in, not in: a list -/
def pIn (neg : Bool) : List D → Rs SD
  | [x, .lst ys] => if okN 60 x = true ∧ okN 60 (.lst ys) = true then .ok (.sh (.bl (neg ^^ ys.any fun y => eqD y x))) else .bad
  | _ => .bad
theorem any_py {x : D} (hx : okN 60 x = true) : ∀ {ys : List D}, okNs 59 ys = true → ((pys ys).any fun z => PyData.eqv z x.py) = ys.any fun y => eqD y x
  | [], _ => rfl
  | y :: ys, h => by
    simp only [okNs, Bool.and_eq_true] at h
    simp only [pys, List.any_cons, eqD_py h.1 hx, any_py hx h.2]
theorem in_core {O W : List Addr} {H : Hp} {ds : List D} {vs : List V} {Q : VK} {neg : Bool} (ho : OpA (gx X cl) O W H ds vs) (hp : AftP (gx X cl) O H Q (pIn neg ds)) : ∃ v w, vs = [v, w] ∧ ∃ d es, Dp X.K H v d ∧ Dp X.K H w (.list es) ∧ SeqAt.shaped d = true ∧ SeqAt.shaped (.list es) = true ∧ Q (.bl (neg ^^ es.any fun z => PyData.eqv z d)) H := by
  unfold pIn at hp
  split at hp
  · rename_i x ys
    split at hp
    · rename_i h
      obtain ⟨v, w, rfl, h1, h2⟩ := ho.two
      have hy : okNs 59 ys = true := by have := h.2; simpa only [okN] using this
      refine ⟨v, w, rfl, x.py, pys ys, h1.dp h.1, h2.dp h.2, okD_shaped h.1, okD_shaped h.2, ?_⟩
      rw [any_py h.1 hy]
      exact hp _ H (Same.refl H) (by simp only [Rp])
    · exact hp.elim
  · exact hp.elim
theorem pr_in : PrimR X cl (rd2 (rInD X.K)) (pIn false) := fun O W H ds vs Q w ho hp => by
  obtain ⟨v, w, rfl, d, es, h1, h2, h3, h4, h5⟩ := in_core ho hp
  exact ⟨d, es, h1, h2, h3, h4, by simpa using h5⟩
theorem pr_notIn : PrimR X cl (rd2 (rNotInD X.K)) (pIn true) := fun O W H ds vs Q w ho hp => by
  obtain ⟨v, w, rfl, d, es, h1, h2, h3, h4, h5⟩ := in_core ho hp
  exact ⟨d, es, h1, h2, h3, h4, by simpa using h5⟩
theorem ej_in (hu : X.A.units + 65 < cLine) (h : OJ X cl vs0 Wx [a, b] fl) (hm : behindInMarks .In b = false := by rfl) : EJ X cl vs0 Wx (.Compare a [.In] [b] pos) (xPrim fl (pIn false)) := ej_cmp (op_inD hu) pr_in h hm
theorem ej_notIn (hu : X.A.units + 65 < cLine) (h : OJ X cl vs0 Wx [a, b] fl) (hm : behindInMarks .NotIn b = false := by rfl) : EJ X cl vs0 Wx (.Compare a [.NotIn] [b] pos) (xPrim fl (pIn true)) := ej_cmp (op_notInD hu) pr_notIn h hm
theorem tj_in (hu : X.A.units + 65 < cLine) (h : OJ X cl vs0 Wx [a, b] fl) (hm : behindInMarks .In b = false := by rfl) : TJ X cl vs0 Wx (.Compare a [.In] [b] pos) (bT (xPrim fl (pIn false))) := tj_cmp (op_inD hu) pr_in h hm
theorem tj_notIn (hu : X.A.units + 65 < cLine) (h : OJ X cl vs0 Wx [a, b] fl) (hm : behindInMarks .NotIn b = false := by rfl) : TJ X cl vs0 Wx (.Compare a [.NotIn] [b] pos) (bT (xPrim fl (pIn true))) := tj_cmp (op_notInD hu) pr_notIn h hm
/-! ### in, not in: range(n) -/
theorem cr_rng1 : CallR X (.type "range") (fun vs H Q => ∃ j, vs = [V.int j] ∧ ∀ p, H p = none → Q (.ref p) (upd H p (.rng 0 j))) := by
  intro pins s σ H vs us Q I r h
  obtain ⟨j, rfl, q⟩ := h
  obtain ⟨u1, rfl, t, rfl⟩ := vals1 r
  exact call_range_1 ⟨.ref s.heap.objs.size, upd H s.heap.objs.size (.rng 0 j), I.laid (t' := s.toks + 2) (fun b o e => Heap.get?_push_of_some _ e) (Nat.le_refl _) ⟨_, _, _, Heap.get?_push_size _ rfl⟩, rfl, q _ (I.hok.fresh (Nat.le_refl _))⟩
theorem op_notInRng : OpR X (compareOp .NotIn) (fun x y H Q => ∃ i a lo hi, x = V.int i ∧ y = V.ref a ∧ H a = some (.rng lo hi) ∧ Q (.bl (!decide (lo ≤ i ∧ i < hi))) H) := by
  intro pins s σ H x y v u Q I rx ry h
  obtain ⟨i, a, lo, hi, rfl, rfl, ha, q⟩ := h
  obtain ⟨k, rfl⟩ := rx
  obtain rfl : u = Value.ref a := ry
  obtain ⟨t1, t2, t3, ho⟩ := I.hok a _ ha
  show wpAny _ _ (do return Value.bool (!(← contains (Value.ref a) (Value.int i k)))) _ _ s
  have ty : s.heap.get? a = some { cls := .type "range", dict := none, data := .fields #[.int lo t1, .int hi t2, .int 1 t3], slots := #[] } := ho
  refine wpAny_bind (wpAny_contains_slot (T := "range") ⟨_, ty, rfl⟩ F.slot_range_contains ?_)
  refine call_meets F.slot_range_contains ⟨_, ty, rfl⟩ F.entry_range_contains (F.args_range_contains_2 _ _) (q_contains a lo hi i t1 t2 t3 k) ⟨ty, wpAny_truthy_bool (wpAny_pure ⟨.bl _, H, I, rfl, ?_⟩)⟩
  rw [place1]
  exact q
def pNotInR : List D → Rs SD
  | [.int i, .int n] => .ok (.sh (.bl (!decide (0 ≤ i ∧ i < n))))
  | _ => .bad
theorem ej_notInR {p p3 : Pos} (hg : Gl X "range") (hm : X.mg "range" = none) (h : OJ X cl vs0 Wx [a, b] fl) (hs : starEach [b] X.env = [(false, eval b X.env)] := by rfl) (hmk : behindInMarks .NotIn (.Call (.Name "range" p) [b] [] p3) = false := by rfl) :
    EJ X cl vs0 Wx (.Compare a [.NotIn] [.Call (.Name "range" p) [b] [] p3] pos) (xPrim fl pNotInR) := by
  obtain ⟨ta, tb, ha, hb, q⟩ := two_of h
  refine ⟨⟨_, pe_cmpR op_notInRng ha (pe_callTy cr_rng1 hg hm (by decide +kernel) (pa_cons hb pa_nil hs) (by decide) (by decide) hs) hmk, prim_core (rd := rd2 fun x y H Q => ∃ j, [y] = [V.int j] ∧ ∀ p, H p = none → ∃ i a lo hi, x = V.int i ∧ V.ref p = V.ref a ∧ upd H p (.rng 0 j) a = some (.rng lo hi) ∧ Q (.bl (!decide (lo ≤ i ∧ i < hi))) (upd H p (.rng 0 j))) (fun O W H ds vs Q w ho hp => ?_) q⟩⟩
  unfold pNotInR at hp
  split at hp
  · obtain ⟨x, y, rfl, h1, h2⟩ := ho.two
    exact ⟨_, by rw [h2.int], fun p n => ⟨_, p, 0, _, h1.int, rfl, upd_same, hp _ _ (same_upd n) (by simp only [Rp])⟩⟩
  · exact hp.elim
end
end Wm
end

section
/-! Refusals: what is known of their classes. -/
namespace Wm
open PySem PySem.Spec PyProof.Rows L2
def clsBody : Stmt → List Stmt
  | .ClassDef _ _ _ b _ _ _ _ _ _ _ => b
  | _ => []
def inS (st : Stmt) (i : Nat) : Stmt := (clsBody st).getD i (.Pass ⟨0, 0, 0, 0⟩)
/-- the class above, by its name -/
structure WayC (K : PySem.W.Frag) (mg : Str → Option Value) (x : Str) where
  C : Addr
  mc : Value
  m : mg x = some (.ref C)
  ga : PySem.W.specialIn K (.ref C) "__getattribute__" = some (some (.builtin "type.__getattribute__"))
  rd : PySem.W.readsIn K C mc = true
  vV : PySem.W.findCls K (.ref C) mc "__init__" = some (.val (.builtin "ValueError.__init__"))
/-- a refusal's class: its fields, its __init__ -/
structure ExcC (K : PySem.W.Frag) (mg : Str → Option Value) (cl : Cl) (c : Str) (fs : List Str) (qual : Str) (st : Stmt) where
  fI : Addr
  fd : FuncData
  m : mg c = some (.ref (cl.at' c))
  oex : OexC K (cl.at' c)
  nf : ∀ f ∈ fs, PySem.W.findIn K (.ref (cl.at' c)) f = some none
  iC : PySem.W.findIn K (.ref (cl.at' c)) "__init__" = some (some (.ref fI))
  tI : PySem.W.typeIn K (.ref fI) = some (.type "function")
  F : Fun K "__init__" qual st fI fd
  xf : XfC K (cl.at' c)
theorem exm_pair {K : PySem.W.Frag} {A B : Addr} {b : Bool} (h1 : PySem.W.subIn K (.ref B) (.type "BaseException") = some true) (h2 : PySem.W.isClsIn K B = true) (h3 : PySem.W.typeIn K (.ref B) = some (.type "type")) (h4 : PySem.W.subIn K (.ref A) (.ref B) = some b) : PySem.W.exmOne K (.ref A) (.ref B) = some b := by
  have e1 : (PySem.W.subIn K (.ref B) (.type "BaseException") == some true) = true := by rw [h1]; rfl
  have e2 : ((PySem.W.clsIn K B).isSome && PySem.W.typeIn K (.ref B) == some (.type "type")) = true := by
    rw [show (PySem.W.clsIn K B).isSome = true from h2, h3]; rfl
  unfold PySem.W.exmOne
  simp only [e1, if_true, PySem.W.kitCls, e2]
  exact h4
def AllM {α : Type} (P : α → Prop) : List α → Prop
  | [] => True
  | q :: r => P q ∧ AllM P r
theorem AllM.mem {α : Type} {P : α → Prop} : ∀ {l : List α}, AllM P l → ∀ q ∈ l, P q
  | q :: r, h, p, hp => by
    rcases List.mem_cons.mp hp with rfl | hp
    · exact h.1
    · exact AllM.mem h.2 p hp
abbrev Exm := List ((Str × Str) × Bool)
def exmL (t : Exm) (c h : Str) : Option Bool := match t with
  | [] => none
  | ((a, b), v) :: r => if a = c ∧ b = h then some v else exmL r c h
theorem exmL_mem : ∀ {t : Exm} {c h : Str} {b : Bool}, exmL t c h = some b → ((c, h), b) ∈ t
  | ((a, b'), v) :: r, c, h, b, e => by
    unfold exmL at e
    split at e
    · rename_i q
      obtain ⟨rfl, rfl⟩ := q
      cases e
      exact List.mem_cons_self
    · exact List.mem_cons_of_mem _ (exmL_mem e)
def ExmOk (K : PySem.W.Frag) (cl : Cl) (t : Exm) : Prop := AllM (fun q => PySem.W.exmOne K (.ref (cl.at' q.1.1)) (.ref (cl.at' q.1.2)) = some q.2) t
theorem ExmOk.get {K : PySem.W.Frag} {cl : Cl} {t : Exm} (h : ExmOk K cl t) : ∀ c x b, exmL t c x = some b → PySem.W.exmOne K (.ref (cl.at' c)) (.ref (cl.at' x)) = some b := fun c x b e => AllM.mem h ((c, x), b) (exmL_mem e)
def clOf (l : List (Str × Addr)) (ts : TC := {}) : Cl := ⟨fun c => (l.lookup c).getD 0, fun _ => none, ts⟩
theorem passF {X : Cx} {Wx : WX} (tk : Takes X Wx) : Passes (L2.CX X.prog X.w) X (fun _ _ _ => False) := fun pins σ H s e s' I h => by
  obtain ⟨_, _, _, _, _, _, _, _, _, _, _, _, z⟩ := h
  exact z.elim
theorem spI1_len {K : PySem.W.Frag} {C : Addr} {f : Str} : ∀ vs H Q E, spI1 K C f vs H Q E → vs.length = 2 := fun vs H Q E h => by
  obtain ⟨a, w, rfl, _⟩ := h
  rfl
end Wm
end

section
/-! any, all, min, max of lists and tuples. -/
namespace Wm
open PySem PySem.Spec PyProof.Rows L2
theorem walkK {prog : Program} {w : World} {A : Around} (k : Kd) (hh : A.handled = none) (it a : Addr) (hne : a ≠ it) (its : Array Value) : Walks prog w A it [it, a] [it] its.size (fun i v => its[i]? = some v) (fun i h => ItK h it a i k ∧ IsK h a its k) := by
  cases k
  · exact Walks.list hh it a hne its
  · exact Walks.tuple hh it a hne its
theorem IsK.push {h : Heap} {a : Addr} {its : Array Value} {k : Kd} (x : IsK h a its k) (o : Obj) : IsK (h.push o) a its k := by
  cases k
  · exact Heap.IsList.push x o
  · exact Heap.IsTuple.push x o
theorem iterK {prog : Program} {w : World} {A : Around} {E : Value → Shared → Prop} {s : Shared} {a : Addr} {its : Array Value} {k : Kd} {Q : Value → Shared → Prop} (h : IsK s.heap a its k) (q : Q (.ref s.heap.objs.size) { s with heap := s.heap.push (obK a k) }) : wpAny (model prog w) A (pyIter (.ref a)) Q E s := by
  cases k
  · exact wpAny_pyIter_list h q
  · exact wpAny_pyIter_tuple h q
/-- a number's or a truth's truth -/
def truV : V → Option Bool
  | .int i => some (i != 0)
  | .bl b => some b
  | _ => none
theorem truth_flat {prog : Program} {w : World} {A : Around} {xs : List V} {its : List Value} (r : Vals xs its) (tr : Nat → Bool) (h : ∀ (i : Nat) (x : V), xs[i]? = some x → truV x = some (tr i)) : TruthOf prog w A (fun i v => its.toArray[i]? = some v) tr := fun i v s Q E hv hq => by
  have hv' : its[i]? = some v := by simpa using hv
  have key : ∀ {xs : List V} {its : List Value} {i : Nat} {v : Value}, Vals xs its → its[i]? = some v → ∃ x, xs[i]? = some x ∧ RelV x v := by
    intro xs its i v r
    induction r generalizing i with
    | nil => intro e; cases e
    | cons h1 h2 ih =>
      intro e
      cases i with
      | zero => cases e; exact ⟨_, rfl, h1⟩
      | succ i => exact ih e
  obtain ⟨x, e, rx⟩ := key r hv'
  have ht := h i x e
  cases x with
  | int n =>
    obtain ⟨t, rfl⟩ := rx
    injection ht with ht
    rw [← ht] at hq
    exact truthy_int hq
  | bl b =>
    obtain rfl : v = .bool b := rx
    injection ht with ht
    rw [← ht] at hq
    exact wpAny_truthy_bool hq
  | _ => cases ht
section
variable {X : Cx} {cl : Cl} {vs0 : List V} {Wx : WX} {a b c e : Expr} {pos p2 : Pos} {fl : List LOp}
def rAnyK (K : PySem.W.Frag) (f : List Bool → Bool) : List V → Hp → VK → Prop := fun vs H Q => ∃ (a : Addr) (k : Kd) (xs : List V) (bs : List Bool), vs = [V.ref a] ∧ SqK K H a xs k ∧ xs.length = bs.length ∧ (∀ (i : Nat) (x : V), xs[i]? = some x → truV x = some (bs.getD i false)) ∧ Q (.bl (f bs)) H
theorem cr_anyK (hc : X.calm = true) : CallR X (.builtin "any") (rAnyK X.K fun bs => bs.any id) := by
  intro pins s σ H vs us Q I r h
  obtain ⟨a, k, xs, bs, rfl, hs, hl, ht, q⟩ := h
  obtain ⟨its, rv, hk⟩ := seqK I hs
  rw [Vals.ref1 r]
  refine call_any_walk (iterK hk ⟨_, _, _, _, _, _, _, rfl, walkK (A := X.A.in1) k (I.ok.hd hc) _ a (Nat.ne_of_lt hk.lt) its.toArray, ⟨obK_it (Heap.get?_push_size _ (by cases k <;> rfl)), hk.push _⟩, truth_flat rv _ ht, fun h' tk hkp => ?_⟩)
  refine ⟨.bl _, H, I.kept fun b o eo => hkp b o (fun hm => ?_) (Heap.get?_push_of_some _ eo), ?_, q⟩
  · rcases List.mem_cons.mp hm with e1 | hm
    · exact absurd (e1 ▸ Heap.lt_size eo) (Nat.lt_irrefl _)
    · cases hm
  · show Value.bool _ = Value.bool _
    dsimp only
    rw [← L2.any_range, List.size_toArray, ← rv.length, hl]
theorem cr_allK (hc : X.calm = true) : CallR X (.builtin "all") (rAnyK X.K fun bs => bs.all id) := by
  intro pins s σ H vs us Q I r h
  obtain ⟨a, k, xs, bs, rfl, hs, hl, ht, q⟩ := h
  obtain ⟨its, rv, hk⟩ := seqK I hs
  rw [Vals.ref1 r]
  refine call_all_walk (iterK hk ⟨_, _, _, _, _, _, _, rfl, walkK (A := X.A.in1) k (I.ok.hd hc) _ a (Nat.ne_of_lt hk.lt) its.toArray, ⟨obK_it (Heap.get?_push_size _ (by cases k <;> rfl)), hk.push _⟩, truth_flat rv _ ht, fun h' tk hkp => ?_⟩)
  refine ⟨.bl _, H, I.kept fun b o eo => hkp b o (fun hm => ?_) (Heap.get?_push_of_some _ eo), ?_, q⟩
  · rcases List.mem_cons.mp hm with e1 | hm
    · exact absurd (e1 ▸ Heap.lt_size eo) (Nat.lt_irrefl _)
    · cases hm
  · show Value.bool _ = Value.bool _
    dsimp only
    rw [← L2.all_range, List.size_toArray, ← rv.length, hl]
def trB : D → Bool
  | .int i => i != 0
  | .bl b => b
  | _ => false
def okB : D → Bool
  | .int _ => true
  | .bl _ => true
  | _ => false
def pAnyK (f : List Bool → Bool) : List D → Rs SD
  | [.tup xs] => if xs.all okB then .ok (.sh (.bl (f (xs.map trB)))) else .bad
  | [.lst xs] => if xs.all okB then .ok (.sh (.bl (f (xs.map trB)))) else .bad
  | _ => .bad
abbrev pAny := pAnyK fun bs => bs.any id
abbrev pAll := pAnyK fun bs => bs.all id
theorem okB_tr {G : Gx} {O : List Addr} {H : Hp} {ds : List D} {vs : List V} (r : RpA G O H ds vs) (h : ds.all okB = true) : ∀ (i : Nat) (x : V), vs[i]? = some x → truV x = some ((ds.map trB).getD i false) := fun i x e => by
  obtain ⟨d, ed, rd⟩ := r.getV e
  have ho : okB d = true := List.all_eq_true.mp h d (List.mem_of_getElem? ed)
  rw [List.getD_eq_getElem?_getD, List.getElem?_map, ed]
  cases d with
  | int i => simp only [Rp] at rd; subst rd; rfl
  | bl b => simp only [Rp] at rd; subst rd; rfl
  | _ => cases ho
theorem pr_anyK (f : List Bool → Bool) : PrimR X cl (rAnyK X.K f) (pAnyK f) := by
  intro O W H ds vs Q w ho hp
  unfold pAnyK at hp
  split at hp
  · split at hp
    · rename_i xs hk
      obtain ⟨v, rfl, h1⟩ := ho.one
      obtain ⟨a, us, rfl, t, r⟩ := h1.tup
      exact ⟨a, .t, us, _, rfl, t.sq, by rw [List.length_map, r.length], okB_tr r hk, hp _ H (Same.refl H) (by simp only [Rp])⟩
    · exact hp.elim
  · split at hp
    · rename_i xs hk
      obtain ⟨v, rfl, h1⟩ := ho.one
      obtain ⟨a, us, rfl, t, _, r⟩ := h1.lst
      exact ⟨a, .l, us, _, rfl, SqL.of t, by rw [List.length_map, r.length], okB_tr r hk, hp _ H (Same.refl H) (by simp only [Rp])⟩
    · exact hp.elim
  · exact hp.elim
/-! ### min, max -/
def maxL : List Int → Int
  | [] => 0
  | [x] => x
  | x :: y :: r => let m := maxL (y :: r); if x < m then m else x
def minL : List Int → Int
  | [] => 0
  | [x] => x
  | x :: y :: r => let m := minL (y :: r); if m < x then m else x
theorem maxL_spec : ∀ (ns : List Int), 0 < ns.length → maxL ns ∈ ns ∧ ∀ y ∈ ns, y ≤ maxL ns
  | [x], _ => by simp [maxL]
  | x :: y :: r, _ => by
    have ih := maxL_spec (y :: r) (by simp)
    simp only [maxL]
    split
    · refine ⟨List.mem_cons_of_mem _ ih.1, fun z hz => ?_⟩
      rcases List.mem_cons.mp hz with rfl | hz
      · omega
      · exact ih.2 z hz
    · refine ⟨List.mem_cons_self, fun z hz => ?_⟩
      rcases List.mem_cons.mp hz with rfl | hz
      · omega
      · have := ih.2 z hz; omega
theorem minL_spec : ∀ (ns : List Int), 0 < ns.length → minL ns ∈ ns ∧ ∀ y ∈ ns, minL ns ≤ y
  | [x], _ => by simp [minL]
  | x :: y :: r, _ => by
    have ih := minL_spec (y :: r) (by simp)
    simp only [minL]
    split
    · refine ⟨List.mem_cons_of_mem _ ih.1, fun z hz => ?_⟩
      rcases List.mem_cons.mp hz with rfl | hz
      · omega
      · exact ih.2 z hz
    · refine ⟨List.mem_cons_self, fun z hz => ?_⟩
      rcases List.mem_cons.mp hz with rfl | hz
      · omega
      · have := ih.2 z hz; omega
def pMax : List D → Rs SD
  | [.int i, .int j] => .ok (.sh (.int (if i < j then j else i)))
  | [.lst ds] => match asInts ds with
    | some ns => if 0 < ns.length then .ok (.sh (.int (maxL ns))) else .bad
    | none => .bad
  | _ => .bad
def pMin : List D → Rs SD
  | [.int i, .int j] => .ok (.sh (.int (if j < i then j else i)))
  | [.lst ds] => match asInts ds with
    | some ns => if 0 < ns.length then .ok (.sh (.int (minL ns))) else .bad
    | none => .bad
  | _ => .bad
theorem call_maxD (hc : X.calm = true) : CallR X (.builtin "max") (fun xs H Q => (∃ i j, xs = [.int i, .int j] ∧ Q (.int (if j > i then j else i)) H) ∨ rMax X.K xs H Q) := (call_max2 hc).or (cr_max hc)
theorem call_minD (hc : X.calm = true) : CallR X (.builtin "min") (fun xs H Q => (∃ i j, xs = [.int i, .int j] ∧ Q (.int (if j < i then j else i)) H) ∨ rMin X.K xs H Q) := (call_min2 hc).or (cr_min hc)
theorem pr_max : PrimR X cl (fun xs H Q => (∃ i j, xs = [.int i, .int j] ∧ Q (.int (if j > i then j else i)) H) ∨ rMax X.K xs H Q) pMax := by
  intro O W H ds vs Q w ho hp
  unfold pMax at hp
  split at hp
  · obtain ⟨v, u, rfl, h1, h2⟩ := ho.two
    exact .inl ⟨_, _, by rw [h1.int, h2.int], hp _ H (Same.refl H) (by simp only [Rp])⟩
  · split at hp
    · split at hp
      · rename_i ns e hl
        obtain ⟨v, rfl, h1⟩ := ho.one
        rw [asInts_eq e] at h1
        obtain ⟨a, us, rfl, t, _, r⟩ := h1.lst
        rw [r.ints] at t
        refine .inr ⟨a, ns, rfl, SqL.of t, hl, fun m h1 h2 => ?_⟩
        have sp := maxL_spec ns hl
        rw [show m = maxL ns from Int.le_antisymm (sp.2 m h1) (h2 _ sp.1)]
        exact hp _ H (Same.refl H) (by simp only [Rp])
      · exact hp.elim
    · exact hp.elim
  · exact hp.elim
theorem pr_min : PrimR X cl (fun xs H Q => (∃ i j, xs = [.int i, .int j] ∧ Q (.int (if j < i then j else i)) H) ∨ rMin X.K xs H Q) pMin := by
  intro O W H ds vs Q w ho hp
  unfold pMin at hp
  split at hp
  · obtain ⟨v, u, rfl, h1, h2⟩ := ho.two
    exact .inl ⟨_, _, by rw [h1.int, h2.int], hp _ H (Same.refl H) (by simp only [Rp])⟩
  · split at hp
    · split at hp
      · rename_i ns e hl
        obtain ⟨v, rfl, h1⟩ := ho.one
        rw [asInts_eq e] at h1
        obtain ⟨a, us, rfl, t, _, r⟩ := h1.lst
        rw [r.ints] at t
        refine .inr ⟨a, ns, rfl, SqL.of t, hl, fun m h1 h2 => ?_⟩
        have sp := minL_spec ns hl
        rw [show m = minL ns from Int.le_antisymm (h2 _ sp.1) (sp.2 m h1)]
        exact hp _ H (Same.refl H) (by simp only [Rp])
      · exact hp.elim
    · exact hp.elim
  · exact hp.elim
theorem tj_notInR {p p3 : Pos} (hg : Gl X "range") (hm : X.mg "range" = none) (h : OJ X cl vs0 Wx [a, b] fl) (hs : starEach [b] X.env = [(false, eval b X.env)] := by rfl) (hmk : behindInMarks .NotIn (.Call (.Name "range" p) [b] [] p3) = false := by rfl) :
    TJ X cl vs0 Wx (.Compare a [.NotIn] [.Call (.Name "range" p) [b] [] p3] pos) (bT (xPrim fl pNotInR)) := by
  obtain ⟨ta, tb, ha, hb, q⟩ := two_of h
  refine ⟨⟨_, pt_cmpR op_notInRng ha (pe_callTy cr_rng1 hg hm (by decide +kernel) (pa_cons hb pa_nil hs) (by decide) (by decide) hs) hmk, fun O W σ H ρ Q sr hw => ?_⟩⟩
  refine prim_core (rd := rd2 fun x y H Q => ∃ j, [y] = [V.int j] ∧ ∀ p, H p = none → ∃ i a lo hi, x = V.int i ∧ V.ref p = V.ref a ∧ upd H p (.rng 0 j) a = some (.rng lo hi) ∧ Q (.bl (!decide (lo ≤ i ∧ i < hi))) (upd H p (.rng 0 j))) (fun O W H ds vs Q w ho hp => ?_) q O W σ H ρ _ sr (tst_core hw)
  unfold pNotInR at hp
  split at hp
  · obtain ⟨x, y, rfl, h1, h2⟩ := ho.two
    exact ⟨_, by rw [h2.int], fun p n => ⟨_, p, 0, _, h1.int, rfl, upd_same, hp _ _ (same_upd n) (by simp only [Rp])⟩⟩
  · exact hp.elim
end
end Wm
end

section
/-! The end for any classes; evaluation of what came behind k04. -/
namespace Wm
open PySem PySem.Spec PyProof.Rows L2
def spA (K : PySem.W.Frag) (n : Nat) (F : Fn) : Sp := fun vs H Q E => ∀ cl : Cl, cl.tabs = {} → spF (gk K cl) n F vs H Q E
theorem spA_sp {K : PySem.W.Frag} {F : Fn} {H : Hp} {a : Addr} {ns : List Int} (hl : ns.length ≤ 63) (hS : SqL K H a (ns.map V.int)) (hF : ∃ ρ, F [.sh (.scr ns)] = .ok (.sh (.bl true), ρ)) :
    spA K 1 F [.ref a] H (fun v _ => v = .bl true) fun _ _ _ => False := fun cl ht => law_sp hl hS (KT.nil ht) hF
theorem spA_ok {P : Program} {w : World} {K : PySem.W.Frag} {mg : Str → Option Value} {base : Heap} {CX : CXT} {k n : Nat} {f : Addr} {fd : FuncData} {ps : List Str} {cl : Cl} {F : Fn} (h : FnOk P w K mg base CX k f fd ps (spF (gk K cl) n F)) (ht : cl.tabs = {} := by rfl) : FnOk P w K mg base CX k f fd ps (spA K n F) := h.imp fun vs H Q E q => q cl ht
/-! ### calls with keywords -/
@[simp] theorem permF_ap (sel : List SelI) (inv : List Nat) (F : Fn) (as : List SD) : permF sel inv F as = permR inv (F (sel.map (pickA as))) := (rfl)
@[simp] theorem permR_ok (inv : List Nat) (r : SD) (outs : List SD) : permR inv (.ok (r, outs)) = .ok (r, inv.map fun i => outs[i]?.getD .no) := (rfl)
@[simp] theorem permR_exc (inv : List Nat) (c : Str) (fs : List (Str × D)) (outs : List SD) : permR inv (.exc c fs outs) = .exc c fs (inv.map fun i => outs[i]?.getD .no) := (rfl)
@[simp] theorem pickA_arg (as : List SD) (j : Nat) : pickA as (.arg j) = as[j]?.getD .no := (rfl)
@[simp] theorem pickA_dfI (as : List SD) (j : Int) : pickA as (.dfI j) = .sh (.int j) := (rfl)
@[simp] theorem pickA_dfN (as : List SD) : pickA as .dfN = .sh .non := (rfl)
/-! ### refusals -/
@[simp] theorem sRaise1_ap (c f : Str) (fx : Sx) (ρ : List SD) : sRaise1 c f fx ρ = (mops [fx] ρ).bind fun q => excOne c f q.2 q.1 := (rfl)
@[simp] theorem excOne_ev (c f : Str) (ρ : List SD) (d : D) : excOne c f ρ [d] = .exc c [(f, d)] ρ := (rfl)
@[simp] theorem leave_exc (n : Nat) (c : Str) (fs : List (Str × D)) (ρ : List SD) : Rs.leave n (.exc c fs ρ) = .exc c fs (trim n ρ) := (rfl)
@[simp] theorem home_exc (ps : List (SD × Option Nat)) (ρ : List SD) (c : Str) (fs : List (Str × D)) (as : List SD) : Rs.home ps ρ (.exc c fs as) = .exc c fs (backAll ps as ρ) := (rfl)
@[simp] theorem homeT_exc (ρ : List SD) (c : Str) (fs : List (Str × D)) (as : List SD) : Rs.homeT ρ (.exc c fs as) = .exc c fs ρ := (rfl)
def tryR (E : Str → Str → Option Bool) (hs : List Hd) : Rs Fl → Rs Fl
  | .exc c fs ρ => catchS E hs c fs ρ
  | r => r
@[simp] theorem sTry_ap (E : Str → Str → Option Bool) (gb : Ss) (hs : List Hd) (ρ : List SD) : sTry E gb hs ρ = tryR E hs (gb ρ) := by
  unfold sTry tryR
  rfl
@[simp] theorem tryR_ok (E : Str → Str → Option Bool) (hs : List Hd) (fl : Fl) : tryR E hs (.ok fl) = .ok fl := (rfl)
@[simp] theorem tryR_exc (E : Str → Str → Option Bool) (hs : List Hd) (c : Str) (fs : List (Str × D)) (ρ : List SD) : tryR E hs (.exc c fs ρ) = catchS E hs c fs ρ := (rfl)
@[simp] theorem catch_nil (E : Str → Str → Option Bool) (c : Str) (fs : List (Str × D)) (ρ : List SD) : catchS E [] c fs ρ = .exc c fs ρ := (rfl)
def catchO (E : Str → Str → Option Bool) (h : Hd) (r : List Hd) (c : Str) (fs : List (Str × D)) (ρ : List SD) : Option Bool → Rs Fl
  | some true => flX h.off (h.g (h.into c fs ρ))
  | some false => catchS E r c fs ρ
  | none => .bad
@[simp] theorem catch_cons (E : Str → Str → Option Bool) (h : Hd) (r : List Hd) (c : Str) (fs : List (Str × D)) (ρ : List SD) : catchS E (h :: r) c fs ρ = catchO E h r c fs ρ (E c h.cn) := by
  unfold catchO
  rw [catchS]
  try (rcases E c h.cn with _ | b <;> first | rfl | (cases b <;> rfl))
@[simp] theorem catchO_true (E : Str → Str → Option Bool) (h : Hd) (r : List Hd) (c : Str) (fs : List (Str × D)) (ρ : List SD) : catchO E h r c fs ρ (some true) = flX h.off (h.g (h.into c fs ρ)) := (rfl)
@[simp] theorem catchO_false (E : Str → Str → Option Bool) (h : Hd) (r : List Hd) (c : Str) (fs : List (Str × D)) (ρ : List SD) : catchO E h r c fs ρ (some false) = catchS E r c fs ρ := (rfl)
@[simp] theorem into_none (cn : Str) (g : Ss) (c : Str) (fs : List (Str × D)) (ρ : List SD) : Hd.into ⟨cn, none, g⟩ c fs ρ = ρ := (rfl)
@[simp] theorem into_some (cn : Str) (i : Nat) (g : Ss) (c : Str) (fs : List (Str × D)) (ρ : List SD) : Hd.into ⟨cn, some i, g⟩ c fs ρ = ρ.set i (.xn c fs) := (rfl)
@[simp] theorem off_none (cn : Str) (g : Ss) (ρ : List SD) : Hd.off ⟨cn, none, g⟩ ρ = ρ := (rfl)
@[simp] theorem off_some (cn : Str) (i : Nat) (g : Ss) (ρ : List SD) : Hd.off ⟨cn, some i, g⟩ ρ = ρ.set i .no := (rfl)
@[simp] theorem flX_nx (o : List SD → List SD) (ρ : List SD) : flX o (.ok (.nx ρ)) = if noXn (o ρ) then .ok (.nx (o ρ)) else .bad := (rfl)
@[simp] theorem flX_rt (o : List SD → List SD) (r : SD) (ρ : List SD) : flX o (.ok (.rt r ρ)) = if noXn (o ρ) then .ok (.rt r (o ρ)) else .bad := (rfl)
@[simp] theorem noXn_nil : noXn [] = true := (rfl)
@[simp] theorem noXn_no (r : List SD) : noXn (.no :: r) = noXn r := (rfl)
@[simp] theorem noXn_sh (d : D) (r : List SD) : noXn (.sh d :: r) = noXn r := (rfl)
@[simp] theorem noXn_own (d : List D) (r : List SD) : noXn (.own d :: r) = noXn r := (rfl)
@[simp] theorem noXn_byr (d : List D) (r : List SD) : noXn (.byr d :: r) = noXn r := (rfl)
def fldO (cs : List Str) (f : Str) (ρ : List SD) : Option SD → Rs (SD × List SD)
  | some (.xn c fs) => if c ∈ cs then (match fs.lookup f with
    | some d => .ok (.sh d, ρ)
    | none => .bad) else .bad
  | _ => .bad
@[simp] theorem xFld_ap (i : Nat) (cs : List Str) (f : Str) (ρ : List SD) : xFld i cs f ρ = fldO cs f ρ ρ[i]? := by
  unfold xFld fldO
  cases ρ[i]? with
  | none => rfl
  | some s =>
    cases s with
    | xn c fs =>
      first
      | (dsimp only; done)
      | (dsimp only
         by_cases h : c ∈ cs
         · rw [if_pos h, if_pos h]
           try (cases fs.lookup f <;> rfl)
         · rw [if_neg h, if_neg h])
    | _ => rfl
@[simp] theorem fldO_one (c f : Str) (d : D) (ρ : List SD) : fldO [c] f ρ (some (.xn c [(f, d)])) = .ok (.sh d, ρ) := by
  unfold fldO
  simp
/-! ### operations -/
@[simp] theorem pAnyK_tup (f : List Bool → Bool) (xs : List D) : pAnyK f [.tup xs] = if xs.all okB then .ok (.sh (.bl (f (xs.map trB)))) else .bad := (rfl)
@[simp] theorem pAnyK_lst (f : List Bool → Bool) (xs : List D) : pAnyK f [.lst xs] = if xs.all okB then .ok (.sh (.bl (f (xs.map trB)))) else .bad := (rfl)
@[simp] theorem pMax_two (i j : Int) : pMax [.int i, .int j] = .ok (.sh (.int (if i < j then j else i))) := (rfl)
@[simp] theorem pMin_two (i j : Int) : pMin [.int i, .int j] = .ok (.sh (.int (if j < i then j else i))) := (rfl)
@[simp] theorem pNotInR_ev (i n : Int) : pNotInR [.int i, .int n] = .ok (.sh (.bl (!decide (0 ≤ i ∧ i < n)))) := (rfl)
@[simp] theorem pIn_ev (neg : Bool) (x : D) (ys : List D) : pIn neg [x, .lst ys] = if okN 60 x = true ∧ okN 60 (.lst ys) = true then .ok (.sh (.bl (neg ^^ ys.any fun y => eqD y x))) else .bad := (rfl)
@[simp] theorem varV_none (i : Nat) (ρ : List SD) : varV i ρ (some .no) = .bad := (rfl)
@[simp] theorem truL_one (ρ : List SD) (d : D) : truL ρ [d] = match truD d with | some b => .ok (b, ρ) | none => .bad := (rfl)
@[simp] theorem truD_bl (b : Bool) : truD (.bl b) = some b := (rfl)
@[simp] theorem truD_int (i : Int) : truD (.int i) = some (i != 0) := (rfl)
@[simp] theorem truD_non : truD .non = some false := (rfl)
@[simp] theorem truD_tup (xs : List D) : truD (.tup xs) = some (!xs.isEmpty) := (rfl)
@[simp] theorem truD_lst (xs : List D) : truD (.lst xs) = some (!xs.isEmpty) := (rfl)
@[simp] theorem eqD_bl (a b : Bool) : eqD (.bl a) (.bl b) = (a == b) := (rfl)
@[simp] theorem eqD_str (a b : Str) : eqD (.str a) (.str b) = (a == b) := (rfl)
@[simp] theorem eqD_non : eqD .non .non = true := (rfl)
@[simp] theorem okN_str (n : Nat) (x : Str) : okN n (.str x) = PyData.strOk x := by cases n <;> rfl
@[simp] theorem kept_byr (xs : List D) : keptSD (some (.byr xs)) = .no := (rfl)
@[simp] theorem tst_exc (c : Str) (fs : List (Str × D)) (ρ : List SD) : Rs.tst (.exc c fs ρ) = .exc c fs ρ := (rfl)
/-! ### blocks over lists -/
section
variable {S α : Type} {m : Itm} {st : Tg} {test : Sb} {elt : Sx} {vs : List Nat}
theorem lc_mapL {g f : α → D} {ρ : List SD} : ∀ {xs : List α}, (∀ x ∈ xs, ∀ k, lcTg m test elt vs k (st (g x) ρ) = (k ρ).bind fun q => .ok (f x :: q.1, q.2)) → lcL m st test elt vs (xs.map g) ρ = .ok (xs.map f, ρ)
  | [], _ => rfl
  | x :: xs, h => by
    rw [List.map_cons, lcL_cons, h x (by simp), lc_mapL fun y hy => h y (List.mem_cons_of_mem _ hy)]
    rfl
theorem lc_filterL {g f : α → D} {p : α → Bool} {ρ : List SD} : ∀ {xs : List α}, (∀ x ∈ xs, ∀ k, lcTg m test elt vs k (st (g x) ρ) = if p x then (k ρ).bind fun q => .ok (f x :: q.1, q.2) else k ρ) → lcL m st test elt vs (xs.map g) ρ = .ok ((xs.filter p).map f, ρ)
  | [], _ => rfl
  | x :: xs, h => by
    rw [List.map_cons, lcL_cons, h x (by simp), lc_filterL fun y hy => h y (List.mem_cons_of_mem _ hy)]
    cases hp : p x with
    | true => simp [hp]
    | false => simp [hp]
theorem zip_ints (xs ys : List Int) : zipD (xs.map D.int) (ys.map D.int) = (xs.zip ys).map fun p => D.tup [.int p.1, .int p.2] := by
  unfold zipD
  induction xs generalizing ys with
  | nil => rfl
  | cons x xs ih =>
    cases ys with
    | nil => rfl
    | cons y ys => simp [ih]
theorem enum_map {g : α → D} (xs : List α) : enumD (xs.map g) = xs.zipIdx.map fun p => D.tup [.int (p.2 : Nat), g p.1] := by
  unfold enumD
  refine List.ext_getElem? fun i => ?_
  simp only [List.getElem?_mapIdx, List.getElem?_map, List.getElem?_zipIdx]
  cases xs[i]? <;> simp
/-- a loop whose turns go on, or return one thing -/
theorem for_ret {body : Ss} {g : α → D} {p : α → Bool} {r : SD} (I : List SD → Prop) : ∀ {xs : List α}, (∀ x ∈ xs, ∀ ρ, I ρ → ∃ ρ', I ρ' ∧ ∀ k, forT body k (st (g x) ρ) = if p x then k ρ' else .ok (.rt r ρ')) → ∀ {ρ : List SD}, I ρ → ∃ ρ', I ρ' ∧ forL st body (xs.map g) ρ = if xs.all p then .ok (.nx ρ') else .ok (.rt r ρ')
  | [], _, ρ, hi => ⟨ρ, hi, rfl⟩
  | x :: xs, h, ρ, hi => by
    obtain ⟨ρ1, h1, e1⟩ := h x (by simp) ρ hi
    cases hp : p x with
    | true =>
      obtain ⟨ρ2, h2, e2⟩ := for_ret I (xs := xs) (fun y hy => h y (List.mem_cons_of_mem _ hy)) h1
      refine ⟨ρ2, h2, ?_⟩
      rw [List.map_cons, forL_cons, e1, hp, if_pos rfl, e2]
      simp [hp]
    | false =>
      refine ⟨ρ1, h1, ?_⟩
      rw [List.map_cons, forL_cons, e1, hp]
      simp [hp]
theorem for_ret_use {body : Ss} {g : α → D} {p : α → Bool} {r : SD} {xs : List α} {ρ : List SD} {L : Rs Fl} (hL : forL st body (xs.map g) ρ = L) (I : List SD → Prop) (hi : I ρ) (h : ∀ x ∈ xs, ∀ ρ, I ρ → ∃ ρ', I ρ' ∧ ∀ k, forT body k (st (g x) ρ) = if p x then k ρ' else .ok (.rt r ρ')) : ∃ ρ', I ρ' ∧ L = if xs.all p then .ok (.nx ρ') else .ok (.rt r ρ') := by
  obtain ⟨ρ', h1, h2⟩ := for_ret I h hi
  exact ⟨ρ', h1, hL.symm.trans h2⟩
end
/-- a loop whose turns go on, or stop in some way -/
theorem for_stop {α : Type} {st : Tg} {body : Ss} {g : α → D} {p : α → Bool} {r : α → List SD → Rs Fl} (I : List SD → Prop) : ∀ {xs : List α}, (∀ x ∈ xs, ∀ ρ, I ρ → ∃ ρ', I ρ' ∧ ∀ k, forT body k (st (g x) ρ) = if p x then k ρ' else r x ρ') → ∀ {ρ : List SD}, I ρ → ∃ ρ', I ρ' ∧ forL st body (xs.map g) ρ = match xs.find? (fun x => !p x) with | none => .ok (.nx ρ') | some x => r x ρ'
  | [], _, ρ, hi => ⟨ρ, hi, rfl⟩
  | x :: xs, h, ρ, hi => by
    obtain ⟨ρ1, h1, e1⟩ := h x (by simp) ρ hi
    cases hp : p x with
    | true =>
      obtain ⟨ρ2, h2, e2⟩ := for_stop I (xs := xs) (fun y hy => h y (List.mem_cons_of_mem _ hy)) h1
      refine ⟨ρ2, h2, ?_⟩
      rw [List.map_cons, forL_cons, e1, hp, if_pos rfl, e2, List.find?_cons_of_neg (by simp [hp])]
    | false =>
      refine ⟨ρ1, h1, ?_⟩
      rw [List.map_cons, forL_cons, e1, hp, List.find?_cons_of_pos (by simp [hp])]
      rfl
theorem forK_stop {α : Type} {m : Itm} {st : Tg} {body : Ss} {g : α → D} {p : α → Bool} {r : α → List SD → Rs Fl} (I : List SD → Prop) (hk : ∀ ρ, I ρ → m.keep ρ) : ∀ {xs : List α}, (∀ x ∈ xs, ∀ ρ, I ρ → ∃ ρ', I ρ' ∧ ∀ k, forT body k (st (g x) ρ) = if p x then k ρ' else r x ρ') → ∀ {ρ : List SD}, I ρ → ∃ ρ', I ρ' ∧ forK m st body (xs.map g) ρ = match xs.find? (fun x => !p x) with | none => .ok (.nx ρ') | some x => r x ρ'
  | [], _, ρ, hi => ⟨ρ, hi, by rw [List.map_nil, forK_nil, if_pos (hk ρ hi)]; rfl⟩
  | x :: xs, h, ρ, hi => by
    obtain ⟨ρ1, h1, e1⟩ := h x (by simp) ρ hi
    cases hp : p x with
    | true =>
      obtain ⟨ρ2, h2, e2⟩ := forK_stop I hk (xs := xs) (fun y hy => h y (List.mem_cons_of_mem _ hy)) h1
      refine ⟨ρ2, h2, ?_⟩
      rw [List.map_cons, forK_cons, if_pos (hk ρ hi), e1, hp, if_pos rfl, e2, List.find?_cons_of_neg (by simp [hp])]
    | false =>
      refine ⟨ρ1, h1, ?_⟩
      rw [List.map_cons, forK_cons, if_pos (hk ρ hi), e1, hp, List.find?_cons_of_pos (by simp [hp])]
      rfl
theorem for_stop_use {α : Type} {st : Tg} {body : Ss} {g : α → D} {p : α → Bool} {r : α → List SD → Rs Fl} {xs : List α} {ρ : List SD} {L : Rs Fl} (hL : forL st body (xs.map g) ρ = L) (I : List SD → Prop) (hi : I ρ) (h : ∀ x ∈ xs, ∀ ρ, I ρ → ∃ ρ', I ρ' ∧ ∀ k, forT body k (st (g x) ρ) = if p x then k ρ' else r x ρ') : ∃ ρ', I ρ' ∧ L = match xs.find? (fun x => !p x) with | none => .ok (.nx ρ') | some x => r x ρ' := by
  obtain ⟨ρ', h1, h2⟩ := for_stop I h hi
  exact ⟨ρ', h1, hL.symm.trans h2⟩
theorem forK_stop_use {α : Type} {m : Itm} {st : Tg} {body : Ss} {g : α → D} {p : α → Bool} {r : α → List SD → Rs Fl} {xs : List α} {ρ : List SD} {L : Rs Fl} (hL : forK m st body (xs.map g) ρ = L) (I : List SD → Prop) (hk : ∀ ρ, I ρ → m.keep ρ) (hi : I ρ) (h : ∀ x ∈ xs, ∀ ρ, I ρ → ∃ ρ', I ρ' ∧ ∀ k, forT body k (st (g x) ρ) = if p x then k ρ' else r x ρ') : ∃ ρ', I ρ' ∧ L = match xs.find? (fun x => !p x) with | none => .ok (.nx ρ') | some x => r x ρ' := by
  obtain ⟨ρ', h1, h2⟩ := forK_stop I hk h hi
  exact ⟨ρ', h1, hL.symm.trans h2⟩
/-- the first of a list that is none -/
theorem find_bad {α : Type} {p : α → Bool} {pre post : List α} {d : α} (h1 : ∀ x ∈ pre, p x = true) (h2 : p d = false) : (pre ++ (d :: post)).zipIdx.find? (fun x => !p x.1) = some (d, pre.length) := by
  rw [List.zipIdx_append, List.find?_append, List.find?_eq_none.mpr]
  · rw [List.zipIdx_cons, List.find?_cons_of_pos (by simp [h2])]
    simp
  · intro x hx
    obtain ⟨a, i⟩ := x
    have := List.fst_mem_of_mem_zipIdx hx
    simp [h1 a this]
theorem find_none {α : Type} {p : α → Bool} {xs : List α} (h1 : ∀ x ∈ xs, p x = true) : xs.zipIdx.find? (fun x => !p x.1) = none := by
  rw [List.find?_eq_none]
  intro x hx
  obtain ⟨a, i⟩ := x
  have := List.fst_mem_of_mem_zipIdx hx
  simp [h1 a this]
theorem whl_succ (t : Sb) (body : Ss) (n : Nat) (ρ : List SD) : whl t body (n + 1) ρ = (t ρ).bind fun p => if p.1 then (body p.2).bind (Fl.turn (whl t body n)) else .ok (.nx p.2) := by
  rw [whl]
  refine congrArg _ (funext fun p => ?_)
  split
  · refine congrArg _ (funext fun fl => ?_)
    cases fl <;> rfl
  · rfl
@[simp] theorem sWhile_ap (fuel : List SD → Nat) (t : Sb) (body : Ss) (ρ : List SD) : sWhile fuel t body ρ = whl t body (fuel ρ) ρ := (rfl)
end Wm
end

section
/-! x(lambda: e): a def that asks what it got. -/
namespace Wm
open PySem PySem.Spec PyProof.Rows L2
section
variable {X : Cx} {cl : Cl} {vs0 : List V} {Wx : WX}
/-! ### steps that leave all lists alone -/
section
variable {G : Gx} {O W O' W' : List Addr} {H H' : Hp} {σ : L2.St} {ρ : List SD}
theorem Stp.quiet (s : Stp O [] H O' W' H') : Stp O W H O' W H' :=
  ⟨fun b o e _ ht => s.keep b o e (by simp) ht, fun b h => .inl h, s.onew, s.trk, fun b h _ => s.ofz b h (by simp)⟩
theorem quiet_obj (w : Wf O W H) (s : Stp O [] H O' W' H') {b : Addr} {o : HO} (hb : b ∈ W) (e : H b = some o) : H' b = some o :=
  s.keep b o e (by simp) fun ps z => w.trk b (w.sub b hb) fun o' e' => ⟨ps, by rw [e] at e'; cases e'; exact z⟩
theorem SR.quiet (r : SR G vs0 O W σ H ρ) (s : Stp O [] H O' W' H') (w' : Wf O' W' H') (tb : KT0 G.tabs H') : SR G vs0 O' W σ H' ρ :=
  r.step ⟨fun b hb => s.ofz b (r.wf.sub b hb) (by simp), w'.trk⟩ s.quiet (fun _ h => h) (fun b o hb e => quiet_obj r.wf s hb e) tb
theorem KT0.quiet {T T' : TC} (k : KT0 T H) (h : KT0 T' H') (e : T'.tabs = T.tabs) (s : Stp O [] H O' W' H') : KT0 T H' :=
  ⟨e ▸ h.t, fun p hp => s.keep _ _ (k.c p hp) (by simp) LamX.codeO_ne⟩
/-- all but the tables stay -/
theorem Stp.extN (e : LamX.ExtN H H') : Stp O W H O W H' :=
  ⟨fun b o h _ ht => e b o h ht, fun b h => .inl h, fun b h => .inl h, fun b h z => h fun o ho => by
    by_cases q : ∃ ps, o = .tbl ps
    · exact q
    · exact z o (e b o ho fun ps y => q ⟨ps, y⟩), fun b h _ => h⟩
theorem SR.extN (r : SR G vs0 O W σ H ρ) (e : LamX.ExtN H H') (t : LamX.Tabs G.tabs.tabs H') : SR G vs0 O W σ H' ρ :=
  r.step ⟨r.wf.sub, fun b hb => (Stp.extN (O := O) (W := W) e).trk b (r.wf.trk b hb)⟩ (Stp.extN e) (fun _ h => h)
    (fun b o hb h => e b o h fun ps z => r.wf.trk b (r.wf.sub b hb) fun o' e' => ⟨ps, by rw [h] at e'; cases e'; exact z⟩)
    ⟨t, fun p hp => e _ _ (r.tabs.tc.c p hp) LamX.codeO_ne⟩
/-! ### what a lambda has caught -/
def frz1 (ρ : List SD) (i : Nat) : List SD := match ρ[i]? with
  | some (.own xs) => ρ.set i (.sh (.lst xs))
  | some (.byr xs) => ρ.set i (.sh (.lst xs))
  | _ => ρ
def frzAt : List Nat → List SD → List SD
  | [], ρ => ρ
  | i :: r, ρ => frzAt r (frz1 ρ i)
theorem SR.frz1 (r : SR G vs0 O W σ H ρ) (i : Nat) : ∃ O' W', Stp O W H O' W' H ∧ SR G vs0 O' W' σ H (frz1 ρ i) := by
  unfold Wm.frz1
  split
  · rename_i xs e
    obtain ⟨a, O', W', _, st, sr, _⟩ := r.demote e (.inl rfl)
    exact ⟨O', W', st, sr⟩
  · rename_i xs e
    obtain ⟨a, O', W', _, st, sr, _⟩ := r.demote e (.inr rfl)
    exact ⟨O', W', st, sr⟩
  · exact ⟨O, W, Stp.refl, r⟩
theorem SR.frzAt : ∀ (is : List Nat) {O W : List Addr} {ρ : List SD}, SR G vs0 O W σ H ρ → ∃ O' W', Stp O W H O' W' H ∧ SR G vs0 O' W' σ H (frzAt is ρ)
  | [], O, W, ρ, r => ⟨O, W, Stp.refl, r⟩
  | i :: is, O, W, ρ, r => by
    obtain ⟨O1, W1, s1, r1⟩ := r.frz1 i
    obtain ⟨O2, W2, s2, r2⟩ := SR.frzAt is r1
    exact ⟨O2, W2, s1.trans r.wf s2, r2⟩
def keep1 : SD → SD
  | .sh d => .sh d
  | _ => .no
def viewN (is : List Nat) : Nat → List SD → List SD
  | _, [] => []
  | k, s :: r => (if k ∈ is then keep1 s else .no) :: viewN is (k + 1) r
theorem viewN_len {is : List Nat} : ∀ {k : Nat} {ρ : List SD}, (viewN is k ρ).length = ρ.length
  | k, [] => rfl
  | k, s :: r => congrArg (· + 1) viewN_len
theorem viewN_get {is : List Nat} : ∀ {k : Nat} {ρ : List SD} {i : Nat} {s : SD}, (viewN is k ρ)[i]? = some s → s = .no ∨ ∃ d, s = .sh d ∧ k + i ∈ is ∧ ρ[i]? = some (.sh d)
  | k, [], i, s, h => by cases h
  | k, t :: r, 0, s, h => by
    have h : some (if k ∈ is then keep1 t else .no) = some s := h
    split at h
    · rename_i q
      cases h
      cases t with
      | sh d => exact .inr ⟨d, rfl, q, rfl⟩
      | no => exact .inl rfl
      | own xs => exact .inl rfl
      | byr xs => exact .inl rfl
      | xn _ _ => exact .inl rfl
      | gv => exact .inl rfl
    · cases h; exact .inl rfl
  | k, t :: r, i + 1, s, h => by
    rcases viewN_get (k := k + 1) (ρ := r) (i := i) h with q | ⟨d, q1, q2, q3⟩
    · exact .inl q
    · exact .inr ⟨d, q1, by rw [show k + (i + 1) = k + 1 + i by omega]; exact q2, q3⟩
def knowOf (is : List Nat) (ρ : List SD) (σ : L2.St) : List (D × V) := is.filterMap fun i => match (ρ[i]? : Option SD), (σ[i]? : Option (Option V)) with
  | some (SD.sh d), some (some v) => some (d, v)
  | _, _ => none
theorem knowOf_rp {is : List Nat} (r : SR G vs0 O W σ H ρ) : ∀ q ∈ knowOf is ρ σ, Rp G O H q.1 q.2 := fun q hq => by
  unfold knowOf at hq
  obtain ⟨i, _, e⟩ := List.mem_filterMap.mp hq
  split at e
  · rename_i d v e1 e2
    cases e
    obtain ⟨w, h1, h2⟩ := r.get e1
    rw [e2] at h1; cases h1
    exact h2
  · cases e
theorem knowOf_mem {is : List Nat} {i : Nat} {d : D} (hi : i ∈ is) (r : SR G vs0 O W σ H ρ) (e : ρ[i]? = some (.sh d)) : ∃ v, σ[i]? = some (some v) ∧ (d, v) ∈ knowOf is ρ σ := by
  obtain ⟨w, h1, h2⟩ := r.get e
  refine ⟨w, h1, List.mem_filterMap.mpr ⟨i, hi, ?_⟩⟩
  rw [e, h1]
theorem view_sr {is : List Nat} {O2 W2 : List Addr} {H2 : Hp} (r : SR G vs0 O W σ H ρ) (w : Wf O2 W2 H2) (k : ∀ q ∈ knowOf is ρ σ, Rp G O2 H2 q.1 q.2) (t : KT G O2 H2) : SR G vs0 O2 [] σ H2 (viewN is 0 ρ) := by
  refine ⟨⟨fun b hb => absurd hb (by simp), w.trk⟩, by rw [viewN_len, r.len], fun i s e => ?_, fun i j s u a e1 e2 m1 m2 s1 s2 => ?_, t⟩
  · rcases viewN_get e with q | ⟨d, q1, q2, q3⟩
    · subst q; trivial
    · subst q1
      rw [Nat.zero_add] at q2
      obtain ⟨v, e1, e2⟩ := knowOf_mem q2 r q3
      exact ⟨v, by rw [e1]; rfl, k _ e2⟩
  · rcases viewN_get e1 with q | ⟨d, q1, _⟩
    · subst q; cases m1
    · subst q1; cases m1
end
/-! ### the asking -/
def askO : Rs (SD × List SD) → List SD → Rs (SD × List SD)
  | .ok (r, _), ρ => .ok (.sh r.frz, ρ)
  | .exc c fs _, ρ => .exc c fs ρ
  | .bad, _ => .bad
def xAsk (out : Rs (SD × List SD)) : Sx := fun ρ => match (ρ[(0 : Nat)]? : Option SD) with
  | some SD.gv => askO out ρ
  | _ => .bad
def lamR (ρ : List SD) : Rs Fl → Rs (SD × List SD)
  | .ok (.rt r _) => .ok (.sh r.frz, ρ)
  | .ok (.nx _) => .ok (.sh .non, ρ)
  | _ => .bad
def xLam (is : List Nat) (n : Nat) (gA : Sx → Ss) (fl : Sx) : Sx := fun ρ =>
  lamR (frzAt is ρ) (gA (xAsk (fl (viewN is 0 (frzAt is ρ)))) (.gv :: List.replicate (n - 1) .no))
/-- x(), in the def that got the lambda -/
theorem lam_act {ZC : CXT} {ZE : XK} {NZ : List Str} {nz : Str} {scz : Scope} {z f c' : Addr} {cz pmv tv : Value} {prm : Arguments} {bd : Expr} {sc : Scope} {k i : Nat} {a : Str} {pn : List (Addr × Obj)} {xe : Value → Shared → Prop} {W : WX} {t : XK → TE} {p1 p2 : Pos}
    {pins : List (Addr × Obj)} {σ : L2.St} {H : Hp} {s : Shared} (I : Inv X pins σ H s) (ls : LamX.LamS X.env.scope sc)
    (of : s.heap.get? f = some (PySem.W.kla_obj "<lambda>" (X.env.qual ++ "<lambda>") prm bd sc (cloFrom X.env.cells sc.names []) pmv c' tv)) (nf : H f = none) (rf : f ∉ frs X.stack)
    (hbd : bindArgs (PySem.W.kla_fn "<lambda>" (X.env.qual ++ "<lambda>") prm bd sc (cloFrom X.env.cells sc.names []) pmv (.ref c') tv) ⟨[], []⟩ = pure [])
    (tk : Takes ((cxOf ZC X.prog X.w X.K X.mg X.base NZ nz scz z cz X.A X.stack s H ZE).tr pn xe) W) (room : Room (k + 1) (X.A.deeper (envOfC nz scz s.heap.objs.size z cz)))
    (body : ∀ (E : XK) (A : Around) (outer : List Env) (s : Shared) (H : Hp), Room k (A.deeper (LamX.lamEnv X sc s.heap.objs.size f c')) → PE (LamX.lamCx X A outer s H E sc f c') bd (t E))
    (hat : NZ[i]? = some a) (vis : Vis scz a) (d1 : (a == ("__debug__" : Str)) = false) (d2 : (a == ("__classdict__" : Str)) = false) :
    PE ((cxOf ZC X.prog X.w X.K X.mg X.base NZ nz scz z cz X.A X.stack s H ZE).tr pn xe) (.Call (.Name a p1) [] [] p2)
      (fun τ J Q => τ[i]? = some (some (.ref f)) ∧ J c' = some (LamX.CodeO c' (X.env.qual ++ "<lambda>")) ∧ t (WE W τ) σ J Q) := by
  refine ⟨fun ps1 s1 τ J Q K1 hw => ?_⟩
  obtain ⟨w1, w2, w3⟩ := hw
  refine wpAny_Call_Name_kw (thn ((pe_var (pos := p1) (i := i) hat vis d1 d2).run ps1 s1 τ J (fun v J' => v = .ref f ∧ J' = J) K1 ⟨.ref f, w1, rfl, rfl⟩) fun u s2 hu => ?_)
  obtain ⟨v, J', K2, ru, q1, q2⟩ := hu
  subst q1 q2
  obtain rfl : u = Value.ref f := ru
  have of2 : s2.heap.get? f = some (PySem.W.kla_obj "<lambda>" (X.env.qual ++ "<lambda>") prm bd sc (cloFrom X.env.cells sc.names []) pmv c' tv) := K2.base.keep f _ of nf rf fun y => nomatch (show f ∈ ([] : List Addr) from y)
  refine PySem.W.callWith_F0 ⟨_, _, _, _, of2⟩ ?_
  obtain ⟨⟨oc, fv, ft, h1, h2, h3⟩, _⟩ := K2.hok c' _ w2
  have go : codeAny (model X.prog X.w) (X.A.deeper (envOfC nz scz s.heap.objs.size z cz)) (.call (.ref f) ⟨[], []⟩)
      (CR (L2.CX X.prog X.w) (envOfC nz scz s.heap.objs.size z cz :: X.stack) X.prog X.w J' s2 Q (WE W τ)) s2 := by
    refine PySem.W.kla_callFunE room.depth of2 rfl ls.co ls.gen rfl ⟨c', oc, fv, ft, rfl, h1, h2, h3⟩ ?_
    rw [hbd]
    refine wpAny_pure (wpAny_newFunctionEnv (fun y hy => (ls.own y hy).2) (fun y hy => absurd hy (by simp)) (fun hh ns sb => ⟨K2.nolimit.fresh _ sb, ?_⟩) ls.kind)
    have old : ∀ b o, s2.heap.get? b = some o → hh.get? b = some o := fun b o e => sb.extBut b o (Nat.ne_of_lt (Heap.lt_size e)) (Heap.get?_push_of_some _ e)
    refine PySem.W.kla_codeExpr (wpAny_mono ((body (WE W τ) _ _ s2 J' (room.deeper _)).run [] _ _ J' Q (LamX.lam_start2 I ls K2.env0 room.hd K2.base ns old) w3) (fun r s3 hr => ?_) fun e s3 he => he)
    obtain ⟨r', J3, K3, rr, hq⟩ := hr
    exact ⟨r', J3, K3.os, K3.bare, K3.base, K3.hok, rr, hq⟩
  refine wpAny_call (codeAny_mono go fun r s3 hr => ?_)
  cases r with
  | error e => exact passAt tk τ ps1 J' s2 e s3 K2 hr
  | ok fl =>
    cases fl with
    | ret u => exact K2.after hr
    | next => exact hr.elim
    | brk => exact hr.elim
    | cont => exact hr.elim
/-- the classes of the caller, in the def that asks -/
abbrev askC (cl : Cl) (tb : TC) : Cl := ⟨cl.at', fun _ => none, tb⟩
/-- x(lambda: e) -/
theorem ej_lam {is : List Nat} {x a : Str} {z c P : Addr} {k : Nat} {stA : Stmt} {fd : FuncData} {NZ : List Str} {prm : Arguments} {bd : Expr} {sc : Scope} {gA : Sx → Ss} {fl : Sx} {p lpos pos : Pos}
    (hg : Gl X x) (hm : X.mg x = some (.ref z)) (F : Fun X.K x x stA z fd) (hb : L2.Binds X.K fd [a] []) (S : FnScope NZ [a] (defScope stA)) (hat : NZ[0]? = some a) (vis : Vis (defScope stA) a)
    (hA : ∀ (cdv : Value) (A : Around) (outer : List Env) (s : Shared) (H : Hp) (f : Addr) (E : XK) (tb : TC) (ak : Sx), tb.tabs = cl.tabs.tabs → Room (k + 1) (A.deeper (envOfC x (defScope stA) s.heap.objs.size z cdv)) →
      (∀ (W : WX) (pn : List (Addr × Obj)) (xe : Value → Shared → Prop) (p1 p2 : Pos), Takes ((cxOf (L2.CX X.prog X.w) X.prog X.w X.K X.mg X.base NZ x (defScope stA) z cdv A outer s H E).tr pn xe) W →
        EJ ((cxOf (L2.CX X.prog X.w) X.prog X.w X.K X.mg X.base NZ x (defScope stA) z cdv A outer s H E).tr pn xe) (askC cl tb) [.ref f] W (.Call (.Name a p1) [] [] p2) ak) →
      BJ (cxOf (L2.CX X.prog X.w) X.prog X.w X.K X.mg X.base NZ x (defScope stA) z cdv A outer s H E) (askC cl tb) [.ref f] (wxE E) (defBody stA) (gA ak))
    (TB : LamX.TabB X.base X.mg c P) (hcode : X.env.code = .ref c) (hmT : (P, X.env.qual ++ "<lambda>") ∈ cl.tabs.tabs) (hu : ∀ p ∈ cl.tabs.tabs, p.1 = P → p.2 = X.env.qual ++ "<lambda>")
    (room : Room (k + 2) X.A) (ls : LamX.LamS X.env.scope sc) (hdef : defaultsOf prm X.env = ([], []))
    (hbd : ∀ (q : Str) (cs : List (Str × Addr)) (pm cv ctv : Value), bindArgs (PySem.W.kla_fn "<lambda>" q prm bd sc cs pm cv ctv) ⟨[], []⟩ = pure [])
    (body : ∀ (E : XK) (A : Around) (outer : List Env) (s : Shared) (H : Hp) (f c' : Addr), Room k (A.deeper (LamX.lamEnv X sc s.heap.objs.size f c')) → EJ (LamX.lamCx X A outer s H E sc f c') cl vs0 (wxE E) bd fl)
    (hdb : (x == ("__debug__" : Str)) = false := by decide) (d1 : (a == ("__debug__" : Str)) = false := by decide) (d2 : (a == ("__classdict__" : Str)) = false := by decide) :
    EJ X cl vs0 Wx (.Call (.Name x p) [.Lambda prm bd sc lpos] [] pos) (xLam is NZ.length gA fl) := by
  refine ⟨⟨fun σ H Q => ∃ O W ρ, SR (gx X cl) vs0 O W σ H ρ ∧ AftE (gx X cl) vs0 Wx O W σ H Q (xLam is NZ.length gA fl ρ), ⟨fun pins s σ H Q I hw => ?_⟩, fun O W σ H ρ Q sr hw => ⟨O, W, ρ, sr, hw⟩⟩⟩
  obtain ⟨O, W, ρ, sr, hw⟩ := hw
  unfold xLam at hw
  obtain ⟨O1, W1, st1, sr1⟩ := sr.frzAt is
  generalize frzAt is ρ = ρ1 at hw sr1
  refine wpAny_Call_Name_kw (ld_glob I hg hm ?_ hdb)
  refine PySem.W.callWith_K (h₀ := X.base) I.ok.mod.kin F.kp ?_ (by rfl) (by rfl)
  show wpAny _ _ (spliced ((false, eval (.Lambda prm bd sc lpos) X.env) :: backTo pos (starEach [] X.env))) _ _ s
  refine Calls.spliced_cons (LamX.lam_make2 (T := cl.tabs.tabs) I TB hcode hmT hu sr1.tabs.tc.t hdef (ls.has I.ok) fun f c' pmv tv H1 s1 I1 eN T1 of nf rf co => ?_)
  refine Calls.spliced_nil ⟨I1.kIn, ?_⟩
  have sr2 : SR (gx X cl) vs0 O1 W1 σ H1 ρ1 := sr1.extN eN T1
  have st2 : Stp O W H O1 W1 H1 := st1.trans sr.wf (Stp.extN eN)
  let cl' : Cl := ⟨cl.at', fun _ => none, ⟨cl.tabs.tabs, (c', X.env.qual ++ "<lambda>") :: cl.tabs.codes, knowOf is ρ1 σ ++ cl.tabs.know⟩⟩
  have aN : NZ.length = (NZ.length - 1) + 1 := by
    have := (List.getElem?_eq_some_iff.mp hat).1
    omega
  have en : SR (gk X.K cl') [.ref f] O1 [] (L2.start NZ [.ref f]) H1 (.gv :: List.replicate (NZ.length - 1) .no) := by
    have es : L2.start NZ [V.ref f] = some (.ref f) :: List.replicate (NZ.length - 1) none := rfl
    rw [es]
    refine ⟨⟨fun b hb => absurd hb (by simp), sr2.wf.trk⟩, by simp, fun i s e => ?_, fun i j s u b e1 e2 m1 m2 s1 s2 => ?_, ⟨T1, fun q hq => ?_⟩, fun q hq => ?_⟩
    · cases i with
      | zero => cases e; rfl
      | succ i =>
        have e : (List.replicate (NZ.length - 1) SD.no)[i]? = some s := e
        rw [List.getElem?_replicate] at e
        split at e
        · cases e; trivial
        · cases e
    · cases i with
      | zero => cases e1; cases m1
      | succ i =>
        have e1 : (List.replicate (NZ.length - 1) SD.no)[i]? = some s := e1
        rw [List.getElem?_replicate] at e1
        split at e1
        · cases e1; cases m1
        · cases e1
    · rcases List.mem_cons.mp hq with e | e
      · rw [e]; exact co
      · exact sr2.tabs.tc.c q e
    · rcases List.mem_append.mp hq with e | e
      · exact Rp.re (G := gx X cl) (G' := gk X.K cl') rfl rfl (knowOf_rp sr2 q e)
      · exact Rp.re (G := gx X cl) (G' := gk X.K cl') rfl rfl (sr2.tabs.k q e)
  obtain ⟨oc, od, kV, doc, pm, an, cdv, ct, osl, rfl, lk, hcd⟩ := F.ex
  have go : codeAny (model X.prog X.w) X.A (.call (.ref z) ⟨[.ref f], []⟩) (CR (L2.CX X.prog X.w) X.stack X.prog X.w H1 s1 Q fun _ _ _ => False) s1 := by
    refine LamX.run_ofS (N := NZ) (ps := [a]) (us := [.ref f]) (vs := [.ref f]) lk hcd S room I1.env0 (hb s1 [.ref f] I1.kIn rfl) (.cons rfl .nil) rfl fun room' => ?_
    let tb : XK → TE := fun E σ H Q => ∃ O W ρ, SR (gx X cl) vs0 O W σ H ρ ∧ AftE (gx X cl) vs0 (wxE E) O W σ H Q (fl ρ)
    have bdE : ∀ (E : XK) (A : Around) (outer : List Env) (s : Shared) (H : Hp), Room k (A.deeper (LamX.lamEnv X sc s.heap.objs.size f c')) → PE (LamX.lamCx X A outer s H E sc f c') bd (tb E) := fun E A outer s H r => ⟨fun pins s σ H Q I hw => by
      obtain ⟨O, W, ρ, sr, hw⟩ := hw
      obtain ⟨t, pt, q⟩ := (body E A outer _ _ f c' r).ex
      exact pt.run pins s σ H Q I (q O W σ H ρ Q sr hw)⟩
    have hak : ∀ (W : WX) (pn : List (Addr × Obj)) (xe : Value → Shared → Prop) (p1 p2 : Pos), Takes ((cxOf (L2.CX X.prog X.w) X.prog X.w X.K X.mg X.base NZ x (defScope stA) z cdv X.A X.stack s1 H1 fun _ _ _ => False).tr pn xe) W →
        EJ ((cxOf (L2.CX X.prog X.w) X.prog X.w X.K X.mg X.base NZ x (defScope stA) z cdv X.A X.stack s1 H1 fun _ _ _ => False).tr pn xe) cl' [.ref f] W (.Call (.Name a p1) [] [] p2) (xAsk (fl (viewN is 0 ρ1))) := fun W pn xe p1 p2 tk => by
      refine ⟨⟨_, lam_act (i := 0) (p1 := p1) (p2 := p2) I1 ls of nf rf (hbd _ _ _ _ _) tk room' bdE hat vis d1 d2, fun O3 W3 τ J ρ3 Q3 sr3 hw3 => ?_⟩⟩
      unfold xAsk at hw3
      split at hw3
      · rename_i e0
        have g0 := sr3.slot 0 _ e0
        have g0 : τ[0]?.join = some (.ref f) := g0
        refine ⟨join_some g0, sr3.tabs.tc.c _ List.mem_cons_self, O3, [], viewN is 0 ρ1, view_sr sr2 sr3.wf (fun q hq => Rp.re (G := gk X.K cl') (G' := gx X cl) rfl rfl (sr3.tabs.k q (List.mem_append_left _ hq)))
          ⟨⟨sr3.tabs.tc.t, fun q hq => sr3.tabs.tc.c q (List.mem_cons_of_mem _ hq)⟩, fun q hq => Rp.re (G := gk X.K cl') (G' := gx X cl) rfl rfl (sr3.tabs.k q (List.mem_append_right _ hq))⟩, ?_⟩
        have back : ∀ {O4 W4 : List Addr} {H4 : Hp}, Stp O3 [] J O4 W4 H4 → Wf O4 W4 H4 → KT0 (gx X cl).tabs H4 → Stp O3 W3 J O4 W3 H4 ∧ SR (gk X.K cl') [.ref f] O4 W3 τ H4 ρ3 := fun {O4 W4 H4} s4 w4 k4 =>
          ⟨s4.quiet, sr3.quiet s4 w4 (KT0.quiet sr3.tabs.tc k4 rfl s4)⟩
        cases eo : fl (viewN is 0 ρ1) with
        | bad => rw [eo] at hw3; exact hw3.elim
        | exc ce fs ρ4 =>
          rw [eo] at hw3
          intro p4 gs O4 W4 H4 s4 sr4 hp hf
          obtain ⟨y1, y2⟩ := back s4 sr4.wf sr4.tabs.tc
          exact hw3 p4 gs O4 W3 H4 y1 y2 hp (RpF.re (G := gx X cl) (G' := gk X.K cl') rfl rfl hf)
        | ok y =>
          obtain ⟨r, ρ4⟩ := y
          rw [eo] at hw3
          intro v O4 W4 H4 s4 sr4 rr
          obtain ⟨O5, W5, s5, sr5, r5⟩ := rr.frz sr4
          obtain ⟨y1, y2⟩ := back (s4.trans ⟨fun b hb => absurd hb (by simp), sr3.wf.trk⟩ s5) sr5.wf sr5.tabs.tc
          exact hw3 v O5 W3 H4 y1 y2 (Rp.re (G := gx X cl) (G' := gk X.K cl') rfl rfl r5)
      · exact hw3.elim
    obtain ⟨t, pt, q⟩ := (hA cdv X.A X.stack s1 H1 f (fun _ _ _ => False) ⟨cl.tabs.tabs, (c', X.env.qual ++ "<lambda>") :: cl.tabs.codes, knowOf is ρ1 σ ++ cl.tabs.know⟩ (xAsk (fl (viewN is 0 ρ1))) rfl room' hak).ex
    refine ⟨t, pt, q O1 [] _ H1 _ _ en ?_⟩
    cases eg : gA (xAsk (fl (viewN is 0 ρ1))) (.gv :: List.replicate (NZ.length - 1) .no) with
    | bad => rw [eg] at hw; exact hw.elim
    | exc _ _ _ => rw [eg] at hw; exact hw.elim
    | ok e =>
      rw [eg] at hw
      have fin : ∀ {O4 W4 : List Addr} {H4 : Hp}, Stp O1 [] H1 O4 W4 H4 → Wf O4 W4 H4 → KT0 (gk X.K cl').tabs H4 → Stp O W H O4 W1 H4 ∧ SR (gx X cl) vs0 O4 W1 σ H4 ρ1 := fun {O4 W4 H4} s4 w4 k4 =>
        ⟨st2.trans sr.wf s4.quiet, sr2.quiet s4 w4 (KT0.quiet sr2.tabs.tc k4 rfl s4)⟩
      cases e with
      | bk _ => exact hw.elim
      | ct _ => exact hw.elim
      | nx ρ4 =>
        intro σ4 O4 W4 H4 s4 sr4
        obtain ⟨y1, y2⟩ := fin s4 sr4.wf sr4.tabs.tc
        exact hw .non O4 W1 H4 y1 y2 (show Rp (gx X cl) O4 H4 .non .non by simp only [Rp])
      | rt r ρ4 =>
        intro v σ4 O4 W4 H4 s4 sr4 rr
        obtain ⟨O5, W5, s5, sr5, r5⟩ := rr.frz sr4
        obtain ⟨y1, y2⟩ := fin (s4.trans en.wf s5) sr5.wf sr5.tabs.tc
        exact hw v O5 W1 H4 y1 y2 (Rp.re (G := gk X.K cl') (G' := gx X cl) rfl rfl r5)
  refine wpAny_call (codeAny_mono go fun r s3 hr => ?_)
  cases r with
  | error e =>
    obtain ⟨_, _, _, _, _, _, _, _, _, _, _, _, z⟩ := (hr : L2.CX X.prog X.w _ _ _ _ _ _)
    exact z.elim
  | ok fl =>
    cases fl with
    | ret u => exact I1.after hr
    | next => exact hr.elim
    | brk => exact hr.elim
    | cont => exact hr.elim
theorem u65 {k : Nat} {A : Around} (r : Room k A) : A.units + 65 < cLine := by have := r.un; omega
/-! ### defs that make lambdas -/
structure FunC (K : PySem.W.Frag) (x qual : Str) (st : Stmt) (f : Addr) (fd : FuncData) (c : Addr) : Prop where
  ex : ∃ (oc : Value) (od : Option Addr) (kV doc pm : Value) (an : Option Addr) (ct : Value) (osl : Array (Option Value)),
    fd = PySem.W.fnOf x qual (defArgs st) (defBody st) (defScope st) .none kV doc pm an (.ref c) ct ∧ K.lookup f = some ⟨oc, od, .func fd, osl⟩ ∧ PySem.W.codeIn K (.ref c) qual = true
theorem funC_mk {K : PySem.W.Frag} {x qual : Str} {st : Stmt} {f c : Addr} {oc kV doc pm ct : Value} {od an : Option Addr} {osl : Array (Option Value)}
    (l : K.lookup f = some ⟨oc, od, .func (PySem.W.fnOf x qual (defArgs st) (defBody st) (defScope st) .none kV doc pm an (.ref c) ct), osl⟩) (h : PySem.W.codeIn K (.ref c) qual = true) :
    FunC K x qual st f (PySem.W.fnOf x qual (defArgs st) (defBody st) (defScope st) .none kV doc pm an (.ref c) ct) c := ⟨_, _, _, _, _, _, _, _, rfl, l, h⟩
theorem fn_okC {P : Program} {w : World} {K : PySem.W.Frag} {mg : Str → Option Value} {base : Heap} {x qual : Str} {st : Stmt} {f c : Addr} {fd : FuncData} {N ps : List Str} {k : Nat} {cl : Cl} {g : Ss} (F : FunC K x qual st f fd c) (S : FnScope N ps (defScope st))
    (hb : ∀ (A : Around) (outer : List Env) (s : Shared) (H : Hp) (vs : List V) (E : XK), Room k (A.deeper (envOfC qual (defScope st) s.heap.objs.size f (.ref c))) →
      BJ (cxOf (L2.CX P w) P w K mg base N qual (defScope st) f (.ref c) A outer s H E) cl vs (wxE E) (defBody st) g) : FnOk P w K mg base (L2.CX P w) (k + 1) f fd ps (spF (gk K cl) ps.length (bodyF N.length g)) := by
  obtain ⟨oc, od, kV, doc, pm, an, ct, osl, rfl, lk, hcd⟩ := F.ex
  exact fn_of lk hcd S (fun vs H Q E h => h.1) fun A outer s H vs Q E hr h => fn_sound S h.1 (hb A outer s H vs E hr) h
/-- what is never come to -/
def sBad : Ss := fun _ => .bad
@[simp] theorem sBad_ap (ρ : List SD) : sBad ρ = .bad := (rfl)
theorem bj_never {sts : List Stmt} : BJ X cl vs0 Wx sts sBad := ⟨⟨fun _ _ _ => False, ⟨fun _ _ _ _ _ _ h => h.elim⟩, fun _ _ _ _ _ _ _ hw => hw⟩⟩
/-- a refusal's class, told of the def that asks -/
def ExcC.re {K : PySem.W.Frag} {mg : Str → Option Value} {c : Str} {fs : List Str} {qual : Str} {st : Stmt} {tb : TC} (e : ExcC K mg cl c fs qual st) : ExcC K mg (askC cl tb) c fs qual st := ⟨e.fI, e.fd, e.m, e.oex, e.nf, e.iC, e.tI, e.F, e.xf⟩
/-- the law's promise, the tables empty -/
theorem spT_sp {K : PySem.W.Frag} {cl : Cl} {F : Fn} {H : Hp} {a : Addr} {ns : List Int} (hl : ns.length ≤ 63) (hc : cl.tabs.codes = []) (hk : cl.tabs.know = []) (ht : ∀ p ∈ cl.tabs.tabs, H p.1 = some (.tbl #[])) (hS : SqL K H a (ns.map V.int)) (hF : ∃ ρ, F [.sh (.scr ns)] = .ok (.sh (.bl true), ρ)) :
    spF (gk K cl) 1 F [.ref a] H (fun v _ => v = .bl true) fun _ _ _ => False :=
  law_sp hl hS ⟨⟨fun p hp => LamX.TabS.nil (ht p hp), fun p hp => absurd (show p ∈ cl.tabs.codes from hp) (by rw [hc]; simp)⟩, fun p hp => absurd (show p ∈ cl.tabs.know from hp) (by rw [hk]; simp)⟩ hF
/-! ### evaluation -/
@[simp] theorem xLam_ap (is : List Nat) (n : Nat) (gA : Sx → Ss) (fl : Sx) (ρ : List SD) : xLam is n gA fl ρ = lamR (frzAt is ρ) (gA (xAsk (fl (viewN is 0 (frzAt is ρ)))) (.gv :: List.replicate (n - 1) .no)) := (rfl)
@[simp] theorem lamR_rt (ρ : List SD) (r : SD) (ρ' : List SD) : lamR ρ (.ok (.rt r ρ')) = .ok (.sh r.frz, ρ) := (rfl)
@[simp] theorem lamR_nx (ρ : List SD) (ρ' : List SD) : lamR ρ (.ok (.nx ρ')) = .ok (.sh .non, ρ) := (rfl)
@[simp] theorem xAsk_gv (out : Rs (SD × List SD)) (r : List SD) : xAsk out (.gv :: r) = askO out (.gv :: r) := (rfl)
@[simp] theorem askO_ok (r : SD) (ρ' ρ : List SD) : askO (.ok (r, ρ')) ρ = .ok (.sh r.frz, ρ) := (rfl)
@[simp] theorem askO_exc (c : Str) (fs : List (Str × D)) (ρ' ρ : List SD) : askO (.exc c fs ρ') ρ = .exc c fs ρ := (rfl)
@[simp] theorem noXn_gv (r : List SD) : noXn (.gv :: r) = noXn r := (rfl)
@[simp] theorem viewN_nil (is : List Nat) (k : Nat) : viewN is k [] = [] := (rfl)
@[simp] theorem viewN_cons (is : List Nat) (k : Nat) (s : SD) (r : List SD) : viewN is k (s :: r) = (if k ∈ is then keep1 s else .no) :: viewN is (k + 1) r := (rfl)
@[simp] theorem keep1_sh (d : D) : keep1 (.sh d) = .sh d := (rfl)
@[simp] theorem frzAt_nil (ρ : List SD) : frzAt [] ρ = ρ := (rfl)
@[simp] theorem frzAt_cons (i : Nat) (r : List Nat) (ρ : List SD) : frzAt (i :: r) ρ = frzAt r (frz1 ρ i) := (rfl)
def frzO (ρ : List SD) (i : Nat) : Option SD → List SD
  | some (.own xs) => ρ.set i (.sh (.lst xs))
  | some (.byr xs) => ρ.set i (.sh (.lst xs))
  | _ => ρ
@[simp] theorem frz1_ap (ρ : List SD) (i : Nat) : frz1 ρ i = frzO ρ i ρ[i]? := by
  unfold frz1 frzO
  rcases ρ[i]? with _ | s
  · rfl
  · cases s <;> rfl
@[simp] theorem frzO_sh (ρ : List SD) (i : Nat) (d : D) : frzO ρ i (some (.sh d)) = ρ := (rfl)
@[simp] theorem frzO_own (ρ : List SD) (i : Nat) (xs : List D) : frzO ρ i (some (.own xs)) = ρ.set i (.sh (.lst xs)) := (rfl)
@[simp] theorem frzO_byr (ρ : List SD) (i : Nat) (xs : List D) : frzO ρ i (some (.byr xs)) = ρ.set i (.sh (.lst xs)) := (rfl)
end
end Wm
end

section
/-! Own classes: what __init__ makes, fields, methods. -/
namespace Wm
open PySem PySem.Spec PyProof.Rows L2
/-- an instance that is being made, met by nothing -/
structure HeldI (x C dx : Addr) (gs : List (Str × V)) (O W : List Addr) (H : Hp) : Prop where
  o : x ∈ O
  w : x ∉ W
  h : H x = some (.ins C dx gs)
section
variable {G : Gx} {x C dx : Addr} {gs : List (Str × V)} {O W O' W' O1 W1 : List Addr} {H H' H1 : Hp} {vs0 : List V} {σ : L2.St} {ρ : List SD}
theorem HeldI.step (h : HeldI x C dx gs O W H) (s : Stp O W H O' W' H') : HeldI x C dx gs O' W' H' :=
  ⟨s.ofz x h.o h.w, (fun z => by
    rcases s.wnew x z with q | q
    · exact h.w q
    · exact noD_not h.h (by intro _ z; cases z) q), s.keep x _ h.h h.w (fun _ z => by cases z)⟩
theorem RpF.grow {p : Addr} {o' : HO} (gr : ∀ {d v}, Rp G O H d v → Rp G O (upd H p o') d v) : ∀ {fs : List (Str × D)} {gs : List (Str × V)}, RpF G O H fs gs → RpF G O (upd H p o') fs gs
  | [], gs, h => by simp only [RpF] at h ⊢; exact h
  | (n, d) :: fs, gs, h => by
    simp only [RpF] at h ⊢
    obtain ⟨v, r, e, h1, h2⟩ := h
    exact ⟨v, r, e, gr h1, RpF.grow gr h2⟩
def putD (f : Str) (d : D) : List (Str × D) → List (Str × D)
  | [] => [(f, d)]
  | (g, e) :: r => if g = f then (f, d) :: r else (g, e) :: putD f d r
end
/-- behind (a part of) __init__: told of the world ahead of the making -/
def AftN (G : Gx) (vs0 : List V) (Wx : WX) (O1 W1 : List Addr) (H1 : Hp) (x : Addr) (c : Str) (D' : Ends) : Rs (List (Str × D) × List SD) → Prop
  | .ok (fs, ρ') => ∀ σ' O' W' H' dx gs, Stp O1 W1 H1 O' W' H' → SR G vs0 O' W' σ' H' ρ' → HeldI x (G.cls c) dx gs O' W' H' → RpF G O' H' fs gs → D'.nx σ' H'
  | .exc ce fs ρ' => ∀ σ' p gs O' W' H', Stp O1 W1 H1 O' W' H' → SR G vs0 O' W' σ' H' ρ' → (H' p = some (.xd gs) ∧ p ∉ O') → RpF G O' H' fs gs → Wx (.ref (G.cls ce)) (some p) σ' H'
  | .bad => False
abbrev Sn := List (Str × D) → List SD → Rs (List (Str × D) × List SD)
structure NJ (X : Cx) (cl : Cl) (vs0 : List V) (Wx : WX) (c : Str) (sts : List Stmt) (f : Sn) : Prop where
  ex : ∃ t, PSs X sts t ∧ ∀ O W σ H ρ D' (x dx : Addr) gs fs O1 W1 H1, H1 x = none → Wf O1 W1 H1 → Stp O1 W1 H1 O W H → SR (gx X cl) vs0 O W σ H ρ → vs0[0]? = some (.ref x) → HeldI x (cl.at' c) dx gs O W H → RpF (gx X cl) O H fs gs →
    AftN (gx X cl) vs0 Wx O1 W1 H1 x c D' (f fs ρ) → t D' σ H
section
variable {X : Cx} {cl : Cl} {vs0 : List V} {Wx : WX} {c : Str}
def nNil : Sn := fun fs ρ => .ok (fs, ρ)
theorem nj_nil : NJ X cl vs0 Wx c [] nNil := ⟨⟨_, pss_nil, fun O W σ H ρ D' x dx gs fs O1 W1 H1 _ _ st sr _ hh hf hw => hw σ O W H dx gs st sr hh hf⟩⟩
def nSeqR (f : Sn) (fs : List (Str × D)) : Rs Fl → Rs (List (Str × D) × List SD)
  | .ok (.nx ρ') => f fs ρ'
  | .exc ce es ρ' => .exc ce es ρ'
  | _ => .bad
def nSeq (g : Ss) (f : Sn) : Sn := fun fs ρ => nSeqR f fs (g ρ)
theorem nj_cons {s : Stmt} {sts : List Stmt} {g : Ss} {f : Sn} (h1 : SJ X cl vs0 Wx s g) (h2 : NJ X cl vs0 Wx c sts f) : NJ X cl vs0 Wx c (s :: sts) (nSeq g f) := by
  obtain ⟨t, p, q⟩ := h1.ex
  obtain ⟨t', p', q'⟩ := h2.ex
  refine ⟨⟨_, pss_cons p p', fun O W σ H ρ D' x dx gs fs O1 W1 H1 hx w1 st sr hv hh hf hw => q O W σ H ρ _ sr ?_⟩⟩
  unfold nSeq at hw
  cases e : g ρ with
  | bad => rw [e] at hw; exact hw
  | exc ce es ρ' =>
    rw [e] at hw
    exact fun σ' p gs O' W' H' s2 sr2 hp he => hw σ' p gs O' W' H' (st.trans w1 s2) sr2 hp he
  | ok fl =>
    rw [e] at hw
    cases fl with
    | nx ρ' => exact fun σ' O' W' H' s2 sr2 => q' O' W' σ' H' ρ' D' x dx gs fs O1 W1 H1 hx w1 (st.trans w1 s2) sr2 hv (hh.step s2) (hf.step sr.wf s2) hw
    | rt r ρ' => exact hw.elim
    | bk ρ' => exact hw.elim
    | ct ρ' => exact hw.elim
theorem RpF.len {G : Gx} {O : List Addr} {H : Hp} : ∀ {fs : List (Str × D)} {gs : List (Str × V)}, RpF G O H fs gs → fs.length = gs.length
  | [], gs, h => by simp only [RpF] at h; rw [h]; rfl
  | (n, d) :: fs, gs, h => by
    simp only [RpF] at h
    obtain ⟨v, r, e, _, h2⟩ := h
    rw [e]
    exact congrArg (· + 1) (RpF.len h2)
theorem RpF.put {G : Gx} {O : List Addr} {H : Hp} {f : Str} {d : D} {v : V} (hv : Rp G O H d v) : ∀ {fs : List (Str × D)} {gs : List (Str × V)}, RpF G O H fs gs → RpF G O H (putD f d fs) (putF f v gs)
  | [], gs, h => by
    simp only [RpF] at h
    subst h
    simp only [putD, putF, RpF]
    exact ⟨v, [], rfl, hv, rfl⟩
  | (n, e) :: fs, gs, h => by
    simp only [RpF] at h
    obtain ⟨u, r, rfl, h1, h2⟩ := h
    unfold putD putF
    by_cases q : n = f
    · rw [if_pos q, if_pos q]
      simp only [RpF]
      exact ⟨v, r, by rw [q], hv, h2⟩
    · rw [if_neg q, if_neg q]
      simp only [RpF]
      exact ⟨u, _, rfl, h1, RpF.put hv h2⟩
def isGv : List SD → Bool
  | .gv :: _ => true
  | _ => false
/-- self.f = e -/
def nStoR (f : Str) (h : Sn) (fs : List (Str × D)) : Rs (SD × List SD) → Rs (List (Str × D) × List SD)
  | .ok (r, ρ') => if isGv ρ' = true ∧ fs.length < 1000 then h (putD f r.frz fs) ρ' else .bad
  | .exc ce es ρ' => .exc ce es ρ'
  | .bad => .bad
def nSto (f : Str) (g : Sx) (h : Sn) : Sn := fun fs ρ => nStoR f h fs (g ρ)
theorem nj_store {o e : Expr} {f : Str} {p' pos : Pos} {sts : List Stmt} {g : Sx} {h : Sn} (ho : PE X o (tVar 0)) (cc : L2.Cls X.K (cl.at' c)) (na : NoAttr X.K (cl.at' c) f) (he : EJ X cl vs0 Wx e g) (hr : NJ X cl vs0 Wx c sts h)
    (hs : swapsWith e (some (.Attribute o f p')) pos.line X.env = pure false := by rfl) : NJ X cl vs0 Wx c (.Assign [.Attribute o f p'] e pos :: sts) (nSto f g h) := by
  obtain ⟨t, p, q⟩ := he.ex
  obtain ⟨t', p2, q'⟩ := hr.ex
  refine ⟨⟨_, pss_cons (ps_fld ho p hs) p2, fun O W σ H ρ D' x dx gs fs O1 W1 H1 hx w1 st sr hv hh hf hw => q O W σ H ρ _ sr ?_⟩⟩
  unfold nSto at hw
  cases eg : g ρ with
  | bad => rw [eg] at hw; exact hw
  | exc ce es ρ' =>
    rw [eg] at hw
    exact fun p gs O' W' H' s2 sr2 hp he => hw σ p gs O' W' H' (st.trans w1 s2) sr2 hp he
  | ok y =>
    obtain ⟨r, ρ'⟩ := y
    rw [eg] at hw
    have hw : AftN (gx X cl) vs0 Wx O1 W1 H1 x c D' (if isGv ρ' = true ∧ fs.length < 1000 then h (putD f r.frz fs) ρ' else .bad) := hw
    split at hw
    · rename_i hc
      intro v O2 W2 H2 s2 sr2 rr
      obtain ⟨O3, W3, s3, sr3, rp⟩ := rr.frz sr2
      have st3 := (st.trans w1 s2).trans w1 s3
      have hh3 := (hh.step s2).step s3
      have hf3 : RpF (gx X cl) O3 H2 fs gs := (hf.step sr.wf s2).step sr2.wf s3
      have e0 : ρ'[0]? = some .gv := by
        cases ρ' with
        | nil => cases hc.1
        | cons a b =>
          cases a with
          | gv => rfl
          | _ => cases hc.1
      have g0 : σ[0]?.join = vs0[0]? := sr3.slot 0 _ e0
      rw [hv] at g0
      obtain ⟨sr4, gr, _⟩ := sr3.grow (o' := .ins (cl.at' c) dx (putF f v gs)) hh3.o hh3.w hh3.h
      refine ⟨.ref x, join_some g0, x, cl.at' c, dx, gs, rfl, hh3.h, cc, na, by rw [← hf3.len]; exact hc.2, ?_⟩
      refine q' O3 W3 σ _ ρ' D' x dx _ (putD f r.frz fs) O1 W1 H1 hx w1 ?_ sr4 hv ⟨hh3.o, hh3.w, upd_same⟩ (RpF.put (gr rp) (RpF.grow gr hf3)) hw
      have nx : ∀ b o, H1 b = some o → b ≠ x := fun b o e z => by rw [z, hx] at e; cases e
      exact ⟨fun b o eo hb ht => by rw [upd_ne (nx b o eo)]; exact st3.keep b o eo hb ht, st3.wnew, st3.onew, fun b hb => noD_upd (st3.trk b hb), st3.ofz⟩
    · exact hw.elim
/-! ### __init__ -/
def AftI' (G : Gx) (O : List Addr) (H1 : Hp) (x : Addr) (c : Str) (Q : VK) (E : XK) : Rs (List (Str × D) × List SD) → Prop
  | .ok (fs, _) => ∀ O' W' H', Stp O [] H1 O' W' H' → Wf O' W' H' → KT G O' H' → Rp G O' H' (.ins c fs) (.ref x) → Q .non H'
  | .exc ce fs _ => ∀ p gs O' W' H', Stp O [] H1 O' W' H' → Wf O' W' H' → KT G O' H' → (H' p = some (.xd gs) ∧ p ∉ O') → RpF G O' H' fs gs → E (.ref (G.cls ce)) (some p) H'
  | .bad => False
abbrev Fi := List D → Rs (List (Str × D) × List SD)
def spN (G : Gx) (c : Str) (n : Nat) (F : Fi) : Sp := fun vs H Q E => ∃ x rest H1 dx O W ds, vs = .ref x :: rest ∧ rest.length = n ∧ H1 x = none ∧ H1 dx = none ∧ dx ≠ x ∧ H = upd (upd H1 dx (.own x)) x (.ins (G.cls c) dx []) ∧
  Wf O W H1 ∧ KT G O H1 ∧ RpA G O H1 ds rest ∧ AftI' G O H1 x c Q E (F ds)
def bodyN (N : Nat) (f : Sn) : Fi := fun ds => f [] (.gv :: (ds.map SD.sh ++ List.replicate (N - 1 - ds.length) .no))
theorem args_get {ds : List D} {m i : Nat} {s : SD} (h : (ds.map SD.sh ++ List.replicate m .no)[i]? = some s) : s = .no ∨ ∃ d, s = .sh d ∧ ds[i]? = some d := by
  by_cases hi : i < ds.length
  · rw [List.getElem?_append_left (by rw [List.length_map]; exact hi), List.getElem?_map] at h
    obtain ⟨d, h1, h2⟩ := Option.map_eq_some_iff.mp h
    exact .inr ⟨d, h2.symm, h1⟩
  · rw [List.getElem?_append_right (by rw [List.length_map]; omega), List.getElem?_replicate] at h
    split at h
    · cases h; exact .inl rfl
    · cases h
theorem RpA.at' {G : Gx} {O : List Addr} {H : Hp} : ∀ {ds : List D} {vs : List V} {i : Nat} {d : D}, RpA G O H ds vs → ds[i]? = some d → ∃ v, vs[i]? = some v ∧ Rp G O H d v
  | [], vs, i, d, _, h => by cases h
  | e :: ds, vs, 0, d, r, h => by
    simp only [RpA] at r
    obtain ⟨v, rest, rfl, h1, _⟩ := r
    cases h
    exact ⟨v, rfl, h1⟩
  | e :: ds, vs, i + 1, d, r, h => by
    simp only [RpA] at r
    obtain ⟨v, rest, rfl, _, h2⟩ := r
    exact RpA.at' (i := i) h2 h
theorem fn_okN {P : Program} {w : World} {K : PySem.W.Frag} {mg : Str → Option Value} {base : Heap} {x qual : Str} {st : Stmt} {f : Addr} {fd : FuncData} {N ps : List Str} {k n : Nat} {cl : Cl} {c : Str} {g : Sn} (F : Fun K x qual st f fd) (S : FnScope N ps (defScope st)) (hn : ps.length = n + 1)
    (hb : ∀ (cdv : Value) (A : Around) (outer : List Env) (s : Shared) (H : Hp) (vs : List V) (E : XK), Room k (A.deeper (envOfC qual (defScope st) s.heap.objs.size f cdv)) →
      NJ (cxOf (L2.CX P w) P w K mg base N qual (defScope st) f cdv A outer s H E) cl vs (wxE E) c (defBody st) g) : FnOk P w K mg base (L2.CX P w) (k + 1) f fd ps (spN (gk K cl) c n (bodyN N.length g)) := by
  have hpl : ps.length ≤ N.length := by have := congrArg List.length S.pre; rw [List.length_take] at this; omega
  refine F.okX S (fun vs H Q E h => ?_) fun cdv A outer s H vs Q E hr h => ?_
  · obtain ⟨x, rest, H1, dx, O, W, ds, rfl, hl, _⟩ := h
    simp [hl, hn]
  · obtain ⟨x, rest, H1, dx, O, W, ds, rfl, hl, nx, nd, ne, rfl, wf, kt, ra, hw⟩ := h
    obtain ⟨t, pt, q⟩ := (hb cdv A outer s _ (.ref x :: rest) E hr).ex
    have dl : ds.length = n := by rw [ra.length, hl]
    have sm : Same H1 (upd (upd H1 dx (.own x)) x (.ins ((gk K cl).cls c) dx [])) := fun b o e => by
      rw [upd_ne (ne_of_none e nx), upd_ne (ne_of_none e nd)]
      exact e
    have w0 : Wf O [] H1 := ⟨fun b hb => absurd hb (by simp), wf.trk⟩
    have s1 : Stp O [] H1 (x :: O) [] (upd (upd H1 dx (.own x)) x (.ins ((gk K cl).cls c) dx [])) := Stp.addO sm nx
    have w1 : Wf (x :: O) [] (upd (upd H1 dx (.own x)) x (.ins ((gk K cl).cls c) dx [])) := ⟨fun b hb => absurd hb (by simp), fun b hb => by
      rcases List.mem_cons.mp hb with z | z
      · rw [z]; exact noD_not upd_same
      · exact s1.trk b (wf.trk b z)⟩
    refine ⟨t, pt, q (x :: O) [] _ _ (.gv :: (ds.map SD.sh ++ List.replicate (N.length - 1 - ds.length) .no)) _ x dx [] [] O [] H1 nx w0 s1 ?_ rfl ⟨by simp, by simp, upd_same⟩ (by simp only [RpF]) ?_⟩
    · refine ⟨w1, ?_, fun i s e => ?_, fun i j s u b e1 e2 m1 m2 s1 s2 => ?_, kt.tc.ext sm, fun q hq => (kt.k q hq).step w0 s1⟩
      · unfold L2.start
        simp [hl, dl]
        omega
      · cases i with
        | zero => cases e; rfl
        | succ i =>
          rcases args_get e with rfl | ⟨d, rfl, ed⟩
          · trivial
          · obtain ⟨v, ev, rv⟩ := ra.at' ed
            refine ⟨v, ?_, rv.step w0 s1⟩
            unfold L2.start
            have hi := (List.getElem?_eq_some_iff.mp ev).1
            rw [List.getElem?_append_left (by simp; omega)]
            simp [ev]
      · cases i with
        | zero => cases e1; cases m1
        | succ i =>
          rcases args_get e1 with rfl | ⟨d, rfl, _⟩
          · cases m1
          · cases m1
    · unfold bodyN at hw
      cases eg : g [] (.gv :: (ds.map SD.sh ++ List.replicate (N.length - 1 - ds.length) .no)) with
      | bad => rw [eg] at hw; exact hw
      | exc ce es ρ' =>
        rw [eg] at hw
        intro σ' p gs O' W' H' st sr hp hf
        exact hw p gs O' W' H' st sr.wf sr.tabs hp hf
      | ok y =>
        obtain ⟨fs, ρ'⟩ := y
        rw [eg] at hw
        intro σ' O' W' H' dx' gs st sr hh hf
        refine hw (off x O') W' H' ⟨st.keep, st.wnew, fun b hb => st.onew b (mem_off.mp hb).1, st.trk, fun b hb hn => mem_off.mpr ⟨st.ofz b hb hn, fun z => ?_⟩⟩ ⟨fun b hb => mem_off.mpr ⟨sr.wf.sub b hb, fun z => hh.w (z ▸ hb)⟩, fun b hb => sr.wf.trk b (mem_off.mp hb).1⟩ ⟨sr.tabs.tc, fun q hq => (sr.tabs.k q hq).less less_off⟩ ?_
        · exact wf.trk b hb (by rw [z]; exact noD_none nx)
        · simp only [Rp]
          exact ⟨x, dx', gs, rfl, hh.h, fun z => (mem_off.mp z).2 rfl, RpF.less less_off hf⟩
end
end Wm
end

section
/-! C(e, .., k = v, ..) of an own class. -/
namespace Wm
open PySem PySem.Spec PyProof.Rows L2
section
variable {X : Cx} {cl : Cl} {vs0 : List V} {Wx : WX} {k n : Nat} {f : Addr} {fd : FuncData} {ps ks : List Str} {x c : Str} {p pos : Pos} {e : Expr} {es : List Expr} {kws : List Keyword} {fl : List LOp} {F : Fi} {sel : List SelI}
/-- the making, what is let out wished of the very slots -/
theorem run_makeM {sp : Sp} {CX : CXT} {C : Addr} {g : List Value → List Value → List Value} {gV : List V → List V → List V} {E : XK} {pins : List (Addr × Obj)} {σ : L2.St} {H : Hp} {s : Shared} {Q : VK} {us ws : List Value} {vs zs : List V}
    (M : Mk X.K C f) (hF : FnOk X.prog X.w X.K X.mg X.base CX k f fd ps sp) (hr : Room (k + 1) X.A) (hb : KBn X.K fd ps (n + 1) ks g gV) (hx : PassesAt CX X σ E) (I : Inv X pins σ H s) (r : Vals vs us) (rz : Vals zs ws) (l1 : vs.length = n) (l2 : zs.length = ks.length)
    (h : ∀ y dx, H y = none → H dx = none → dx ≠ y → sp (gV (.ref y :: vs) zs) (upd (upd H dx (.own y)) y (.ins C dx [])) (fun v H2 => v = .non ∧ Q (.ref y) H2) E) :
    wpAny (model X.prog X.w) X.A (call (.ref C) us (ks.zip ws)) (EP X pins σ Q) X.xe s := by
  have J := Inv.made (C := C) I
  have rr : Vals (V.ref (s.heap.objs.size + 1) :: vs) (Value.ref (s.heap.objs.size + 1) :: us) := .cons rfl r
  have go := hF.run _ X.stack _ _ ⟨Value.ref (s.heap.objs.size + 1) :: us, ks.zip ws⟩ (g (Value.ref (s.heap.objs.size + 1) :: us) ws) _ _ E (hr.make C us (ks.zip ws)) (J.env0.make C us (ks.zip ws))
    (hb.to _ (Value.ref (s.heap.objs.size + 1) :: us) ws J.kIn (by rw [List.length_cons, ← r.length, l1]) (rz.length.symm.trans l2)) (hb.rel rr rz)
    (h (s.heap.objs.size + 1) s.heap.objs.size (I.hok.fresh (Nat.le_succ _)) (I.hok.fresh (Nat.le_refl _)) (Nat.ne_of_lt (Nat.lt_succ_self _)))
  refine wpAny_call (make_map (f := f) I.kIn M.makes M.init (beq_iff_eq.mp M.fn) (codeAny_mono go fun q s' hq => ?_))
  match q, hq with
  | .error e, hq => exact hx pins _ _ e s' J hq
  | .ok (.ret u), hq =>
    obtain ⟨v, H', J', rv, ev, q3⟩ := J.after hq
    subst ev
    exact ⟨rv, ⟨V.ref (s.heap.objs.size + 1), H', J', rfl, q3⟩⟩
def tMakeM (C : Addr) (n m : Nat) (sp : Sp) (gV : List V → List V → List V) (E : L2.St → XK) (t tk : TA) : TE := fun σ H Q => t σ H fun vs H1 => tk σ H1 fun zs H2 => vs.length = n ∧ zs.length = m ∧ ∀ y dx, H2 y = none → H2 dx = none → dx ≠ y →
  sp (gV (.ref y :: vs) zs) (upd (upd H2 dx (.own y)) y (.ins C dx [])) (fun v H3 => v = .non ∧ Q (.ref y) H3) (E σ)
theorem pe_makeM {sp : Sp} {CX : CXT} {C : Addr} {g : List Value → List Value → List Value} {gV : List V → List V → List V} {E : L2.St → XK} {t tk : TA} (M : Mk X.K C f) (hF : FnOk X.prog X.w X.K X.mg X.base CX k f fd ps sp) (hr : Room (k + 1) X.A) (hg : Gl X x) (hm : X.mg x = some (.ref C)) (hb : KBn X.K fd ps (n + 1) ks g gV) (hx : ∀ σ, PassesAt CX X σ (E σ))
    (ha : PA X (e :: es) t) (hkw : PK X kws tk) (hall : (backToKw pos (keywordEach kws X.env)).all (·.1.isSome) = true := by rfl) (hks : (backToKw pos (keywordEach kws X.env)).filterMap (·.1) = ks := by rfl)
    (hdb : (x == ("__debug__" : Str)) = false := by decide) (he : starEach (e :: es) X.env = (false, eval e X.env) :: starEach es X.env := by rfl)
    (hpl : ((backTo pos (starEach (e :: es) X.env)).any (·.1) || (backToKw pos (keywordEach kws X.env)).any (·.1.isNone)) = false := by rfl) :
    PE X (.Call (.Name x p) (e :: es) kws pos) (tMakeM C n ks.length sp gV E t tk) := by
  refine ⟨fun pins s σ H Q I h => wpAny_Call_Name_kw (ld_glob I hg hm ?_ hdb)⟩
  refine PySem.W.callWith_KW (h₀ := X.base) I.ok.mod.kin M.kp hall (thn (ha.run pos pins s σ H _ I h) fun us s1 q => ?_) hpl he
  obtain ⟨vs, H1, I1, r, q⟩ := q
  refine thn (hkw.run pos pins s1 σ H1 _ I1 q) fun ws s2 q2 => ?_
  obtain ⟨zs, H2, I2, rz, l1, l2, q2⟩ := q2
  refine ⟨I2.kIn, ?_⟩
  rw [hks]
  exact run_makeM M hF hr hb (hx σ) I2 r rz l1 l2 q2
def pickD (ds : List D) : SelI → D
  | .arg j => ds[j]?.getD .non
  | .dfI i => .int i
  | .dfN => .non
/-- all of them are data -/
def shs : List (SD × Option Nat) → Option (List D)
  | [] => some []
  | (.sh d, _) :: r => (shs r).map (d :: ·)
  | _ => none
def makeR (c : Str) (ρ : List SD) : Rs (List (Str × D) × List SD) → Rs (SD × List SD)
  | .ok (fs, _) => .ok (.sh (.ins c fs), ρ)
  | .exc ce es _ => .exc ce es ρ
  | .bad => .bad
def makeO (c : Str) (F : Fi) (sel : List SelI) (ρ : List SD) : Option (List D) → Rs (SD × List SD)
  | some ds => makeR c ρ (F (sel.map (pickD (.non :: ds))))
  | none => .bad
def xMake (c : Str) (F : Fi) (sel : List SelI) (fl : List LOp) : Sx := fun ρ => (cargs fl ρ).bind fun p => makeO c F sel p.2 (shs p.1)
/-- no parameter but self takes self -/
def selS (m : Nat) : List SelI → Bool
  | [] => true
  | .arg j :: r => decide (1 ≤ j ∧ j ≤ m) && selS m r
  | _ :: r => selS m r
theorem shs_rp {G : Gx} {O W : List Addr} {σ : L2.St} {H : Hp} {ρ : List SD} : ∀ {l : List (SD × Option Nat)} {vs : List V} {ds : List D}, CRs G O W σ H ρ l vs → shs l = some ds → RpA G O H ds vs
  | [], vs, ds, h, e => by
    cases e
    simp only [RpA]
    exact h
  | (s, oi) :: r, vs, ds, h, e => by
    obtain ⟨v, r', rfl, h1, h2⟩ := h
    cases s with
    | sh d =>
      have e : (shs r).map (d :: ·) = some ds := e
      obtain ⟨ds', e1, e2⟩ := Option.map_eq_some_iff.mp e
      subst e2
      simp only [RpA]
      exact ⟨v, r', rfl, h1, shs_rp h2 e1⟩
    | _ => cases e
theorem sel_rp {G : Gx} {O : List Addr} {H : Hp} {ds : List D} {vs : List V} {y : Addr} (r : RpA G O H ds vs) : ∀ {sel : List SelI}, selS ds.length sel = true → RpA G O H (sel.map (pickD (.non :: ds))) (sel.map (pickV (.ref y :: vs)))
  | [], _ => by simp [RpA]
  | .arg j :: s, h => by
    simp only [selS, Bool.and_eq_true, decide_eq_true_eq] at h
    obtain ⟨⟨h1, h2⟩, h3⟩ := h
    obtain ⟨j, rfl⟩ : ∃ i, j = i + 1 := ⟨j - 1, by omega⟩
    have hl : j < ds.length := by omega
    obtain ⟨v, ev, rv⟩ := r.at' (List.getElem?_eq_getElem hl)
    simp only [List.map_cons, RpA]
    refine ⟨_, _, rfl, ?_, sel_rp r h3⟩
    show Rp G O H (ds[j]?.getD .non) (vs[j]?.getD .non)
    rw [ev, List.getElem?_eq_getElem hl]
    exact rv
  | .dfI i :: s, h => by
    simp only [List.map_cons, RpA]
    exact ⟨_, _, rfl, by simp only [pickD, pickV, Rp], sel_rp r h⟩
  | .dfN :: s, h => by
    simp only [List.map_cons, RpA]
    exact ⟨_, _, rfl, by simp only [pickD, pickV, Rp], sel_rp r h⟩
theorem shs_len : ∀ {l : List (SD × Option Nat)} {ds : List D}, shs l = some ds → ds.length = l.length
  | [], ds, e => by cases e; rfl
  | (s, oi) :: r, ds, e => by
    cases s with
    | sh d =>
      have e : (shs r).map (d :: ·) = some ds := e
      obtain ⟨ds', e1, e2⟩ := Option.map_eq_some_iff.mp e
      subst e2
      simp [shs_len e1]
    | _ => cases e
/-- C(e, .., k = v, ..) -/
theorem ej_make (M : Mk X.K (cl.at' c) f) (hF : FnOk X.prog X.w X.K X.mg X.base (L2.CX X.prog X.w) k f fd ps (spN (gx X cl) c sel.length F)) (hr : Room (k + 1) X.A) (hg : Gl X x) (hm : X.mg x = some (.ref (cl.at' c))) (hb : KBs X.K fd ps (es.length + 1 + 1) ks (.arg 0 :: sel)) (tk : Takes X Wx)
    (hst : Stars X (e :: es)) (h : KJ X cl vs0 Wx (e :: es ++ kws.map (·.value)) fl) (ok : selS (es.length + 1 + kws.length) sel = true) (hall : (backToKw pos (keywordEach kws X.env)).all (·.1.isSome) = true := by rfl) (hks : (backToKw pos (keywordEach kws X.env)).filterMap (·.1) = ks := by rfl) (hkl : kws.length = ks.length := by rfl)
    (hdb : (x == ("__debug__" : Str)) = false := by decide) (he : starEach (e :: es) X.env = (false, eval e X.env) :: starEach es X.env := by rfl)
    (hpl : ((backTo pos (starEach (e :: es) X.env)).any (·.1) || (backToKw pos (keywordEach kws X.env)).any (·.1.isNone)) = false := by rfl) :
    EJ X cl vs0 Wx (.Call (.Name x p) (e :: es) kws pos) (xMake c F sel fl) := by
  obtain ⟨ts, pe, _, q⟩ := h.ex
  obtain ⟨g, kb⟩ := hb.ex
  obtain ⟨t1, t2, rfl, h1, h2⟩ := pes_split pe
  have e1 : t1.length = es.length + 1 := pes_len h1
  have e2 : t2.length = ks.length := by rw [pes_len h2, List.length_map, hkl]
  refine ⟨⟨_, pe_makeM (E := fun σ c d H => Wx c d σ H) M hF hr hg hm kb (fun σ => passAt tk σ) (pes_pa h1 hst) (pes_pk h2) hall hks hdb he hpl, fun O W σ H ρ Q sr hw => ?_⟩⟩
  have z := q O W σ H ρ (fun vs H2 => vs.length = es.length + 1 + kws.length → ∀ y dx, H2 y = none → H2 dx = none → dx ≠ y →
    spN (gx X cl) c sel.length F ((SelI.arg 0 :: sel).map (pickV (.ref y :: vs))) (upd (upd H2 dx (.own y)) y (.ins (cl.at' c) dx [])) (fun v H3 => v = .non ∧ Q (.ref y) H3) (fun c d H' => Wx c d σ H')) sr (by
      unfold xMake at hw
      cases ea : cargs fl ρ with
      | bad => rw [ea] at hw; exact hw
      | exc ce fs ρ1 => rw [ea] at hw; exact hw
      | ok a =>
        obtain ⟨l, ρ1⟩ := a
        rw [ea] at hw
        have hw : AftE (gx X cl) vs0 Wx O W σ H Q (makeO c F sel ρ1 (shs l)) := hw
        intro vs O2 W2 H2 st sr2 cr hl y dx ny nd ne
        cases es' : shs l with
        | none => rw [es'] at hw; exact hw.elim
        | some ds =>
          rw [es'] at hw
          have hw : AftE (gx X cl) vs0 Wx O W σ H Q (makeR c ρ1 (F (sel.map (pickD (.non :: ds))))) := hw
          have ra := shs_rp cr es'
          have dl : ds.length = es.length + 1 + kws.length := by rw [ra.length, hl]
          refine ⟨y, sel.map (pickV (.ref y :: vs)), H2, dx, O2, W2, sel.map (pickD (.non :: ds)), rfl, by simp, ny, nd, ne, rfl, sr2.wf, sr2.tabs, sel_rp ra (by rw [dl]; exact ok), ?_⟩
          cases eF : F (sel.map (pickD (.non :: ds))) with
          | bad => rw [eF] at hw; exact hw
          | exc ce fs _ =>
            rw [eF] at hw
            intro p gs O3 W3 H3 s3 w3 k3 hp hf
            exact hw p gs O3 W2 H3 (st.trans sr.wf s3.quiet) (sr2.quiet s3 w3 k3.tc) hp hf
          | ok y' =>
            obtain ⟨fs, _⟩ := y'
            rw [eF] at hw
            intro O3 W3 H3 s3 w3 k3 rp
            exact ⟨rfl, hw (.ref y) O3 W2 H3 (st.trans sr.wf s3.quiet) (sr2.quiet s3 w3 k3.tc) rp⟩)
  rw [tAll_app, tAll_len] at z
  unfold tMakeM
  rw [tAll_len]
  refine cast ?_ z
  congr 1
  funext vs H1
  refine propext (and_congr_right fun hl => ?_)
  rw [tAll_len]
  refine iff_of_eq ?_
  congr 1
  funext zs H2
  refine propext ⟨fun h => ⟨hl.trans e1, h.1.trans e2, h.2 (by rw [List.length_append, hl, e1, h.1, e2, hkl])⟩, fun h => ⟨h.2.1.trans e2.symm, fun _ => h.2.2⟩⟩
end
end Wm
end

section
/-! Fields and methods of own classes. -/
namespace Wm
open PySem PySem.Spec PyProof.Rows L2
section
variable {X : Cx} {cl : Cl} {vs0 : List V} {Wx : WX}
theorem RpF.lookN {G : Gx} {O : List Addr} {H : Hp} {f : Str} : ∀ {fs : List (Str × D)} {gs : List (Str × V)}, RpF G O H fs gs → fs.lookup f = none → gs.lookup f = none
  | [], gs, h, _ => by
    simp only [RpF] at h
    subst h
    rfl
  | (n, e) :: fs, gs, h, hn => by
    simp only [RpF] at h
    obtain ⟨u, r, rfl, h1, h2⟩ := h
    by_cases q : f = n
    · subst q
      simp at hn
    · have q' : (f == n) = false := by simpa using q
      simp only [List.lookup_cons, q'] at hn ⊢
      exact RpF.lookN h2 hn
/-- e.f -/
def pFld (c f : Str) : List D → Rs SD
  | [.ins c' fs] => if c' = c then (match fs.lookup f with
    | some d => .ok (.sh d)
    | none => .bad) else .bad
  | _ => .bad
def rdFld (K : PySem.W.Frag) (f : Str) : List V → Hp → VK → Prop := fun vs H Q => ∃ x a C dx fs v, vs = [x] ∧ x = .ref a ∧ H a = some (.ins C dx fs) ∧ L2.Cls K C ∧ NoAttr K C f ∧ fs.lookup f = some v ∧ Q v H
theorem pr_fld {c f : Str} (cc : L2.Cls X.K (cl.at' c)) (na : NoAttr X.K (cl.at' c) f) : PrimR X cl (rdFld X.K f) (pFld c f) := fun O W H ds vs Q w ho hp => by
  unfold pFld at hp
  split at hp
  · rename_i c' fs
    split at hp
    · rename_i q
      subst q
      obtain ⟨x, rfl, h1⟩ := ho.one
      split at hp
      · rename_i d ed
        have h1 : Rp (gx X cl) O H (.ins c' fs) x := by
          rcases h1 with h1 | ⟨_, _, z, _⟩
          · exact h1
          · cases z
        simp only [Rp] at h1
        obtain ⟨a, dx, gs, rfl, ha, hn, hf⟩ := h1
        obtain ⟨v, e1, e2⟩ := hf.look ed
        exact ⟨_, a, _, dx, gs, v, rfl, rfl, ha, cc, na, e1, hp _ H (Same.refl H) e2⟩
      · exact hp.elim
    · exact hp.elim
  · exact hp.elim
theorem ej_fld {c f : Str} {e : Expr} {pos : Pos} {fl : List LOp} (cc : L2.Cls X.K (cl.at' c)) (na : NoAttr X.K (cl.at' c) f) (h : OJ X cl vs0 Wx [e] fl) (hb : attributeBase e f X.env (eval e X.env) = eval e X.env := by rfl) : EJ X cl vs0 Wx (.Attribute e f pos) (xPrim fl (pFld c f)) := by
  obtain ⟨ta, p, q⟩ := one_of h
  refine ⟨⟨_, pe_fld p hb, fun O W σ H ρ Q sr hw => ?_⟩⟩
  have z : ta σ H (fun x H1 => rdFld X.K f [x] H1 Q) := prim_core (pr_fld cc na) q O W σ H ρ Q sr hw
  refine cast ?_ z
  show _ = tFld X.K _ f σ H Q
  unfold tFld
  congr 1
  funext x H1
  refine propext ⟨fun ⟨y, a, C, dx, fs, v, e, h⟩ => ?_, fun ⟨a, C, dx, fs, v, h⟩ => ⟨x, a, C, dx, fs, v, rfl, h⟩⟩
  cases e
  exact ⟨a, C, dx, fs, v, h⟩
/-! ### methods -/
variable {k n : Nat} {f C : Addr} {fd : FuncData} {ps ks : List Str} {x c m : Str} {p pos apos : Pos} {o e : Expr} {es : List Expr} {kws : List Keyword} {fl : List LOp} {F : Fn} {sel : List SelI} {inv : List Nat} {i : Nat} {pl : Sem Bool}
def tMethM (C : Addr) (m : Str) (i : Nat) (sp : Sp) (gV : List V → List V → List V) (E : L2.St → XK) (n l : Nat) (t tk : TA) : TE := fun σ H Q => ∃ a dx fs, σ[i]? = some (some (.ref a)) ∧ H a = some (.ins C dx fs) ∧ fs.lookup m = none ∧
  t σ H fun vs H1 => tk σ H1 fun zs H2 => vs.length = n ∧ zs.length = l ∧ sp (gV (.ref a :: vs) zs) H2 Q (E σ)
theorem pe_methK {sp : Sp} {CX : CXT} {g : List Value → List Value → List Value} {gV : List V → List V → List V} {E : L2.St → XK} {t tk : TA} (ho : PE X o (tVar i)) (cc : L2.Cls X.K C) (hm : Meth X.K C m f) (hF : FnOk X.prog X.w X.K X.mg X.base CX k f fd ps sp) (hr : Room k X.A) (hb : KBn X.K fd ps (n + 1) ks g gV) (hx : ∀ σ, PassesAt CX X σ (E σ))
    (ha : PA X (e :: es) t) (hkw : PK X kws tk) (hall : (backToKw pos (keywordEach kws X.env)).all (·.1.isSome) = true) (hks : (backToKw pos (keywordEach kws X.env)).filterMap (·.1) = ks)
    (he : starEach (e :: es) X.env = (false, eval e X.env) :: starEach es X.env) (hpl : ((backTo pos (starEach (e :: es) X.env)).any (·.1) || (backToKw pos (keywordEach kws X.env)).any (·.1.isNone)) = false)
    (ht : eval (.Call (.Attribute o m apos) (e :: es) kws pos) X.env = (do
      let ov ← eval o X.env
      standAt apos.atName
      let (f, first) ← holding [ov] (getMethod ov m pl)
      callWith pos f first (backTo pos (starEach (e :: es) X.env)) (backToKw pos (keywordEach kws X.env)))) :
    PE X (.Call (.Attribute o m apos) (e :: es) kws pos) (tMethM C m i sp gV E n ks.length t tk) := by
  refine ⟨fun pins s σ H Q I h => ?_⟩
  obtain ⟨a, dx, fs, e1, e2, e3, h⟩ := h
  refine PySem.W.methodCall_KW (pl := pl) (thn (ho.run pins s σ H (fun v H1 => v = .ref a ∧ H1 = H) I ⟨_, e1, rfl, rfl⟩) fun u s1 q => ?_) ht
  obtain ⟨v, H1, I1, rv, q1, q2⟩ := q
  subst q1 q2
  obtain rfl : u = Value.ref a := rv
  refine getmeth_ok I1 e2 cc hm e3 ?_
  refine PySem.W.callWith_KW (first := [.ref a]) (h₀ := X.base) I.ok.mod.kin hm.kp hall (thn (ha.run pos pins s1 σ H1 _ I1 h) fun us s2 q => ?_) hpl he
  obtain ⟨vs, H2, I2, r, q⟩ := q
  refine thn (hkw.run pos pins s2 σ H2 _ I2 q) fun ws s3 q3 => ?_
  obtain ⟨zs, H3, I3, rz, l1, l2, q3⟩ := q3
  refine ⟨I3.kIn, ?_⟩
  rw [hks]
  exact run_fnM (us := .ref a :: us) (vs := .ref a :: vs) hF hr hb (hx σ) I3 (.cons rfl r) rz (by rw [List.length_cons, l1]) l2 q3
theorem pe_methK0 {sp : Sp} {CX : CXT} {g : List Value → List Value → List Value} {gV : List V → List V → List V} {E : L2.St → XK} {tk : TA} (ho : PE X o (tVar i)) (cc : L2.Cls X.K C) (hm : Meth X.K C m f) (hF : FnOk X.prog X.w X.K X.mg X.base CX k f fd ps sp) (hr : Room k X.A) (hb : KBn X.K fd ps 1 ks g gV) (hx : ∀ σ, PassesAt CX X σ (E σ))
    (hkw : PK X kws tk) (hall : (backToKw pos (keywordEach kws X.env)).all (·.1.isSome) = true) (hks : (backToKw pos (keywordEach kws X.env)).filterMap (·.1) = ks)
    (hpl : ((backTo pos (starEach [] X.env)).any (·.1) || (backToKw pos (keywordEach kws X.env)).any (·.1.isNone)) = false)
    (ht : eval (.Call (.Attribute o m apos) [] kws pos) X.env = (do
      let ov ← eval o X.env
      standAt apos.atName
      let (f, first) ← holding [ov] (getMethod ov m pl)
      callWith pos f first (backTo pos (starEach [] X.env)) (backToKw pos (keywordEach kws X.env)))) :
    PE X (.Call (.Attribute o m apos) [] kws pos) (tMethM C m i sp gV E 0 ks.length tNil tk) := by
  refine ⟨fun pins s σ H Q I h => ?_⟩
  obtain ⟨a, dx, fs, e1, e2, e3, h⟩ := h
  refine PySem.W.methodCall_KW (pl := pl) (thn (ho.run pins s σ H (fun v H1 => v = .ref a ∧ H1 = H) I ⟨_, e1, rfl, rfl⟩) fun u s1 q => ?_) ht
  obtain ⟨v, H1, I1, rv, q1, q2⟩ := q
  subst q1 q2
  obtain rfl : u = Value.ref a := rv
  refine getmeth_ok I1 e2 cc hm e3 ?_
  refine PySem.W.callWith_KW0 (first := [.ref a]) (h₀ := X.base) I.ok.mod.kin hm.kp hall (thn (hkw.run pos pins s1 σ H1 _ I1 h) fun ws s3 q3 => ?_) hpl
  obtain ⟨zs, H3, I3, rz, l1, l2, q3⟩ := q3
  refine ⟨I3.kIn, ?_⟩
  rw [hks]
  exact run_fnM (us := [.ref a]) (vs := [.ref a]) hF hr hb (hx σ) I3 (.cons rfl .nil) rz rfl l2 q3
/-- o.m(e, .., k = v, ..), o a name -/
def methO (c m : Str) (k : Rs (SD × List SD)) : Option SD → Rs (SD × List SD)
  | some (.sh (.ins c' fs)) => if c' = c ∧ fs.lookup m = none then k else .bad
  | _ => .bad
def xMeth (c m : Str) (i : Nat) (F : Fn) (fl : List LOp) : Sx := fun ρ => methO c m (xCall F (.va i :: fl) ρ) ρ[i]?
theorem meth_at {O W : List Addr} {σ : L2.St} {H : Hp} {ρ : List SD} {Q : VK} {r : Rs (SD × List SD)} (sr : SR (gx X cl) vs0 O W σ H ρ) (hw : AftE (gx X cl) vs0 Wx O W σ H Q (methO c m r ρ[i]?)) :
    (∃ a dx fs, σ[i]? = some (some (.ref a)) ∧ H a = some (.ins (cl.at' c) dx fs) ∧ fs.lookup m = none) ∧ AftE (gx X cl) vs0 Wx O W σ H Q r := by
  cases e : ρ[i]? with
  | none => rw [e] at hw; exact hw.elim
  | some s =>
    rw [e] at hw
    cases s with
    | sh d =>
      cases d with
      | ins c' fs =>
        have hw2 : AftE (gx X cl) vs0 Wx O W σ H Q (if c' = c ∧ fs.lookup m = none then r else .bad) := hw
        by_cases q : c' = c ∧ fs.lookup m = none
        · rw [if_pos q] at hw2
          obtain ⟨rfl, hn⟩ := q
          obtain ⟨v, ev, rv⟩ := sr.get e
          simp only [Rp] at rv
          obtain ⟨a, dx, gs, rfl, ha, _, hf⟩ := rv
          exact ⟨⟨a, dx, gs, ev, ha, hf.lookN hn⟩, hw2⟩
        · rw [if_neg q] at hw2
          exact hw2.elim
      | _ => exact hw.elim
    | _ => exact hw.elim
theorem kj_va {o : Expr} {es : List Expr} {i : Nat} {fl : List LOp} (hr : KJ X cl vs0 Wx es fl) : ∃ ts, PEs X es ts ∧ PA X es (tAll ts) ∧ ∀ O W σ H ρ R, SR (gx X cl) vs0 O W σ H ρ → AftK (gx X cl) vs0 Wx O W σ H R (cargs (.va i :: fl) ρ) → tAll (tVar i :: ts) σ H R := by
  obtain ⟨ts, p1, p2, p3⟩ := hr.ex
  refine ⟨ts, p1, p2, fun O W σ H ρ R sr hw => ?_⟩
  have hw' : AftK (gx X cl) vs0 Wx O W σ H R ((argOf ρ i).bind fun _ => (cargs fl ρ).bind fun p => (argOf p.2 i).bind fun s => .ok ((s, some i) :: p.1, p.2)) := hw
  cases e0 : argOf ρ i with
  | bad => rw [e0] at hw'; exact hw'.elim
  | exc c fs ρ' => exact absurd e0 argOf_noexc
  | ok d0 =>
    rw [e0] at hw'
    obtain ⟨v, ev, _⟩ := argOf_sr sr e0
    refine ⟨v, ev, p3 O W σ H ρ _ sr ?_⟩
    have hw2 : AftK (gx X cl) vs0 Wx O W σ H R ((cargs fl ρ).bind fun p => (argOf p.2 i).bind fun s => .ok ((s, some i) :: p.1, p.2)) := hw'
    cases e1 : cargs fl ρ with
    | bad => rw [e1] at hw2; exact hw2
    | exc c fs ρ' => rw [e1] at hw2; exact hw2
    | ok p =>
      obtain ⟨ps, ρ1⟩ := p
      rw [e1] at hw2
      have hw3 : AftK (gx X cl) vs0 Wx O W σ H R ((argOf ρ1 i).bind fun s => .ok ((s, some i) :: ps, ρ1)) := hw2
      intro vs O' W' H' st sr' ho
      cases e2 : argOf ρ1 i with
      | bad => rw [e2] at hw3; exact hw3.elim
      | exc c fs ρ' => exact absurd e2 argOf_noexc
      | ok d =>
        rw [e2] at hw3
        obtain ⟨v', ev', r'⟩ := argOf_sr sr' e2
        rw [ev] at ev'; cases ev'
        exact hw3 (v :: vs) O' W' H' st sr' ⟨v, vs, rfl, r', ho⟩
theorem ej_methK0 (ho : PE X o (tVar i)) (cc : L2.Cls X.K (cl.at' c)) (hm : Meth X.K (cl.at' c) m f) (hF : FnOk X.prog X.w X.K X.mg X.base (L2.CX X.prog X.w) k f fd ps (spF (gx X cl) sel.length F)) (hr : Room k X.A) (hb : KBs X.K fd ps 1 ks sel) (tk : Takes X Wx)
    (h : KJ X cl vs0 Wx (kws.map (·.value)) fl) (ok : selB (fl.length + 1) sel inv = true)
    (ht : eval (.Call (.Attribute o m apos) [] kws pos) X.env = (do
      let ov ← eval o X.env
      standAt apos.atName
      let (f, first) ← holding [ov] (getMethod ov m pl)
      callWith pos f first (backTo pos (starEach [] X.env)) (backToKw pos (keywordEach kws X.env))) := by rfl)
    (hall : (backToKw pos (keywordEach kws X.env)).all (·.1.isSome) = true := by rfl) (hks : (backToKw pos (keywordEach kws X.env)).filterMap (·.1) = ks := by rfl) (hkl : kws.length = ks.length := by rfl)
    (hpl : ((backTo pos (starEach [] X.env)).any (·.1) || (backToKw pos (keywordEach kws X.env)).any (·.1.isNone)) = false := by rfl) :
    EJ X cl vs0 Wx (.Call (.Attribute o m apos) [] kws pos) (xMeth c m i (permF sel inv F) fl) := by
  obtain ⟨g, kb⟩ := hb.ex
  obtain ⟨ts, pe, _, q⟩ := kj_va (o := o) (i := i) h
  have e2 : ts.length = ks.length := by rw [pes_len pe, List.length_map, hkl]
  refine ⟨⟨_, pe_methK0 (E := fun σ c d H => Wx c d σ H) ho cc hm hF hr kb (fun σ => passAt tk σ) (pes_pk pe) hall hks hpl ht, fun O W σ H ρ Q sr hw => ?_⟩⟩
  obtain ⟨⟨a, dx, fs, e1, e3, e4⟩, hw⟩ := meth_at sr hw
  obtain ⟨v, ev, z⟩ := call_core (F := permF sel inv F) (n := fl.length + 1) (t := tAll (tVar i :: ts)) rfl q O W σ H ρ Q (fun vs H1 => spF (gx X cl) sel.length F (sel.map (pickV vs)) H1 Q fun c d H' => Wx c d σ H') sr hw fun vs H1 h => spF_perm ok h
  rw [e1] at ev
  cases ev
  have z : tAll ts σ H fun vs H2 => spF (gx X cl) sel.length F (sel.map (pickV (.ref a :: vs))) H2 Q fun c d H' => Wx c d σ H' := z
  rw [tAll_len] at z
  refine ⟨a, dx, fs, e1, e3, e4, ?_⟩
  refine cast ?_ z
  show _ = tAll ts σ H fun zs H2 => ([] : List V).length = 0 ∧ zs.length = ks.length ∧ spF (gx X cl) sel.length F (sel.map (pickV ([V.ref a] ++ zs))) H2 Q fun c d H' => Wx c d σ H'
  congr 1
  funext zs H2
  rw [e2]
  exact propext ⟨fun h => ⟨rfl, h⟩, fun h => h.2⟩
theorem ej_methK (ho : PE X o (tVar i)) (cc : L2.Cls X.K (cl.at' c)) (hm : Meth X.K (cl.at' c) m f) (hF : FnOk X.prog X.w X.K X.mg X.base (L2.CX X.prog X.w) k f fd ps (spF (gx X cl) sel.length F)) (hr : Room k X.A) (hb : KBs X.K fd ps (es.length + 1 + 1) ks sel) (tk : Takes X Wx)
    (hst : Stars X (e :: es)) (h : KJ X cl vs0 Wx (e :: es ++ kws.map (·.value)) fl) (ok : selB (fl.length + 1) sel inv = true)
    (ht : eval (.Call (.Attribute o m apos) (e :: es) kws pos) X.env = (do
      let ov ← eval o X.env
      standAt apos.atName
      let (f, first) ← holding [ov] (getMethod ov m pl)
      callWith pos f first (backTo pos (starEach (e :: es) X.env)) (backToKw pos (keywordEach kws X.env))) := by rfl)
    (hall : (backToKw pos (keywordEach kws X.env)).all (·.1.isSome) = true := by rfl) (hks : (backToKw pos (keywordEach kws X.env)).filterMap (·.1) = ks := by rfl) (hkl : kws.length = ks.length := by rfl)
    (he : starEach (e :: es) X.env = (false, eval e X.env) :: starEach es X.env := by rfl)
    (hpl : ((backTo pos (starEach (e :: es) X.env)).any (·.1) || (backToKw pos (keywordEach kws X.env)).any (·.1.isNone)) = false := by rfl) :
    EJ X cl vs0 Wx (.Call (.Attribute o m apos) (e :: es) kws pos) (xMeth c m i (permF sel inv F) fl) := by
  obtain ⟨g, kb⟩ := hb.ex
  obtain ⟨ts, pe, _, q⟩ := kj_va (o := o) (i := i) h
  obtain ⟨t1, t2, rfl, h1, h2⟩ := pes_split pe
  have e1 : t1.length = es.length + 1 := pes_len h1
  have e2 : t2.length = ks.length := by rw [pes_len h2, List.length_map, hkl]
  refine ⟨⟨_, pe_methK (E := fun σ c d H => Wx c d σ H) ho cc hm hF hr kb (fun σ => passAt tk σ) (pes_pa h1 hst) (pes_pk h2) hall hks he hpl ht, fun O W σ H ρ Q sr hw => ?_⟩⟩
  obtain ⟨⟨a, dx, fs, e0, e3, e4⟩, hw⟩ := meth_at sr hw
  obtain ⟨v, ev, z⟩ := call_core (F := permF sel inv F) (n := fl.length + 1) (t := tAll (tVar i :: (t1 ++ t2))) rfl q O W σ H ρ Q (fun vs H1 => spF (gx X cl) sel.length F (sel.map (pickV vs)) H1 Q fun c d H' => Wx c d σ H') sr hw fun vs H1 h => spF_perm ok h
  rw [e0] at ev
  cases ev
  have z : tAll (t1 ++ t2) σ H fun vs H2 => spF (gx X cl) sel.length F (sel.map (pickV (.ref a :: vs))) H2 Q fun c d H' => Wx c d σ H' := z
  rw [tAll_app, tAll_len] at z
  refine ⟨a, dx, fs, e0, e3, e4, ?_⟩
  rw [tAll_len]
  refine cast ?_ z
  congr 1
  funext vs H1
  refine propext (and_congr_right fun hl => ?_)
  rw [tAll_len]
  refine iff_of_eq ?_
  congr 1
  funext zs H2
  refine propext ⟨fun h => ⟨hl.trans e1, h.1.trans e2, h.2⟩, fun h => ⟨h.2.1.trans e2.symm, h.2.2⟩⟩
end
end Wm
end

section
/-! a op b op c of ints. -/
namespace Wm
open PySem PySem.Spec PyProof.Rows L2
section
variable {X : Cx} {cl : Cl} {vs0 : List V} {Wx : WX}
def chain2 (g : Int → Int → Bool) (j : Int) (ρ : List SD) : List D → Rs (SD × List SD)
  | [.int k] => .ok (.sh (.bl (g j k)), ρ)
  | _ => .bad
def chain1 (g1 g2 : Int → Int → Bool) (fl2 : List LOp) (ρ : List SD) : List D → Rs (SD × List SD)
  | [.int i, .int j] => if g1 i j then (ops fl2 ρ).bind fun q => chain2 g2 j q.2 q.1 else .ok (.sh (.bl false), ρ)
  | _ => .bad
def xChain (g1 g2 : Int → Int → Bool) (fl fl2 : List LOp) : Sx := fun ρ => (ops fl ρ).bind fun q => chain1 g1 g2 fl2 q.2 q.1
theorem chain_core {g1 g2 : Int → Int → Bool} {fl fl2 : List LOp} {ta tb tc : TE}
    (q1 : ∀ O W σ H ρ R, SR (gx X cl) vs0 O W σ H ρ → AftO (gx X cl) vs0 Wx O W σ H R (ops fl ρ) → tAll [ta, tb] σ H R)
    (q2 : ∀ O W σ H ρ R, SR (gx X cl) vs0 O W σ H ρ → AftO (gx X cl) vs0 Wx O W σ H R (ops fl2 ρ) → tAll [tc] σ H R) :
    ∀ O W σ H ρ Q, SR (gx X cl) vs0 O W σ H ρ → AftE (gx X cl) vs0 Wx O W σ H Q (xChain g1 g2 fl fl2 ρ) → tChain (rI0 fun i j => .bl (g1 i j)) (rI0 fun i j => .bl (g2 i j)) ta tb tc σ H Q := by
  intro O W σ H ρ Q sr hw
  refine q1 O W σ H ρ (fun vs H2 => match vs with
    | [x, y] => rI0 (fun i j => .bl (g1 i j)) x y H2 fun z H3 => ∃ k, z = .bl k ∧ (if k = true then tc σ H3 fun w' H4 => rI0 (fun i j => .bl (g2 i j)) y w' H4 Q else Q (.bl false) H3)
    | _ => False) sr ?_
  unfold xChain at hw
  cases e : ops fl ρ with
  | bad => rw [e] at hw; exact hw
  | exc c fs ρ' => rw [e] at hw; exact hw
  | ok p =>
    obtain ⟨ds, ρ1⟩ := p
    rw [e] at hw
    replace hw : AftE (gx X cl) vs0 Wx O W σ H Q (chain1 g1 g2 fl2 ρ1 ds) := hw
    intro vs O1 W1 H1 st1 sr1 ho
    unfold chain1 at hw
    split at hw
    · rename_i i j
      obtain ⟨x, y, rfl, h1, h2⟩ := ho.two
      refine ⟨i, j, h1.int, h2.int, g1 i j, rfl, ?_⟩
      cases hg : g1 i j with
      | false =>
        rw [hg] at hw
        exact hw (.bl false) O1 W1 H1 st1 sr1 (show Rp (gx X cl) O1 H1 (.bl false) (.bl false) by simp only [Rp])
      | true =>
        rw [hg] at hw
        replace hw : AftE (gx X cl) vs0 Wx O W σ H Q ((ops fl2 ρ1).bind fun q => chain2 g2 j q.2 q.1) := hw
        refine q2 O1 W1 σ H1 ρ1 (fun vs H4 => match vs with
          | [w'] => rI0 (fun i j => .bl (g2 i j)) y w' H4 Q
          | _ => False) sr1 ?_
        cases e2 : ops fl2 ρ1 with
        | bad => rw [e2] at hw; exact hw
        | exc c fs ρ' =>
          rw [e2] at hw
          exact ExcA.back sr.wf st1 hw
        | ok p2 =>
          obtain ⟨ds2, ρ2⟩ := p2
          rw [e2] at hw
          replace hw : AftE (gx X cl) vs0 Wx O W σ H Q (chain2 g2 j ρ2 ds2) := hw
          intro vs2 O2 W2 H2 st2 sr2 ho2
          unfold chain2 at hw
          split at hw
          · rename_i k
            obtain ⟨z, rfl, h3⟩ := ho2.one
            exact ⟨j, k, h2.int, h3.int, hw _ O2 W2 H2 (st1.trans sr.wf st2) sr2 (show Rp (gx X cl) O2 H2 (.bl (g2 j k)) (.bl (g2 j k)) by simp only [Rp])⟩
          · exact hw.elim
    · exact hw.elim
variable {op op' : CmpOp} {g1 g2 : Int → Int → Bool} {fl fl2 : List LOp} {a b c : Expr} {pos : Pos}
theorem ej_chain (ho : OpR X (compareOp op) (rI0 fun i j => .bl (g1 i j))) (ho' : OpR X (compareOp op') (rI0 fun i j => .bl (g2 i j))) (h : OJ X cl vs0 Wx [a, b] fl) (h2 : OJ X cl vs0 Wx [c] fl2) (hm : lastMarks [op, op'] [b, c] = false := by with_unfolding_all rfl) :
    EJ X cl vs0 Wx (.Compare a [op, op'] [b, c] pos) (xChain g1 g2 fl fl2) := by
  obtain ⟨ta, tb, ha, hb, q⟩ := two_of h
  obtain ⟨tc, hc, q2⟩ := one_of h2
  exact ⟨⟨_, pe_chain ho ho' ha hb hc hm, chain_core q q2⟩⟩
theorem tj_chain (ho : OpR X (compareOp op) (rI0 fun i j => .bl (g1 i j))) (ho' : OpR X (compareOp op') (rI0 fun i j => .bl (g2 i j))) (h : OJ X cl vs0 Wx [a, b] fl) (h2 : OJ X cl vs0 Wx [c] fl2) (hm : lastMarks [op, op'] [b, c] = false := by with_unfolding_all rfl) :
    TJ X cl vs0 Wx (.Compare a [op, op'] [b, c] pos) (bT (xChain g1 g2 fl fl2)) := by
  obtain ⟨ta, tb, ha, hb, q⟩ := two_of h
  obtain ⟨tc, hc, q2⟩ := one_of h2
  refine ⟨⟨_, pt_chain ho ho' ha hb hc hm, fun O W σ H ρ Q sr hw => chain_core q q2 O W σ H ρ _ sr (tst_core hw)⟩⟩
theorem tj_isN (h : OJ X cl vs0 Wx [a, b] fl) : TJ X cl vs0 Wx (.Compare a [.Is] [b] pos) (bT (xPrim fl pIsN)) := tj_cmp op_isN (fun O W H ds vs Q w ho hp => by
  unfold pIsN at hp
  split at hp
  · obtain ⟨x, y, rfl, h1, h2⟩ := ho.two
    refine ⟨h2.non, ?_⟩
    rw [h1.non]
    exact hp _ H (Same.refl H) (by simp [Rp])
  · rename_i d hd
    obtain ⟨x, y, rfl, h1, h2⟩ := ho.two
    refine ⟨h2.non, ?_⟩
    rw [decide_eq_false (h1.notNon fun z => hd z)]
    exact hp _ H (Same.refl H) (by simp [Rp])
  · exact hp.elim) h (nomark _)
theorem tj_notN (h : OJ X cl vs0 Wx [a, b] fl) : TJ X cl vs0 Wx (.Compare a [.IsNot] [b] pos) (bT (xPrim fl pNotN)) := tj_cmp op_notN (fun O W H ds vs Q w ho hp => by
  unfold pNotN at hp
  split at hp
  · obtain ⟨x, y, rfl, h1, h2⟩ := ho.two
    refine ⟨h2.non, ?_⟩
    rw [h1.non]
    exact hp _ H (Same.refl H) (by simp [Rp])
  · rename_i d hd
    obtain ⟨x, y, rfl, h1, h2⟩ := ho.two
    refine ⟨h2.non, ?_⟩
    rw [decide_eq_false (h1.notNon fun z => hd z)]
    exact hp _ H (Same.refl H) (by simp [Rp])
  · exact hp.elim) h (nomark _)
end
end Wm
end

section
/-! Evaluation: own classes, chains. -/
namespace Wm
open PySem PySem.Spec PyProof.Rows L2
@[simp] theorem nNil_ap (fs : List (Str × D)) (ρ : List SD) : nNil fs ρ = .ok (fs, ρ) := (rfl)
@[simp] theorem nSeq_ap (g : Ss) (f : Sn) (fs : List (Str × D)) (ρ : List SD) : nSeq g f fs ρ = nSeqR f fs (g ρ) := (rfl)
@[simp] theorem nSeqR_nx (f : Sn) (fs : List (Str × D)) (ρ : List SD) : nSeqR f fs (.ok (.nx ρ)) = f fs ρ := (rfl)
@[simp] theorem nSeqR_exc (f : Sn) (fs : List (Str × D)) (c : Str) (es : List (Str × D)) (ρ : List SD) : nSeqR f fs (.exc c es ρ) = .exc c es ρ := (rfl)
@[simp] theorem nSto_ap (n : Str) (g : Sx) (h : Sn) (fs : List (Str × D)) (ρ : List SD) : nSto n g h fs ρ = nStoR n h fs (g ρ) := (rfl)
@[simp] theorem nStoR_ok (n : Str) (h : Sn) (fs : List (Str × D)) (r : SD) (ρ : List SD) : nStoR n h fs (.ok (r, .gv :: ρ)) = if fs.length < 1000 then h (putD n r.frz fs) (.gv :: ρ) else .bad := by
  show (if isGv (.gv :: ρ) = true ∧ fs.length < 1000 then h (putD n r.frz fs) (.gv :: ρ) else .bad) = _
  by_cases q : fs.length < 1000
  · rw [if_pos ⟨rfl, q⟩, if_pos q]
  · rw [if_neg (fun z => q z.2), if_neg q]
@[simp] theorem putD_nil (n : Str) (d : D) : putD n d [] = [(n, d)] := (rfl)
@[simp] theorem putD_cons (n m : Str) (d e : D) (r : List (Str × D)) : putD n d ((m, e) :: r) = if m = n then (n, d) :: r else (m, e) :: putD n d r := (rfl)
@[simp] theorem bodyN_ap (N : Nat) (f : Sn) (ds : List D) : bodyN N f ds = f [] (.gv :: (ds.map SD.sh ++ List.replicate (N - 1 - ds.length) .no)) := (rfl)
@[simp] theorem xMake_ap (c : Str) (F : Fi) (sel : List SelI) (fl : List LOp) (ρ : List SD) : xMake c F sel fl ρ = (cargs fl ρ).bind fun p => makeO c F sel p.2 (shs p.1) := (rfl)
@[simp] theorem shs_nil : shs [] = some [] := (rfl)
@[simp] theorem shs_cons (d : D) (o : Option Nat) (r : List (SD × Option Nat)) : shs ((.sh d, o) :: r) = (shs r).map (d :: ·) := (rfl)
@[simp] theorem makeO_some (c : Str) (F : Fi) (sel : List SelI) (ρ : List SD) (ds : List D) : makeO c F sel ρ (some ds) = makeR c ρ (F (sel.map (pickD (.non :: ds)))) := (rfl)
@[simp] theorem makeR_ok (c : Str) (ρ ρ' : List SD) (fs : List (Str × D)) : makeR c ρ (.ok (fs, ρ')) = .ok (.sh (.ins c fs), ρ) := (rfl)
@[simp] theorem makeR_exc (c ce : Str) (ρ ρ' : List SD) (fs : List (Str × D)) : makeR c ρ (.exc ce fs ρ') = .exc ce fs ρ := (rfl)
@[simp] theorem pickD_arg (ds : List D) (j : Nat) : pickD ds (.arg j) = ds[j]?.getD .non := (rfl)
@[simp] theorem pickD_dfI (ds : List D) (j : Int) : pickD ds (.dfI j) = .int j := (rfl)
@[simp] theorem pickD_dfN (ds : List D) : pickD ds .dfN = .non := (rfl)
@[simp] theorem xMeth_ap (c m : Str) (i : Nat) (F : Fn) (fl : List LOp) (ρ : List SD) : xMeth c m i F fl ρ = methO c m (xCall F (.va i :: fl) ρ) ρ[i]? := (rfl)
@[simp] theorem methO_ins (c m : Str) (k : Rs (SD × List SD)) (fs : List (Str × D)) : methO c m k (some (.sh (.ins c fs))) = if fs.lookup m = none then k else .bad := by
  show (if c = c ∧ fs.lookup m = none then k else .bad) = _
  by_cases q : fs.lookup m = none
  · rw [if_pos ⟨rfl, q⟩, if_pos q]
  · rw [if_neg (fun z => q z.2), if_neg q]
def fldR : Option D → Rs SD
  | some d => .ok (.sh d)
  | none => .bad
@[simp] theorem pFld_ins (c f : Str) (fs : List (Str × D)) : pFld c f [.ins c fs] = fldR (fs.lookup f) := by
  show (if c = c then (match fs.lookup f with | some d => Rs.ok (SD.sh d) | none => Rs.bad) else .bad) = _
  rw [if_pos rfl]
  cases fs.lookup f <;> rfl
@[simp] theorem fldR_some (d : D) : fldR (some d) = .ok (.sh d) := (rfl)
@[simp] theorem xChain_ap (g1 g2 : Int → Int → Bool) (fl fl2 : List LOp) (ρ : List SD) : xChain g1 g2 fl fl2 ρ = (ops fl ρ).bind fun q => chain1 g1 g2 fl2 q.2 q.1 := (rfl)
@[simp] theorem chain1_ev (g1 g2 : Int → Int → Bool) (fl2 : List LOp) (ρ : List SD) (i j : Int) : chain1 g1 g2 fl2 ρ [.int i, .int j] = if g1 i j then (ops fl2 ρ).bind fun q => chain2 g2 j q.2 q.1 else .ok (.sh (.bl false), ρ) := (rfl)
@[simp] theorem chain2_ev (g : Int → Int → Bool) (j : Int) (ρ : List SD) (k : Int) : chain2 g j ρ [.int k] = .ok (.sh (.bl (g j k)), ρ) := (rfl)
@[simp] theorem trim_ap4 (ρ : List SD) : trim 4 ρ = [trim1 (ρ[0]?.getD .no), trim1 (ρ[1]?.getD .no), trim1 (ρ[2]?.getD .no), trim1 (ρ[3]?.getD .no)] := (rfl)
@[simp] theorem trim_ap5 (ρ : List SD) : trim 5 ρ = [trim1 (ρ[0]?.getD .no), trim1 (ρ[1]?.getD .no), trim1 (ρ[2]?.getD .no), trim1 (ρ[3]?.getD .no), trim1 (ρ[4]?.getD .no)] := (rfl)
@[simp] theorem trim_ap6 (ρ : List SD) : trim 6 ρ = [trim1 (ρ[0]?.getD .no), trim1 (ρ[1]?.getD .no), trim1 (ρ[2]?.getD .no), trim1 (ρ[3]?.getD .no), trim1 (ρ[4]?.getD .no), trim1 (ρ[5]?.getD .no)] := (rfl)
@[simp] theorem trim_ap7 (ρ : List SD) : trim 7 ρ = [trim1 (ρ[0]?.getD .no), trim1 (ρ[1]?.getD .no), trim1 (ρ[2]?.getD .no), trim1 (ρ[3]?.getD .no), trim1 (ρ[4]?.getD .no), trim1 (ρ[5]?.getD .no), trim1 (ρ[6]?.getD .no)] := (rfl)
@[simp] theorem trim_ap8 (ρ : List SD) : trim 8 ρ = [trim1 (ρ[0]?.getD .no), trim1 (ρ[1]?.getD .no), trim1 (ρ[2]?.getD .no), trim1 (ρ[3]?.getD .no), trim1 (ρ[4]?.getD .no), trim1 (ρ[5]?.getD .no), trim1 (ρ[6]?.getD .no), trim1 (ρ[7]?.getD .no)] := (rfl)
end Wm
end

section
/-! Evaluation: names. -/
namespace Wm
open PySem PySem.Spec PyProof.Rows L2
theorem ofString_inj {a b : String} (h : Str.ofString a = Str.ofString b) : a = b := by
  rw [Str.ofString_eq_toList, Str.ofString_eq_toList] at h
  have h := congrArg Str.cps h
  have h : a.toList.map Char.toNat = b.toList.map Char.toNat := by simpa using h
  have := (List.map_inj_right (f := Char.toNat) (fun x y e => by
    apply Char.ext
    apply UInt32.toNat_inj.mp
    exact e)).mp h
  exact String.toList_inj.mp this
@[simp] theorem str_eq (a b : String) : (Str.ofString a = Str.ofString b) ↔ a = b := ⟨ofString_inj, fun e => by rw [e]⟩
@[simp] theorem str_beq (a b : String) : (Str.ofString a == Str.ofString b) = (a == b) := by
  by_cases h : a = b
  · subst h; simp
  · have : ¬ Str.ofString a = Str.ofString b := fun e => h (ofString_inj e)
    rw [beq_eq_false_iff_ne.mpr this, beq_eq_false_iff_ne.mpr h]
@[simp] theorem look_nil (n : Str) : List.lookup n ([] : List (Str × D)) = none := (rfl)
@[simp] theorem look_cons (n m : Str) (d : D) (r : List (Str × D)) : List.lookup n ((m, d) :: r) = if n == m then some d else List.lookup n r := by
  rw [List.lookup]
  cases n == m <;> rfl
end Wm
end

section
/-! Methods that write a list of one's own: extend, pop, remove. -/
namespace Wm
open PySem PySem.Spec PyProof.Rows L2
section
variable {X : Cx} {cl : Cl} {vs0 : List V} {Wx : WX}
/-- a method of one argument: what it tells, and what the list is then -/
def MutOk (X : Cx) (cl : Cl) (r : V → List V → Hp → VK → Prop) (m : List D → D → Rs (D × List D)) : Prop :=
  ∀ (O : List Addr) (H : Hp) (a : Addr) (xs : List D) (us : List V) (d : D) (v : V) (dr : D) (ys : List D), H a = some (.lst us) → us.length ≤ sizeLine → RpA (gx X cl) O H xs us → Rp (gx X cl) O H d v → m xs d = .ok (dr, ys) →
    ∃ rv vs, vs.length ≤ sizeLine ∧ RpA (gx X cl) O H ys vs ∧ Rp (gx X cl) O H dr rv ∧ ∀ Q : VK, Q rv (upd H a (.lst vs)) → r (.ref a) [v] H Q
def xMut1 (x : Nat) (m : List D → D → Rs (D × List D)) (f : Sx) : Sx := fun ρ => (ownGet ρ x).bind fun _ => (f ρ).bind fun p => (ownGet p.2 x).bind fun xs => (m xs p.1.frz).bind fun q => .ok (.sh q.1, ownSet p.2 x q.2)
def noExc {α : Type} : Rs α → Prop
  | .exc _ _ _ => False
  | _ => True
theorem ee_core {G : Gx} {O W : List Addr} {σ : L2.St} {H : Hp} {R : VK} {k : SD × List SD → Rs (SD × List SD)} {Q : VK} {r : Rs (SD × List SD)} (w : Wf O W H)
    (hw : AftE G vs0 Wx O W σ H Q (r.bind k)) (h : ∀ v s ρ' O' W' H', SR G vs0 O' W' σ H' ρ' → ResR G O' W' σ H' ρ' v s → AftE G vs0 Wx O' W' σ H' Q (k (s, ρ')) → R v H') : AftE G vs0 Wx O W σ H R r := by
  cases r with
  | bad => exact hw
  | exc c fs ρ => exact hw
  | ok p => exact fun v O' W' H' st sr rr => h v p.1 p.2 O' W' H' sr rr (AftE.back w st hw)
theorem ej_mut1 {x : Nat} {ex e : Expr} {f : Sx} {r : V → List V → Hp → VK → Prop} {m : List D → D → Rs (D × List D)} {apos cpos : Pos} {name : Str} {id : String}
    (slot : Slot "list" name id) (hty : typeOf (.builtin id) = pure (.type "method_descriptor")) (hm : MtR X id r) (hM : MutOk X cl r m) (hne : ∀ xs d, noExc (m xs d)) (hx : PE X ex (tVar x)) (h : EJ X cl vs0 Wx e f)
    (hbase : attributeBase ex name X.env (eval ex X.env) = eval ex X.env := by rfl)
    (hfew : ((backTo cpos (starEach [e] X.env)).all (fun x => !x.1) && (backToKw cpos (keywordEach [] X.env)).all (fun x => x.1.isSome)
      && decide ([e].length + ([] : List Keyword).length + (if ([] : List Keyword).isEmpty then 0 else 1) < 30)) = true := by rfl)
    (hline : (apos.endLine == cpos.line) = true := by rfl) (hs : starEach [e] X.env = (false, eval e X.env) :: starEach [] X.env := by rfl) (hplain : (backTo cpos (starEach [] X.env)).any (·.1) = false := by rfl) :
    EJ X cl vs0 Wx (.Call (.Attribute ex name apos) [e] [] cpos) (xMut1 x m f) := by
  obtain ⟨t, p, q⟩ := h.ex
  refine ⟨⟨_, pe_bm PySem.F.plainAttrs_list slot hty hm hx (pa_cons p pa_nil hs) hbase hfew hline hs hplain, fun O W σ H ρ E sr hw => ?_⟩⟩
  unfold xMut1 at hw
  cases eg : ownGet ρ x with
  | bad => rw [eg] at hw; exact hw.elim
  | exc c fs ρ' => exact absurd eg ownGet_noexc
  | ok xs0 =>
    rw [eg] at hw
    obtain ⟨a, ea, oa⟩ := ownGet_at sr eg
    obtain ⟨_, us0, h20, _⟩ := oa
    refine ⟨.ref a, ea, .inl ⟨rfl, _, SqL.of h20⟩, q O W σ H ρ _ sr (ee_core sr.wf hw fun v s ρ1 O1 W1 H1 sr1 rr hk => ?_)⟩
    obtain ⟨O2, W2, st2, sr2, rp⟩ := rr.frz sr1
    have hk := AftE.back sr1.wf st2 hk
    have hk : AftE (gx X cl) vs0 Wx O2 W2 σ H1 E ((ownGet ρ1 x).bind fun xs => (m xs s.frz).bind fun q => .ok (.sh q.1, ownSet ρ1 x q.2)) := hk
    cases eg2 : ownGet ρ1 x with
    | bad => rw [eg2] at hk; exact hk.elim
    | exc c fs ρ' => exact absurd eg2 ownGet_noexc
    | ok xs =>
      rw [eg2] at hk
      have hk : AftE (gx X cl) vs0 Wx O2 W2 σ H1 E ((m xs s.frz).bind fun q => .ok (.sh q.1, ownSet ρ1 x q.2)) := hk
      obtain ⟨b, eb, oW, us, h2, h3, h4⟩ := ownGet_at sr2 eg2
      rw [ea] at eb; cases eb
      have hn := hne xs s.frz
      cases em : m xs s.frz with
      | bad => rw [em] at hk; exact hk.elim
      | exc c fs ρ' => rw [em] at hn; exact hn.elim
      | ok pr =>
        obtain ⟨dr, ys⟩ := pr
        rw [em] at hk
        obtain ⟨rv, vs, hl, hr, hrv, hq⟩ := hM O2 H1 a xs us s.frz v dr ys h2 h3 h4 rp em
        obtain ⟨st4, sr4⟩ := sr2.write (vs := vs) eg2 ea hl hr
        exact hq _ (hk rv O2 W2 _ st4 sr4 (hrv.step sr2.wf st4))
/-- a method without arguments -/
def MutOk0 (X : Cx) (cl : Cl) (r : V → List V → Hp → VK → Prop) (m : List D → Rs (D × List D)) : Prop :=
  ∀ (O : List Addr) (H : Hp) (a : Addr) (xs : List D) (us : List V) (dr : D) (ys : List D), H a = some (.lst us) → us.length ≤ sizeLine → RpA (gx X cl) O H xs us → m xs = .ok (dr, ys) →
    ∃ rv vs, vs.length ≤ sizeLine ∧ RpA (gx X cl) O H ys vs ∧ Rp (gx X cl) O H dr rv ∧ ∀ Q : VK, Q rv (upd H a (.lst vs)) → r (.ref a) [] H Q
def xMut0 (x : Nat) (m : List D → Rs (D × List D)) : Sx := fun ρ => (ownGet ρ x).bind fun xs => (m xs).bind fun q => .ok (.sh q.1, ownSet ρ x q.2)
theorem ej_mut0 {x : Nat} {ex : Expr} {r : V → List V → Hp → VK → Prop} {m : List D → Rs (D × List D)} {apos cpos : Pos} {name : Str} {id : String}
    (slot : Slot "list" name id) (hty : typeOf (.builtin id) = pure (.type "method_descriptor")) (hm : MtR X id r) (hM : MutOk0 X cl r m) (hne : ∀ xs, noExc (m xs)) (hx : PE X ex (tVar x))
    (hbase : attributeBase ex name X.env (eval ex X.env) = eval ex X.env := by rfl) (hline : (apos.endLine == cpos.line) = true := by rfl) :
    EJ X cl vs0 Wx (.Call (.Attribute ex name apos) [] [] cpos) (xMut0 x m) := by
  refine ⟨⟨_, pe_bm0 PySem.F.plainAttrs_list slot hty hm hx hbase hline, fun O W σ H ρ E sr hw => ?_⟩⟩
  unfold xMut0 at hw
  cases eg : ownGet ρ x with
  | bad => rw [eg] at hw; exact hw.elim
  | exc c fs ρ' => exact absurd eg ownGet_noexc
  | ok xs =>
    rw [eg] at hw
    obtain ⟨a, ea, oW, us, h2, h3, h4⟩ := ownGet_at sr eg
    refine ⟨.ref a, ea, .inl ⟨rfl, _, SqL.of h2⟩, ?_⟩
    have hw : AftE (gx X cl) vs0 Wx O W σ H E ((m xs).bind fun q => .ok (.sh q.1, ownSet ρ x q.2)) := hw
    have hn := hne xs
    cases em : m xs with
    | bad => rw [em] at hw; exact hw.elim
    | exc c fs ρ' => rw [em] at hn; exact hn.elim
    | ok pr =>
      obtain ⟨dr, ys⟩ := pr
      rw [em] at hw
      obtain ⟨rv, vs, hl, hr, hrv, hq⟩ := hM O H a xs us dr ys h2 h3 h4 em
      obtain ⟨st4, sr4⟩ := sr.write (vs := vs) eg ea hl hr
      exact hq _ (hw rv O W _ st4 sr4 (hrv.step sr.wf st4))
/-! ### extend -/
def mExt (xs : List D) : D → Rs (D × List D)
  | .lst zs => if xs.length + zs.length ≤ sizeLine then .ok (.non, xs ++ zs) else .bad
  | _ => .bad
theorem mut_ext : MutOk X cl rExtend mExt := by
  intro O H a xs us d v dr ys h2 h3 h4 rp em
  cases d with
  | lst zs =>
    unfold mExt at em
    dsimp only at em
    split at em
    · rename_i hz
      cases em
      simp only [Rp] at rp
      obtain ⟨b, ws, rfl, lo, ra⟩ := rp
      have e1 := h4.length
      have e2 := ra.length
      have hz' : us.length + ws.length ≤ sizeLine := by omega
      exact ⟨.non, us ++ ws, by rw [List.length_append]; exact hz', h4.append ra, by simp only [Rp], fun Q hQ => ⟨a, b, us, ws, rfl, rfl, h2, lo.2.1, hz', hQ⟩⟩
    · cases em
  | _ => cases em
theorem ne_ext (xs : List D) (d : D) : noExc (mExt xs d) := by
  cases d <;> first | trivial | skip
  unfold mExt
  dsimp only
  split <;> trivial
/-! ### pop -/
theorem RpA.erase {G : Gx} {O : List Addr} {H : Hp} : ∀ {ds : List D} {vs : List V} (j : Nat), RpA G O H ds vs → RpA G O H (ds.eraseIdx j) (vs.eraseIdx j)
  | [], vs, j, h => by simp only [RpA] at h; subst h; simp [RpA]
  | d :: ds, vs, 0, h => by
    simp only [RpA] at h
    obtain ⟨v, r, rfl, h1, h2⟩ := h
    simpa using h2
  | d :: ds, vs, j + 1, h => by
    simp only [RpA] at h
    obtain ⟨v, r, rfl, h1, h2⟩ := h
    simp only [List.eraseIdx_cons_succ, RpA]
    exact ⟨v, _, rfl, h1, h2.erase j⟩
def popK (xs : List D) : Option Nat → Rs (D × List D)
  | some k => match xs[k]? with
    | some d => .ok (d, xs.eraseIdx k)
    | none => .bad
  | none => .bad
def mPopAt (xs : List D) : D → Rs (D × List D)
  | .int i => popK xs (ixN xs.length i)
  | _ => .bad
theorem mut_popAt : MutOk X cl rPopAt mPopAt := by
  intro O H a xs us d v dr ys h2 h3 h4 rp em
  cases d with
  | int i =>
    simp only [Rp] at rp
    subst rp
    have em : popK xs (ixN xs.length i) = .ok (dr, ys) := em
    cases ek : ixN xs.length i with
    | none => rw [ek] at em; cases em
    | some k =>
      rw [ek] at em
      unfold popK at em
      dsimp only at em
      obtain ⟨s1, s2, s3, s4⟩ := ixN_seq ek
      cases ex : xs[k]? with
      | none => rw [ex] at em; cases em
      | some d =>
        rw [ex] at em
        cases em
        obtain ⟨v, ev, rv⟩ := h4.getD ex
        have e1 := h4.length
        have hz := sizeLine_eq
        refine ⟨v, us.eraseIdx k, ?_, h4.erase k, rv, fun Q hQ => ⟨a, us, i, k, v, rfl, rfl, h2, ?_, ?_, by rw [← e1]; exact s1, ev, hQ⟩⟩
        · exact Nat.le_trans (len_erase us k) h3
        · omega
        · omega
  | _ => cases em
theorem ne_popAt (xs : List D) (d : D) : noExc (mPopAt xs d) := by
  cases d <;> first | trivial | skip
  unfold mPopAt
  dsimp only
  cases ixN xs.length _ with
  | none => trivial
  | some k =>
    unfold popK
    dsimp only
    cases xs[k]? <;> trivial
def mPop (xs : List D) : Rs (D × List D) := match xs[xs.length - 1]? with
  | some d => .ok (d, xs.dropLast)
  | none => .bad
theorem RpA.dropLast {G : Gx} {O : List Addr} {H : Hp} : ∀ {ds : List D} {vs : List V}, RpA G O H ds vs → RpA G O H ds.dropLast vs.dropLast
  | [], vs, h => by simp only [RpA] at h; subst h; simp [RpA]
  | [d], vs, h => by
    simp only [RpA] at h
    obtain ⟨v, r, rfl, h1, rfl⟩ := h
    simp [RpA]
  | d :: e :: ds, vs, h => by
    simp only [RpA] at h
    obtain ⟨v, r, rfl, h1, w, r2, rfl, h2, h3⟩ := h
    have : RpA G O H (e :: ds) (w :: r2) := by
      simp only [RpA]
      exact ⟨w, r2, rfl, h2, h3⟩
    have := this.dropLast
    have e1 : (d :: e :: ds).dropLast = d :: (e :: ds).dropLast := rfl
    have e2 : (v :: w :: r2).dropLast = v :: (w :: r2).dropLast := rfl
    rw [e1, e2, RpA]
    exact ⟨v, _, rfl, h1, this⟩
theorem mut_pop : MutOk0 X cl rPop mPop := by
  intro O H a xs us dr ys h2 h3 h4 em
  unfold mPop at em
  cases ex : xs[xs.length - 1]? with
  | none => rw [ex] at em; cases em
  | some d =>
    rw [ex] at em
    cases em
    obtain ⟨v, ev, rv⟩ := h4.getD ex
    exact ⟨v, us.dropLast, by rw [List.length_dropLast]; omega, h4.dropLast, rv, fun Q hQ => ⟨a, us, v, rfl, rfl, h2, by rw [← h4.length]; exact ev, hQ⟩⟩
theorem ne_pop (xs : List D) : noExc (mPop xs) := by
  unfold mPop
  cases xs[xs.length - 1]? <;> trivial
/-! ### remove, by equality of data -/
def rRemD (K : PySem.W.Frag) : V → List V → Hp → VK → Prop := fun x xs H Q => ∃ (l : Addr) (us : List V) (y : V) (d : PyData) (ds : List PyData) (j : Nat) (z : PyData), x = .ref l ∧ xs = [y] ∧ H l = some (.lst us) ∧ DpAll K H us ds ∧ Dp K H y d ∧
  SeqAt.shaped (.list ds) = true ∧ SeqAt.shaped d = true ∧ ds[j]? = some z ∧ PyData.eqv z d = true ∧ (∀ (m : Nat) (z' : PyData), m < j → ds[m]? = some z' → PyData.eqv z' d = false) ∧ Q .non (upd H l (.lst (us.eraseIdx j)))
theorem mt_removeD (hu : X.A.units + 65 < cLine) : MtR X "list.remove" (rRemD X.K) := by
  intro pins s σ H x xs v us Q I rx rxs h
  obtain ⟨l, ws, y, d, ds, j, z, rfl, rfl, hH, ha, hy, sl, sd, hz, hzj, hno, q⟩ := h
  cases rx
  obtain ⟨uy, rfl, ry⟩ := rxs.one
  obtain ⟨bs, r1⟩ := Dp.reads I d y uy hy ry
  have hxs : PyData.canLayAll0 ds = true := SeqAt.canLay_of_shaped sl
  have hroom : X.A.units + 1 + min (PyData.depthAll ds) d.depth < cLine := room_in_shaped sd hu
  obtain ⟨zz, its, n, r, hl, e⟩ := I.lstM hH
  obtain ⟨as, h4⟩ := Dp.readsAll I ds _ its ha r
  have hn : its.length = ds.length := SeqAt.ReadsAll.length ds its as h4
  have hmap : its.map (SeqAt.readOf s.heap) = ds := SeqAt.readsAll_map ds its as hxs h4
  have hsl := sizeLine_eq
  obtain ⟨hjd, _⟩ := List.getElem?_eq_some_iff.mp hz
  have hjl : j < its.length := by omega
  have hj : j < its.toArray.size := by simpa using hjl
  have at_ : ∀ (m : Nat) (hm : m < its.toArray.size) (z' : PyData), ds[m]? = some z' → SeqAt.readOf s.heap its.toArray[m] = z' := by
    intro m hm z' hz'
    have hml : m < its.length := by simpa using hm
    rw [← hmap, List.getElem?_map, List.getElem?_eq_getElem hml] at hz'
    have e1 : SeqAt.readOf s.heap its[m] = z' := Option.some.inj (show some (SeqAt.readOf s.heap its[m]) = some z' from hz')
    simpa using e1
  refine call_meets PySem.F.slot_list_remove ⟨_, e, rfl⟩ PySem.F.entry_list_remove (PySem.F.args_list_remove_2 _ _)
    (SeqAt.list_removeAt l its.toArray n none #[] uy (fun u => PyData.eqv (SeqAt.readOf s.heap u) d) j hj ?_ ?_ (by rw [List.size_toArray]; omega)) ⟨e, SeqAt.items_eqAt (vs := its.toArray) (show ReadsAll s.heap its.toArray.toList ds as from h4) r1 hxs (SeqAt.canLay_of_shaped sd) hroom, ?_⟩
  · show PyData.eqv (SeqAt.readOf s.heap its.toArray[j]) d = true
    rw [at_ j hj z hz]
    exact hzj
  · intro m hm hmj
    have hmd : m < ds.length := by omega
    have hz' : ds[m]? = some ds[m] := List.getElem?_eq_getElem hmd
    show PyData.eqv (SeqAt.readOf s.heap its.toArray[m]) d = false
    rw [at_ m hm _ hz']
    exact hno m _ hmj hz'
  · refine ⟨.non, _, I.lset (its' := its.eraseIdx j) hH e ?_ (r.eraseIdx j) ?_, rfl, q⟩
    · show its.toArray.eraseIdxIfInBounds j = (its.eraseIdx j).toArray
      rw [List.eraseIdxIfInBounds_toArray]
    · have := len_erase ws j
      omega
def remK (xs : List D) : Option Nat → Rs (D × List D)
  | some j => .ok (.non, xs.eraseIdx j)
  | none => .bad
noncomputable def mRem (xs : List D) (d : D) : Rs (D × List D) := if okN 60 d = true ∧ okN 60 (.lst xs) = true then remK xs (xs.findIdx? fun y => eqD y d) else .bad
theorem pys_get : ∀ {ds : List D} {j : Nat}, (pys ds)[j]? = ds[j]?.map D.py
  | [], j => by simp [pys]
  | d :: ds, 0 => by simp [pys]
  | d :: ds, j + 1 => by simp [pys, pys_get (ds := ds) (j := j)]
theorem okNs_at {n : Nat} : ∀ {ds : List D}, okNs n ds = true → ∀ {d}, d ∈ ds → okN n d = true
  | [], _, d, hd => by cases hd
  | e :: ds, h, d, hd => by
    simp only [okNs, Bool.and_eq_true] at h
    rcases List.mem_cons.mp hd with rfl | hd
    · exact h.1
    · exact okNs_at h.2 hd
theorem mut_rem : MutOk X cl (rRemD X.K) mRem := by
  intro O H a xs us d v dr ys h2 h3 h4 rp em
  unfold mRem at em
  split at em
  · rename_i hk
    cases ej : xs.findIdx? fun y => eqD y d with
    | none => rw [ej] at em; cases em
    | some j =>
      rw [ej] at em
      cases em
      have hy : okNs 59 xs = true := by have := hk.2; simpa only [okN] using this
      obtain ⟨hj, h5, h6⟩ := List.findIdx?_eq_some_iff_getElem.mp ej
      have ha : DpAll X.K H us (pys xs) := RpA.dp hy h4
      refine ⟨.non, us.eraseIdx j, Nat.le_trans (len_erase us j) h3, h4.erase j, by simp only [Rp], fun Q hQ => ⟨a, us, v, d.py, pys xs, j, xs[j].py, rfl, rfl, h2, ha, Rp.dp hk.1 rp, okD_shaped hk.2, okD_shaped hk.1, ?_, ?_, ?_, hQ⟩⟩
      · rw [pys_get, List.getElem?_eq_getElem hj]
        rfl
      · rw [eqD_py (okNs_at hy (List.getElem_mem hj)) hk.1]
        exact h5
      · intro m z' hm hz'
        have hm' : m < xs.length := by omega
        rw [pys_get, List.getElem?_eq_getElem hm'] at hz'
        cases hz'
        rw [eqD_py (okNs_at hy (List.getElem_mem hm')) hk.1]
        have := h6 m hm
        simpa using this
  · cases em
theorem ne_rem (xs : List D) (d : D) : noExc (mRem xs d) := by
  unfold mRem
  split
  · cases xs.findIdx? fun y => eqD y d <;> trivial
  · trivial
end
end Wm
end

section
/-! list(range(..)), tuple(range(..)), xs[::-1], is of truths. -/
namespace Wm
open PySem PySem.Spec PyProof.Rows L2
section
variable {X : Cx} {cl : Cl} {vs0 : List V} {Wx : WX} {a b c e : Expr} {pos p2 : Pos} {fl : List LOp}
def rgI (a b : Int) : List Int := (List.range (b - a).toNat).map fun i => a + (i : Nat)
theorem rgV_rgI (a b : Int) : rgV a b = (rgI a b).map V.int := by
  unfold rgV rgI
  rw [List.map_map]
  rfl
noncomputable instance (a b : Int) : Decidable (RgOk a b) := Classical.propDecidable _
noncomputable def rgLst (a b : Int) : Rs SD := if RgOk a b then .ok (.own ((rgI a b).map D.int)) else .bad
noncomputable def rgTup (a b : Int) : Rs SD := if RgOk a b then .ok (.sh (.tup ((rgI a b).map D.int))) else .bad
theorem rgV_sz {a b : Int} (h : RgOk a b) : (rgV a b).length ≤ sizeLine := by
  obtain ⟨_, _, _, _, h5⟩ := h
  rw [rgV_length, sizeLine_eq]
  omega
theorem rgLst_ok {O W : List Addr} {H : Hp} {Q : VK} {i j : Int} (w : Wf O W H) (hp : AftP (gx X cl) O H Q (rgLst i j)) : RgOk i j ∧ ∀ q, H q = none → Q (.ref q) (upd H q (.lst (rgV i j))) := by
  unfold rgLst at hp
  split at hp
  · rename_i h
    refine ⟨h, fun q n => hp q _ _ (same_upd n) n upd_same (rgV_sz h) ?_⟩
    rw [rgV_rgI]
    exact RpA.ofInts
  · exact hp.elim
theorem rgTup_ok {O W : List Addr} {H : Hp} {Q : VK} {i j : Int} (w : Wf O W H) (hp : AftP (gx X cl) O H Q (rgTup i j)) : RgOk i j ∧ ∀ q, H q = none → Q (.ref q) (upd H q (.tup (rgV i j))) := by
  unfold rgTup at hp
  split at hp
  · rename_i h
    refine ⟨h, fun q n => hp _ _ (same_upd n) ?_⟩
    refine rp_tup w n (rgV_sz h) ?_
    rw [rgV_rgI]
    exact RpA.ofInts
  · exact hp.elim
noncomputable def pLrg1 : List D → Rs SD
  | [.int j] => rgLst 0 j
  | _ => .bad
noncomputable def pTrg1 : List D → Rs SD
  | [.int j] => rgTup 0 j
  | _ => .bad
noncomputable def pLrg2 : List D → Rs SD
  | [.int i, .int j] => rgLst i j
  | _ => .bad
noncomputable def pTrg2 : List D → Rs SD
  | [.int i, .int j] => rgTup i j
  | _ => .bad
theorem ej_lrg1 {p q pq : Pos} (hc : X.calm = true) (hgl : Gl X "list") (hml : X.mg "list" = none) (hg : Gl X "range") (hm : X.mg "range" = none) (h : OJ X cl vs0 Wx [a] fl) (na : starEach [a] X.env = (false, eval a X.env) :: starEach [] X.env := by rfl)
    (nb : starEach [(.Call (.Name "range" p) [a] [] pq : Expr)] X.env = (false, eval (.Call (.Name "range" p) [a] [] pq) X.env) :: starEach [] X.env := by rfl) :
    EJ X cl vs0 Wx (.Call (.Name "list" q) [.Call (.Name "range" p) [a] [] pq] [] pos) (xPrim fl pLrg1) := by
  obtain ⟨ta, ha, q⟩ := one_of h
  refine ⟨⟨_, pe_listRg hc hgl hml (prg_1 hg hm ha na) nb, prim_core (rd := rd1 fun x H Q => ∃ n, x = .int n ∧ RgOk 0 n ∧ ∀ q, H q = none → Q (.ref q) (upd H q (.lst (rgV 0 n)))) (fun O W H ds vs Q w ho hp => ?_) q⟩⟩
  unfold pLrg1 at hp
  split at hp
  · obtain ⟨x, rfl, h1⟩ := ho.one
    exact ⟨_, h1.int, rgLst_ok w hp⟩
  · exact hp.elim
theorem ej_trg1 {p q pq : Pos} (hc : X.calm = true) (hgl : Gl X "tuple") (hml : X.mg "tuple" = none) (hg : Gl X "range") (hm : X.mg "range" = none) (h : OJ X cl vs0 Wx [a] fl) (na : starEach [a] X.env = (false, eval a X.env) :: starEach [] X.env := by rfl)
    (nb : starEach [(.Call (.Name "range" p) [a] [] pq : Expr)] X.env = (false, eval (.Call (.Name "range" p) [a] [] pq) X.env) :: starEach [] X.env := by rfl) :
    EJ X cl vs0 Wx (.Call (.Name "tuple" q) [.Call (.Name "range" p) [a] [] pq] [] pos) (xPrim fl pTrg1) := by
  obtain ⟨ta, ha, q⟩ := one_of h
  refine ⟨⟨_, pe_tupRg hc hgl hml (prg_1 hg hm ha na) nb, prim_core (rd := rd1 fun x H Q => ∃ n, x = .int n ∧ RgOk 0 n ∧ ∀ q, H q = none → Q (.ref q) (upd H q (.tup (rgV 0 n)))) (fun O W H ds vs Q w ho hp => ?_) q⟩⟩
  unfold pTrg1 at hp
  split at hp
  · obtain ⟨x, rfl, h1⟩ := ho.one
    exact ⟨_, h1.int, rgTup_ok w hp⟩
  · exact hp.elim
theorem ej_lrg2 {p q pq : Pos} (hc : X.calm = true) (hgl : Gl X "list") (hml : X.mg "list" = none) (hg : Gl X "range") (hm : X.mg "range" = none) (h : OJ X cl vs0 Wx [a, b] fl) (na : starEach [a, b] X.env = (false, eval a X.env) :: starEach [b] X.env := by rfl)
    (nb : starEach [b] X.env = (false, eval b X.env) :: starEach [] X.env := by rfl) (hpl : (backTo pq (starEach [b] X.env)).any (·.1) = false := by rfl)
    (nc : starEach [(.Call (.Name "range" p) [a, b] [] pq : Expr)] X.env = (false, eval (.Call (.Name "range" p) [a, b] [] pq) X.env) :: starEach [] X.env := by rfl) :
    EJ X cl vs0 Wx (.Call (.Name "list" q) [.Call (.Name "range" p) [a, b] [] pq] [] pos) (xPrim fl pLrg2) := by
  obtain ⟨ta, tb, ha, hb, q⟩ := two_of h
  refine ⟨⟨_, pe_listRg hc hgl hml (prg_2 hg hm ha hb na nb hpl) nc, prim_core (rd := rd2 fun x y H Q => ∃ i j, x = .int i ∧ y = .int j ∧ RgOk i j ∧ ∀ q, H q = none → Q (.ref q) (upd H q (.lst (rgV i j)))) (fun O W H ds vs Q w ho hp => ?_) q⟩⟩
  unfold pLrg2 at hp
  split at hp
  · obtain ⟨x, y, rfl, h1, h2⟩ := ho.two
    exact ⟨_, _, h1.int, h2.int, rgLst_ok w hp⟩
  · exact hp.elim
theorem ej_trg2 {p q pq : Pos} (hc : X.calm = true) (hgl : Gl X "tuple") (hml : X.mg "tuple" = none) (hg : Gl X "range") (hm : X.mg "range" = none) (h : OJ X cl vs0 Wx [a, b] fl) (na : starEach [a, b] X.env = (false, eval a X.env) :: starEach [b] X.env := by rfl)
    (nb : starEach [b] X.env = (false, eval b X.env) :: starEach [] X.env := by rfl) (hpl : (backTo pq (starEach [b] X.env)).any (·.1) = false := by rfl)
    (nc : starEach [(.Call (.Name "range" p) [a, b] [] pq : Expr)] X.env = (false, eval (.Call (.Name "range" p) [a, b] [] pq) X.env) :: starEach [] X.env := by rfl) :
    EJ X cl vs0 Wx (.Call (.Name "tuple" q) [.Call (.Name "range" p) [a, b] [] pq] [] pos) (xPrim fl pTrg2) := by
  obtain ⟨ta, tb, ha, hb, q⟩ := two_of h
  refine ⟨⟨_, pe_tupRg hc hgl hml (prg_2 hg hm ha hb na nb hpl) nc, prim_core (rd := rd2 fun x y H Q => ∃ i j, x = .int i ∧ y = .int j ∧ RgOk i j ∧ ∀ q, H q = none → Q (.ref q) (upd H q (.tup (rgV i j)))) (fun O W H ds vs Q w ho hp => ?_) q⟩⟩
  unfold pTrg2 at hp
  split at hp
  · obtain ⟨x, y, rfl, h1, h2⟩ := ho.two
    exact ⟨_, _, h1.int, h2.int, rgTup_ok w hp⟩
  · exact hp.elim
/-! ### xs[::-1] -/
theorem RpA.rev {G : Gx} {O : List Addr} {H : Hp} : ∀ {ds : List D} {vs : List V}, RpA G O H ds vs → RpA G O H ds.reverse vs.reverse
  | [], vs, h => by simp only [RpA] at h; subst h; simp [RpA]
  | d :: ds, vs, h => by
    simp only [RpA] at h
    obtain ⟨v, r, rfl, h1, h2⟩ := h
    rw [List.reverse_cons, List.reverse_cons]
    exact h2.rev.snoc h1
def pRev : List D → Rs SD
  | [.lst xs] => .ok (.own xs.reverse)
  | _ => .bad
theorem ej_rev {k : Nat} {p1 p2 p3 : Pos} (h : OJ X cl vs0 Wx [a] fl) : EJ X cl vs0 Wx (.Subscript a (.Slice none none (some (.UnaryOp .USub (.Constant (.int 1) k p1) p2)) p3) pos) (xPrim fl pRev) := by
  obtain ⟨ta, ha, q⟩ := one_of h
  refine ⟨⟨_, pe_revL ha, prim_core (rd := rd1 fun x H Q => ∃ a xs, x = .ref a ∧ SqL X.K H a xs ∧ ∀ p, H p = none → Q (.ref p) (upd H p (.lst xs.reverse))) (fun O W H ds vs Q w ho hp => ?_) q⟩⟩
  unfold pRev at hp
  split at hp
  · obtain ⟨x, rfl, h1⟩ := ho.one
    obtain ⟨a, vs, rfl, h2, h3, h4⟩ := h1.lst
    exact ⟨a, vs, rfl, SqL.of h2, fun p n => hp p _ _ (same_upd n) n upd_same (by rw [List.length_reverse]; exact h3) h4.rev⟩
  · exact hp.elim
/-! ### is, is not: truths -/
def pIsBl (neg : Bool) : List D → Rs SD
  | [.bl x, .bl y] => .ok (.sh (.bl (neg ^^ decide (x = y))))
  | _ => .bad
theorem ej_isBl (h : OJ X cl vs0 Wx [a, b] fl) (hm : behindInMarks .Is b = false := by rfl) : EJ X cl vs0 Wx (.Compare a [.Is] [b] pos) (xPrim fl (pIsBl false)) := ej_cmp op_isBl (fun O W H ds vs Q w ho hp => by
  unfold pIsBl at hp
  split at hp
  · obtain ⟨x, y, rfl, h1, h2⟩ := ho.two
    exact ⟨_, _, h1.bl, h2.bl, hp _ H (Same.refl H) (by simp only [Rp, Bool.false_xor])⟩
  · exact hp.elim) h hm
theorem ej_notBl (h : OJ X cl vs0 Wx [a, b] fl) (hm : behindInMarks .IsNot b = false := by rfl) : EJ X cl vs0 Wx (.Compare a [.IsNot] [b] pos) (xPrim fl (pIsBl true)) := ej_cmp op_notBl (fun O W H ds vs Q w ho hp => by
  unfold pIsBl at hp
  split at hp
  · obtain ⟨x, y, rfl, h1, h2⟩ := ho.two
    exact ⟨_, _, h1.bl, h2.bl, hp _ H (Same.refl H) (by simp only [Rp, Bool.true_xor])⟩
  · exact hp.elim) h hm
end
end Wm
end

section
/-! An own class's own ==, isinstance of instances of own classes. -/
namespace Wm
open PySem PySem.Spec PyProof.Rows L2
section
variable {X : Cx} {cl : Cl} {vs0 : List V} {Wx : WX} {a b c e : Expr} {pos p2 : Pos} {fl : List LOp}
/-! ### isinstance(x, C) -/
structure IsC (K : PySem.W.Frag) (C : Addr) : Prop where
  cc : L2.Cls K C
  ha : PySem.W.findIn K (.ref C) "__class__" = some (some (.builtin "object.__class__"))
  hn : PySem.W.specialIn K (.builtin "object.__class__") "__get__" = some (some (.builtin "getset_descriptor.__get__"))
  htk : PySem.W.takesIn K (.builtin "object.__class__") = some true
  hm : PySem.W.mroIn K C (.type "object") = some true
  kt : PySem.W.kitOne K (.type "tuple") (.ref C) = some false
def pIsO (c : Str) : List D → Rs SD
  | [.ins c' _] => if c' = c then .ok (.sh (.bl true)) else .bad
  | [.tup _] => .ok (.sh (.bl false))
  | _ => .bad
theorem kit_self {K : PySem.W.Frag} {t : Value} : PySem.W.kitOne K t t = some true := by
  unfold PySem.W.kitOne
  rw [if_pos (beq_self_eq_true t)]
theorem ej_isO {c : Str} {C : Str} {p : Pos} (ic : IsC X.K (cl.at' c)) (hm : X.mg "isinstance" = none) (hg : Gl X "isinstance") (h : OJ X cl vs0 Wx [a] fl) (hc : PE X b (tC (.ref (cl.at' c))))
    (hs2 : starEach [b] X.env = (false, eval b X.env) :: starEach [] X.env := by rfl) (hs1 : starEach [a, b] X.env = (false, eval a X.env) :: starEach [b] X.env := by rfl) (hpl : (backTo pos (starEach [b] X.env)).any (·.1) = false := by rfl) :
    EJ X cl vs0 Wx (.Call (.Name "isinstance" p) [a, b] [] pos) (xPrim fl (pIsO c)) := by
  obtain ⟨ta, ha, q⟩ := one_of h
  refine ⟨⟨_, pe_callB call_isi hg hm (by decide +kernel) (pa_cons ha (pa_cons hc pa_nil hs2) hs1) (by decide) (by decide) hs1 hpl, prim_core (ts := [ta]) (rd := fun vs H Q => rIsi X.K (vs ++ [.ref (cl.at' c)]) H Q) (fun O W H ds vs Q w ho hp => ?_) q⟩⟩
  unfold pIsO at hp
  split at hp
  · rename_i c' fs
    split at hp
    · rename_i e
      subst e
      obtain ⟨x, rfl, h1⟩ := ho.one
      rcases h1 with h1 | ⟨_, _, z, _⟩
      · simp only [Rp] at h1
        obtain ⟨a, dx, gs, rfl, h2, _, _⟩ := h1
        exact ⟨_, _, .ref (cl.at' c'), .ref (cl.at' c'), true, rfl, .own _, .base (.ins h2 ic.cc ic.ha ic.hn ic.htk ic.hm), kit_self, hp _ H (Same.refl H) (by simp only [Rp])⟩
      · cases z
    · exact hp.elim
  · obtain ⟨x, rfl, h1⟩ := ho.one
    exact ⟨_, _, .type "tuple", .ref (cl.at' c), false, rfl, .own _, h1.ty rfl, ic.kt, hp _ H (Same.refl H) (by simp only [Rp])⟩
  · exact hp.elim
/-! ### == -/
/-- an own ==, asked of two instances of the class -/
def eqR : Rs (SD × List SD) → Rs (SD × List SD)
  | .ok (.sh (.bl b), ρ) => .ok (.sh (.bl b), ρ)
  | _ => .bad
def eqF (c : Str) (F : Fn) : Fn := fun as => match as with
  | [.sh (.ins c1 f1), .sh (.ins c2 f2)] => if c1 = c ∧ c2 = c then eqR (F [.sh (.ins c1 f1), .sh (.ins c2 f2)]) else .bad
  | _ => .bad
theorem aft_eqR {G : Gx} {vs : List V} {O W : List Addr} {σ : L2.St} {H : Hp} {Q : VK} {Wx : WX} : ∀ {r : Rs (SD × List SD)}, AftE G vs Wx O W σ H Q (eqR r) → AftE G vs Wx O W σ H (fun v H' => ∃ b, v = .bl b ∧ Q v H') r
  | .ok (.sh (.bl b), ρ), h => fun v O' W' H' st sr rr => by
    have e : v = .bl b := by simpa only [ResR, Rp] using rr
    exact ⟨b, e, h v O' W' H' st sr rr⟩
  | .ok (.sh .non, ρ), h => h.elim
  | .ok (.sh (.int _), ρ), h => h.elim
  | .ok (.sh (.str _), ρ), h => h.elim
  | .ok (.sh (.tup _), ρ), h => h.elim
  | .ok (.sh (.lst _), ρ), h => h.elim
  | .ok (.sh (.ins _ _), ρ), h => h.elim
  | .ok (.sh (.scr _), ρ), h => h.elim
  | .ok (.sh .emp, ρ), h => h.elim
  | .ok (.no, ρ), h => h.elim
  | .ok (.own _, ρ), h => h.elim
  | .ok (.byr _, ρ), h => h.elim
  | .ok (.xn _ _, ρ), h => h.elim
  | .ok (.gv, ρ), h => h.elim
  | .exc _ _ _, h => h.elim
  | .bad, h => h.elim
theorem ej_eqO {k : Nat} {f : Addr} {fd : FuncData} {ps : List Str} {c : Str} {F : Fn} (hm : Meth X.K (cl.at' c) "__eq__" f) (hF : FnOk X.prog X.w X.K X.mg X.base (L2.CX X.prog X.w) k f fd ps (spF (gx X cl) 2 F)) (hr : Room k X.A) (hb : Binds X.K fd ps []) (tk : Takes X Wx) (h : KJ X cl vs0 Wx [a, b] fl) (hn : fl.length = 2) (hmk : behindInMarks .Eq b = false := by rfl) :
    EJ X cl vs0 Wx (.Compare a [.Eq] [b] pos) (xCall (eqF c F) fl) := by
  obtain ⟨ts, pes, pa, q⟩ := h.ex
  cases pes with
  | cons p1 pes =>
    cases pes with
    | cons p2 pes =>
      cases pes
      rename_i ta tb
      refine ⟨⟨fun σ H Q => ta σ H fun x H1 => tb σ H1 fun y H2 => spF (gx X cl) 2 (eqF c F) [x, y] H2 Q fun cc d H' => Wx cc d σ H', ⟨fun pins s σ H Q I h => ?_⟩, fun O W σ H ρ Q sr hw => ?_⟩⟩
      · refine wpAny_Compare1 (binT p1 p2 I h fun v u s2 x y H2 I2 rx ry q => ?_) hmk
        obtain ⟨_, O, W, as, sr, af⟩ := q
        unfold eqF at af
        split at af
        · rename_i c1 f1 c2 f2
          split at af
          · rename_i hc
            obtain ⟨rfl, rfl⟩ := hc
            have sl0 := sr.slot 0 _ rfl
            have sl1 := sr.slot 1 _ rfl
            obtain ⟨v0, e0, r0⟩ := sl0
            obtain ⟨v1, e1, r1⟩ := sl1
            have e0 : x = v0 := by simpa using e0
            have e1 : y = v1 := by simpa using e1
            subst e0 e1
            simp only [Rp] at r0 r1
            obtain ⟨aa, dx, fs, rfl, ha, _, _⟩ := r0
            obtain ⟨bb, dy, gs, rfl, hb', _, _⟩ := r1
            have rx' : v = Value.ref aa := rx
            have ry' : u = Value.ref bb := ry
            subst rx' ry'
            obtain ⟨mA, J, _⟩ := ins_get I2.hok ha
            obtain ⟨mB, J', _⟩ := ins_get I2.hok hb'
            obtain ⟨od, J, _⟩ := J.look
            obtain ⟨od', J', _⟩ := J'.look
            obtain ⟨m, hFr⟩ := I2.fr
            show wpAny (model X.prog X.w) X.A (richCompare .Eq (.ref aa) (.ref bb)) (EP X pins σ Q) X.xe s2
            refine PySem.W.cmp_K (op := .Eq) (tb := .ref (cl.at' c2)) hr.units0 hFr I2.ok.mod.kin J J'.type (by simp [PySem.W.notFirst]) hm.at_ hm.fn ?_
            have r2 : Vals [V.ref aa, V.ref bb] [Value.ref aa, Value.ref bb] := .cons rfl (.cons rfl .nil)
            refine wpAny_mono (run_fnS (E := fun σ cc d H' => Wx cc d σ H') hF hr hb (passAt tk σ) I2 r2 ⟨rfl, O, W, _, sr, aft_eqR af⟩) (fun w s3 z => ?_) fun _ _ x => x
            obtain ⟨z1, H3, I3, rz, bv, ez, qz⟩ := z
            subst ez
            have rz' : w = Value.bool bv := rz
            subst rz'
            exact ⟨.bl bv, H3, I3, rfl, qz⟩
          · exact af.elim
        · exact af.elim
      · have z := call_core (F := eqF c F) hn q O W σ H ρ Q (fun vs H1 => spF (gx X cl) 2 (eqF c F) vs H1 Q fun cc d H' => Wx cc d σ H') sr hw fun _ _ h => h
        exact z
end
/-! ### f(k = v, ..) -/
section
variable {X : Cx} {cl : Cl} {vs0 : List V} {Wx : WX} {k n : Nat} {f : Addr} {fd : FuncData} {ps ks : List Str} {x : Str} {p pos : Pos} {kws : List Keyword} {fl : List LOp} {F : Fn} {sel : List SelI} {inv : List Nat} {m : Nat}
theorem pe_callM0 {sp : Sp} {CX : CXT} {g : List Value → List Value → List Value} {gV : List V → List V → List V} {E : L2.St → XK} {tk : TA} (F : FnOk X.prog X.w X.K X.mg X.base CX k f fd ps sp) (hr : Room k X.A) (hg : Gl X x) (hm : X.mg x = some (.ref f)) (hk : PySem.W.keepIn X.K (.ref f) = true) (hb : KBn X.K fd ps 0 ks g gV) (hx : ∀ σ, PassesAt CX X σ (E σ))
    (hkw : PK X kws tk) (hall : (backToKw pos (keywordEach kws X.env)).all (·.1.isSome) = true) (hks : (backToKw pos (keywordEach kws X.env)).filterMap (·.1) = ks)
    (hdb : (x == ("__debug__" : Str)) = false) (hpl : ((backTo pos (starEach [] X.env)).any (·.1) || (backToKw pos (keywordEach kws X.env)).any (·.1.isNone)) = false) :
    PE X (.Call (.Name x p) [] kws pos) (fun σ H Q => tk σ H fun zs H2 => zs.length = ks.length ∧ sp (gV [] zs) H2 Q (E σ)) := by
  refine ⟨fun pins s σ H Q I h => wpAny_Call_Name_kw (ld_glob I hg hm ?_ hdb)⟩
  refine PySem.W.callWith_KW0 (first := []) (h₀ := X.base) I.ok.mod.kin hk hall (thn (hkw.run pos pins s σ H _ I h) fun ws s2 q2 => ?_) hpl
  obtain ⟨zs, H2, I2, rz, l2, q2⟩ := q2
  refine ⟨I2.kIn, ?_⟩
  rw [hks]
  exact run_fnM F hr hb (hx σ) I2 .nil rz rfl l2 q2
theorem ej_callK0 (hF : FnOk X.prog X.w X.K X.mg X.base (L2.CX X.prog X.w) k f fd ps (spF (gx X cl) sel.length F)) (hr : Room k X.A) (hg : Gl X x) (hm : X.mg x = some (.ref f)) (hk : PySem.W.keepIn X.K (.ref f) = true) (hb : KBs X.K fd ps 0 ks sel) (tk : Takes X Wx)
    (h : KJ X cl vs0 Wx (kws.map (·.value)) fl) (ok : selB fl.length sel inv = true) (hall : (backToKw pos (keywordEach kws X.env)).all (·.1.isSome) = true := by rfl) (hks : (backToKw pos (keywordEach kws X.env)).filterMap (·.1) = ks := by rfl) (hkl : kws.length = ks.length := by rfl)
    (hdb : (x == ("__debug__" : Str)) = false := by decide) (hpl : ((backTo pos (starEach [] X.env)).any (·.1) || (backToKw pos (keywordEach kws X.env)).any (·.1.isNone)) = false := by rfl) :
    EJ X cl vs0 Wx (.Call (.Name x p) [] kws pos) (xCall (permF sel inv F) fl) := by
  obtain ⟨ts, pe, _, q⟩ := h.ex
  obtain ⟨g, kb⟩ := hb.ex
  refine ⟨⟨_, pe_callM0 (E := fun σ c d H => Wx c d σ H) hF hr hg hm hk kb (fun σ => passAt tk σ) (pes_pk pe) hall hks hdb hpl, fun O W σ H ρ Q sr hw => ?_⟩⟩
  have z := call_core (F := permF sel inv F) rfl q O W σ H ρ Q (fun vs H1 => spF (gx X cl) sel.length F (sel.map (pickV vs)) H1 Q fun c d H' => Wx c d σ H') sr hw fun vs H1 h => spF_perm ok h
  have e2 : ts.length = ks.length := by rw [pes_len pe, List.length_map, hkl]
  rw [tAll_len] at z
  rw [e2] at z
  exact z
end
/-! ### evaluation -/
@[simp] theorem pIsO_ins (c : Str) (fs : List (Str × D)) : pIsO c [.ins c fs] = .ok (.sh (.bl true)) := by
  show (if c = c then _ else _) = _
  rw [if_pos rfl]
@[simp] theorem pIsO_tup (c : Str) (ds : List D) : pIsO c [.tup ds] = .ok (.sh (.bl false)) := (rfl)
@[simp] theorem eqF_ins (c : Str) (F : Fn) (f1 f2 : List (Str × D)) : eqF c F [.sh (.ins c f1), .sh (.ins c f2)] = eqR (F [.sh (.ins c f1), .sh (.ins c f2)]) := by
  show (if c = c ∧ c = c then _ else _) = _
  rw [if_pos ⟨rfl, rfl⟩]
@[simp] theorem eqR_bl (b : Bool) (ρ : List SD) : eqR (.ok (.sh (.bl b), ρ)) = .ok (.sh (.bl b), ρ) := (rfl)
@[simp] theorem xMut1_ap (x : Nat) (m : List D → D → Rs (D × List D)) (f : Sx) (ρ : List SD) : xMut1 x m f ρ = (ownGet ρ x).bind fun _ => (f ρ).bind fun p => (ownGet p.2 x).bind fun xs => (m xs p.1.frz).bind fun q => .ok (.sh q.1, ownSet p.2 x q.2) := (rfl)
@[simp] theorem xMut0_ap (x : Nat) (m : List D → Rs (D × List D)) (ρ : List SD) : xMut0 x m ρ = (ownGet ρ x).bind fun xs => (m xs).bind fun q => .ok (.sh q.1, ownSet ρ x q.2) := (rfl)
@[simp] theorem mExt_ap (xs zs : List D) : mExt xs (.lst zs) = if xs.length + zs.length ≤ sizeLine then .ok (.non, xs ++ zs) else .bad := (rfl)
theorem mPopAt_nat {xs : List D} {k : Nat} {d : D} (h : xs[k]? = some d) : mPopAt xs (.int k) = .ok (d, xs.eraseIdx k) := by
  have hl := (List.getElem?_eq_some_iff.mp h).1
  have e : ixN xs.length (k : Int) = some k := by
    unfold ixN
    rw [if_pos (by omega), if_pos (by omega)]
    simp
  show popK xs (ixN xs.length (k : Int)) = _
  rw [e]
  unfold popK
  dsimp only
  rw [h]
@[simp] theorem pLrg1_ap (j : Int) : pLrg1 [.int j] = rgLst 0 j := (rfl)
@[simp] theorem pTrg1_ap (j : Int) : pTrg1 [.int j] = rgTup 0 j := (rfl)
@[simp] theorem pLrg2_ap (i j : Int) : pLrg2 [.int i, .int j] = rgLst i j := (rfl)
@[simp] theorem pTrg2_ap (i j : Int) : pTrg2 [.int i, .int j] = rgTup i j := (rfl)
theorem rgI_0 (n : Nat) : rgI 0 n = (List.range n).map fun (k : Nat) => (k : Int) := by
  unfold rgI
  simp
theorem rgLst_nat {n : Nat} (h : n ≤ 100000) : rgLst 0 n = .ok (.own ((List.range n).map fun (k : Nat) => D.int k)) := by
  unfold rgLst
  rw [if_pos (RgOk.of_le (by omega) (by omega) (by omega) (by omega)), rgI_0, List.map_map]
  rfl
theorem rgTup_nat {n : Nat} (h : n ≤ 100000) : rgTup 0 n = .ok (.sh (.tup ((List.range n).map fun (k : Nat) => D.int k))) := by
  unfold rgTup
  rw [if_pos (RgOk.of_le (by omega) (by omega) (by omega) (by omega)), rgI_0, List.map_map]
  rfl
@[simp] theorem pRev_lst (xs : List D) : pRev [.lst xs] = .ok (.own xs.reverse) := (rfl)
@[simp] theorem pIsBl_ap (n x y : Bool) : pIsBl n [.bl x, .bl y] = .ok (.sh (.bl (n ^^ decide (x = y)))) := (rfl)
end Wm
end

section
/-! Evaluation: loops that go through, by a state. -/
namespace Wm
open PySem PySem.Spec PyProof.Rows L2
variable {α S : Type} {m : Itm} {st : Tg} {body : Ss} {g : α → D}
theorem for_thru (I : List SD → Prop) : ∀ {xs : List α}, (∀ x ∈ xs, ∀ ρ, I ρ → ∃ ρ', I ρ' ∧ ∀ k, forT body k (st (g x) ρ) = k ρ') → ∀ {ρ : List SD}, I ρ → ∃ ρ', I ρ' ∧ forL st body (xs.map g) ρ = .ok (.nx ρ')
  | [], _, ρ, hi => ⟨ρ, hi, rfl⟩
  | x :: xs, h, ρ, hi => by
    obtain ⟨ρ1, h1, e1⟩ := h x (by simp) ρ hi
    obtain ⟨ρ2, h2, e2⟩ := for_thru I (xs := xs) (fun y hy => h y (List.mem_cons_of_mem _ hy)) h1
    exact ⟨ρ2, h2, by rw [List.map_cons, forL_cons, e1, e2]⟩
theorem forK_thru (I : List SD → Prop) (hk : ∀ ρ, I ρ → m.keep ρ) : ∀ {xs : List α}, (∀ x ∈ xs, ∀ ρ, I ρ → ∃ ρ', I ρ' ∧ ∀ k, forT body k (st (g x) ρ) = k ρ') → ∀ {ρ : List SD}, I ρ → ∃ ρ', I ρ' ∧ forK m st body (xs.map g) ρ = .ok (.nx ρ')
  | [], _, ρ, hi => ⟨ρ, hi, by rw [List.map_nil, forK_nil, if_pos (hk ρ hi)]⟩
  | x :: xs, h, ρ, hi => by
    obtain ⟨ρ1, h1, e1⟩ := h x (by simp) ρ hi
    obtain ⟨ρ2, h2, e2⟩ := forK_thru I hk (xs := xs) (fun y hy => h y (List.mem_cons_of_mem _ hy)) h1
    exact ⟨ρ2, h2, by rw [List.map_cons, forK_cons, if_pos (hk ρ hi), e1, e2]⟩
/-- a state, and slots that are of no matter: I s ρ -/
theorem for_fold (I : S → List SD → Prop) (f : S → α → S) : ∀ {xs : List α}, (∀ x ∈ xs, ∀ s ρ, I s ρ → ∃ ρ', I (f s x) ρ' ∧ ∀ k, forT body k (st (g x) ρ) = k ρ') → ∀ {s : S} {ρ : List SD}, I s ρ → ∃ ρ', I (xs.foldl f s) ρ' ∧ forL st body (xs.map g) ρ = .ok (.nx ρ')
  | [], _, s, ρ, hi => ⟨ρ, hi, rfl⟩
  | x :: xs, h, s, ρ, hi => by
    obtain ⟨ρ1, h1, e1⟩ := h x (by simp) s ρ hi
    obtain ⟨ρ2, h2, e2⟩ := for_fold I f (xs := xs) (fun y hy => h y (List.mem_cons_of_mem _ hy)) h1
    exact ⟨ρ2, h2, by rw [List.map_cons, forL_cons, e1, e2]⟩
theorem forK_fold (I : S → List SD → Prop) (f : S → α → S) (hk : ∀ s ρ, I s ρ → m.keep ρ) : ∀ {xs : List α}, (∀ x ∈ xs, ∀ s ρ, I s ρ → ∃ ρ', I (f s x) ρ' ∧ ∀ k, forT body k (st (g x) ρ) = k ρ') → ∀ {s : S} {ρ : List SD}, I s ρ → ∃ ρ', I (xs.foldl f s) ρ' ∧ forK m st body (xs.map g) ρ = .ok (.nx ρ')
  | [], _, s, ρ, hi => ⟨ρ, hi, by rw [List.map_nil, forK_nil, if_pos (hk s ρ hi)]⟩
  | x :: xs, h, s, ρ, hi => by
    obtain ⟨ρ1, h1, e1⟩ := h x (by simp) s ρ hi
    obtain ⟨ρ2, h2, e2⟩ := forK_fold I f hk (xs := xs) (fun y hy => h y (List.mem_cons_of_mem _ hy)) h1
    exact ⟨ρ2, h2, by rw [List.map_cons, forK_cons, if_pos (hk s ρ hi), e1, e2]⟩
/-- with the number of things put behind a list -/
theorem foldl_app {β : Type} (f : α → β) : ∀ (xs : List α) (s : List β), xs.foldl (fun s x => s ++ [f x]) s = s ++ xs.map f
  | [], s => by simp
  | x :: xs, s => by
    rw [List.foldl_cons, foldl_app f xs, List.map_cons]
    simp
@[simp] theorem pAbs_ev (i : Int) : pAbs [.int i] = .ok (.sh (.int i.natAbs)) := by
  show Rs.ok (SD.sh (D.int (if i < 0 then -i else i))) = _
  congr 3
  split <;> omega
theorem pMul_lst (xs : List D) (k : Int) : pMul [.lst xs, .int k] = if -(2 ^ 63) ≤ k ∧ k < 2 ^ 63 ∧ xs.length * k.toNat ≤ sizeLine then .ok (.own (List.replicate k.toNat xs).flatten) else .bad := (rfl)
theorem pMul_lst1 (d : D) (m : Nat) (h : m ≤ 100000) : pMul [.lst [d], .int m] = .ok (.own (List.replicate m d)) := by
  have hz : sizeLine = 16777216 := by decide
  rw [pMul_lst, if_pos ⟨by omega, by omega, by rw [Int.toNat_natCast, List.length_singleton, hz]; omega⟩, Int.toNat_natCast, List.flatten_replicate_singleton]
theorem pMul_tup1 (d : D) (m : Nat) (h : m ≤ 1000) : pMul [.tup [d], .int m] = .ok (.sh (.tup (List.replicate m d))) := by
  rw [pMul_rep _ _ ⟨by omega, by omega⟩ (by simp), Int.toNat_natCast, List.flatten_replicate_singleton]
theorem for_rgx {n : Nat} {g : Nat → D} {ρ : List SD} (I : Nat → List SD → Prop) (h : ∀ i ρ, i < n → I i ρ → ∃ ρ', I (i + 1) ρ' ∧ ∀ k, forT body k (st (g i) ρ) = k ρ') (h0 : I 0 ρ) : ∃ ρ', I n ρ' ∧ forL st body ((List.range n).map g) ρ = .ok (.nx ρ') := by
  obtain ⟨ρ', h1, h2⟩ := for_rg (L := forL st body ((List.range n).map g) ρ) rfl I h0 h
  exact ⟨ρ', h1, h2⟩
theorem rg_snoc {β : Type} (f : Nat → β) (i : Nat) : (List.range (i + 1)).map f = (List.range i).map f ++ [f i] := by
  rw [List.range_succ, List.map_append]
  rfl
end Wm
end

section
/-! List comprehensions of two clauses. -/
namespace Wm
open PySem PySem.Spec PyProof.Rows L2
/-- what a second clause walks: by data that is carried along -/
structure WlkD (G : Gx) (J : It) (xs : List D) (dc : D) (vc : V) : Prop where
  len : xs.length ≤ sizeLine
  go : ∀ O H i d, Rp G O H dc vc → xs[i]? = some d → J.go i H ∧ ∀ x H3, J.yld i H x H3 → Same H H3 ∧ Rp G O H3 d x
  stop : ∀ O H, Rp G O H dc vc → J.stop xs.length H
def AftD (G : Gx) (vs0 : List V) (Wx : WX) (O W : List Addr) (σ : L2.St) (H : Hp) (R : It → Hp → Prop) : Rs (List D × List SD) → Prop
  | .ok (xs, ρ') => ∀ J dc vc O' W' H', Stp O W H O' W' H' → SR G vs0 O' W' σ H' ρ' → Rp G O' H' dc vc → WlkD G J xs dc vc → R J H'
  | .exc c fs ρ' => ExcA G vs0 Wx O W σ H c fs ρ'
  | .bad => False
structure DJ (X : Cx) (cl : Cl) (vs0 : List V) (Wx : WX) (tg iter : Expr) (s : So) : Prop where
  ex : ∃ wi, PI X tg iter wi ∧ ∀ O W σ H ρ R, SR (gx X cl) vs0 O W σ H ρ → AftD (gx X cl) vs0 Wx O W σ H R (s ρ) → wi σ H R
section
variable {X : Cx} {cl : Cl} {vs0 : List V} {Wx : WX}
def dSeq (f : Sx) : So := fun ρ => (f ρ).bind fun p => (itemsOf p.1.frz).bind fun xs => .ok (xs, p.2)
theorem dj_seq {tg e : Expr} {f : Sx} (h : EJ X cl vs0 Wx e f) : DJ X cl vs0 Wx tg e (dSeq f) := by
  obtain ⟨t, p, q⟩ := h.ex
  refine ⟨⟨_, pi_seq p, fun O W σ H ρ R sr hw => q O W σ H ρ _ sr ?_⟩⟩
  unfold dSeq at hw
  cases e : f ρ with
  | bad => rw [e] at hw; exact hw
  | exc c fs ρ' => rw [e] at hw; exact hw
  | ok m =>
    obtain ⟨r, ρ1⟩ := m
    rw [e] at hw
    have hw : AftD (gx X cl) vs0 Wx O W σ H R ((itemsOf r.frz).bind fun xs => .ok (xs, ρ1)) := hw
    intro v O1 W1 H1 st1 sr1 rr
    obtain ⟨O2, W2, st2, sr2, rp⟩ := rr.frz sr1
    cases e2 : itemsOf r.frz with
    | bad => rw [e2] at hw; exact hw.elim
    | exc c fs ρ' => exact absurd e2 itemsOf_noexc
    | ok xs =>
      rw [e2] at hw
      have key : ∃ a k, v = .ref a ∧ (∀ O H, Rp (gx X cl) O H r.frz v → ∃ vs, SqK X.K H a vs k ∧ RpA (gx X cl) O H xs vs) ∧ xs.length ≤ sizeLine := by
        cases hd : r.frz with
        | lst ds =>
          rw [hd] at e2 rp
          cases e2
          have rp' := rp
          simp only [Rp] at rp'
          obtain ⟨a, vs, rfl, t, ra⟩ := rp'
          refine ⟨a, .l, rfl, fun O H h => ?_, by rw [ra.length]; exact t.1⟩
          simp only [Rp] at h
          obtain ⟨a', vs', ea, t', ra'⟩ := h
          cases ea
          exact ⟨vs', t'.sq, ra'⟩
        | tup ds =>
          rw [hd] at e2 rp
          cases e2
          have rp' := rp
          simp only [Rp] at rp'
          obtain ⟨a, vs, rfl, t, ra⟩ := rp'
          refine ⟨a, .t, rfl, fun O H h => ?_, by rw [ra.length]; exact t.1⟩
          simp only [Rp] at h
          obtain ⟨a', vs', ea, t', ra'⟩ := h
          cases ea
          exact ⟨vs', t'.sq, ra'⟩
        | _ => rw [hd] at e2; cases e2
      obtain ⟨a, k, ev, hq, hl⟩ := key
      obtain ⟨vs0', hq0, _⟩ := hq O2 H1 rp
      refine ⟨a, k, ev, ⟨vs0', hq0⟩, hw _ r.frz v O2 W2 H1 (st1.trans sr.wf st2) sr2 rp ⟨hl, fun O H i d h hd => ?_, fun O H h => ?_⟩⟩
      · obtain ⟨vs, hq', ra⟩ := hq O H h
        obtain ⟨v, hv, rv⟩ := ra.getD hd
        cases k with
        | l => exact ⟨⟨vs, v, hq', hv⟩, fun x H3 ⟨e3, hy⟩ => by
            subst e3
            have : x = v := Option.some.inj ((hy vs hq').symm.trans hv)
            subst this
            exact ⟨Same.refl _, rv⟩⟩
        | t => exact ⟨⟨vs, v, hq', hv⟩, fun x H3 ⟨e3, hy⟩ => by
            subst e3
            have : x = v := Option.some.inj ((hy vs hq').symm.trans hv)
            subst this
            exact ⟨Same.refl _, rv⟩⟩
      · obtain ⟨vs, hq', ra⟩ := hq O H h
        cases k with
        | l => exact ⟨vs, hq', Nat.le_of_eq ra.length.symm⟩
        | t => exact ⟨vs, hq', Nat.le_of_eq ra.length.symm⟩
def dRngA (ρ : List SD) : List D → Rs (List D × List SD)
  | [.int j] => if rngOk j ∧ j.toNat ≤ sizeLine then .ok (rangeD 0 j.toNat, ρ) else .bad
  | _ => .bad
def dRngB (ρ : List SD) : List D → Rs (List D × List SD)
  | [.int i, .int j] => if rngOk i ∧ rngOk j ∧ (j - i).toNat ≤ sizeLine then .ok (rangeD i (j - i).toNat, ρ) else .bad
  | _ => .bad
def dRng1 (fl : List LOp) : So := fun ρ => (ops fl ρ).bind fun q => dRngA q.2 q.1
def dRng2 (fl : List LOp) : So := fun ρ => (ops fl ρ).bind fun q => dRngB q.2 q.1
theorem wlkD_rng {G : Gx} {lo : Int} {n : Nat} (h : n ≤ sizeLine) : WlkD G (Itr lo n) (rangeD lo n) .non .non := by
  refine ⟨by simpa [rangeD] using h, fun O H i d _ hd => ?_, fun O H _ => ?_⟩
  · unfold rangeD at hd
    rw [List.getElem?_map] at hd
    obtain ⟨k, hk, rfl⟩ := Option.map_eq_some_iff.mp hd
    obtain ⟨hl, e⟩ := List.getElem?_eq_some_iff.mp hk
    rw [List.getElem_range] at e
    subst e
    have hl' : i < n := by simpa using hl
    refine ⟨hl', fun x H3 ⟨e1, e2⟩ => ?_⟩
    subst e1 e2
    exact ⟨Same.refl _, by simp only [Rp]⟩
  · show n ≤ (rangeD lo n).length
    simp [rangeD]
theorem dj_rng1 {tg a : Expr} {fl : List LOp} {p pos : Pos} (hg : Gl X "range") (hm : X.mg "range" = none) (h : OJ X cl vs0 Wx [a] fl) (hs : starEach [a] X.env = [(false, eval a X.env)] := by rfl) : DJ X cl vs0 Wx tg (.Call (.Name "range" p) [a] [] pos) (dRng1 fl) := by
  obtain ⟨ts, ha, pa, q⟩ := h.ex
  refine ⟨⟨_, pi_range1 hg hm pa hs, fun O W σ H ρ R sr hw => q O W σ H ρ _ sr ?_⟩⟩
  unfold dRng1 at hw
  cases e : ops fl ρ with
  | bad => rw [e] at hw; exact hw
  | exc c fs ρ' => rw [e] at hw; exact hw
  | ok m =>
    obtain ⟨ds, ρ1⟩ := m
    rw [e] at hw
    intro vs O' W' H' st sr' ho
    have hw : AftD (gx X cl) vs0 Wx O W σ H R (dRngA ρ1 ds) := hw
    unfold dRngA at hw
    split at hw
    · split at hw
      · rename_i hz
        obtain ⟨v, ev, h1⟩ := ho.one
        refine ⟨_, by rw [ev, h1.int], hz.1.1, hz.1.2, hw _ .non .non O' W' H' st sr' (by simp only [Rp]) (wlkD_rng hz.2)⟩
      · exact hw.elim
    · exact hw.elim
theorem dj_rng2 {tg a b : Expr} {fl : List LOp} {p pos : Pos} (hg : Gl X "range") (hm : X.mg "range" = none) (h : OJ X cl vs0 Wx [a, b] fl) (hs : starEach [a, b] X.env = [(false, eval a X.env), (false, eval b X.env)] := by rfl) (hs2 : starEach [b] X.env = [(false, eval b X.env)] := by rfl) : DJ X cl vs0 Wx tg (.Call (.Name "range" p) [a, b] [] pos) (dRng2 fl) := by
  obtain ⟨ts, ha, pa, q⟩ := h.ex
  refine ⟨⟨_, pi_range2 hg hm pa hs hs2, fun O W σ H ρ R sr hw => q O W σ H ρ _ sr ?_⟩⟩
  unfold dRng2 at hw
  cases e : ops fl ρ with
  | bad => rw [e] at hw; exact hw
  | exc c fs ρ' => rw [e] at hw; exact hw
  | ok m =>
    obtain ⟨ds, ρ1⟩ := m
    rw [e] at hw
    intro vs O' W' H' st sr' ho
    have hw : AftD (gx X cl) vs0 Wx O W σ H R (dRngB ρ1 ds) := hw
    unfold dRngB at hw
    split at hw
    · split at hw
      · rename_i hz
        obtain ⟨v, u, ev, h1, h2⟩ := ho.two
        refine ⟨_, _, by rw [ev, h1.int, h2.int], ⟨hz.1.1, hz.1.2, hz.2.1.1, hz.2.1.2⟩, hw _ .non .non O' W' H' st sr' (by simp only [Rp]) (wlkD_rng hz.2.2)⟩
      · exact hw.elim
    · exact hw.elim
theorem dj_all {ι : Type} {Xs : ι → Cx} {K : PySem.W.Frag} {tg iter : Expr} {s : So} (hK : ∀ c, (Xs c).K = K) (h : ∀ c, DJ (Xs c) cl vs0 Wx tg iter s) : ∃ wi : TI, (∀ c, PI (Xs c) tg iter wi) ∧ ∀ O W σ H ρ R, SR (gk K cl) vs0 O W σ H ρ → AftD (gk K cl) vs0 Wx O W σ H R (s ρ) → wi σ H R := by
  refine ⟨fun σ H R => ∃ O W ρ, SR (gk K cl) vs0 O W σ H ρ ∧ AftD (gk K cl) vs0 Wx O W σ H R (s ρ), fun c => ⟨fun pins s σ H R I hw => ?_⟩, fun O W σ H ρ Q sr hw => ⟨O, W, ρ, sr, hw⟩⟩
  obtain ⟨t, p, q⟩ := (h c).ex
  obtain ⟨O, W, ρ, sr, hw⟩ := hw
  have e := hK c
  subst e
  exact p.run pins s σ H R I (q O W σ H ρ R sr hw)
noncomputable def lc2L (m : Itm) (st : Tg) (test : Sb) (s1 : So) (st1 : Tg) (test1 : Sb) (elt : Sx) (vs vs1 : List Nat) : List D → List SD → Rs (List D × List SD)
  | [], ρ => .ok ([], ρ)
  | d :: ds, ρ => match st d ρ with
    | some ρ1 => match test ρ1 with
      | .ok (true, ρ2) => match s1 ρ2 with
        | .ok (xs, ρ3) => match lcL ⟨xs, []⟩ st1 test1 elt vs1 xs (wipeR ρ3 vs1) with
          | .ok (es, ρ4) => if m.keep (wipeR ρ4 vs) then (lc2L m st test s1 st1 test1 elt vs vs1 ds (wipeR ρ4 vs)).bind fun q => .ok (es ++ q.1, q.2) else .bad
          | _ => .bad
        | _ => .bad
      | .ok (false, ρ2) => if m.keep (wipeR ρ2 vs) then lc2L m st test s1 st1 test1 elt vs vs1 ds (wipeR ρ2 vs) else .bad
      | _ => .bad
    | none => .bad
noncomputable def xLc2 (src : Src) (st : Tg) (test : Sb) (s1 : So) (st1 : Tg) (test1 : Sb) (elt : Sx) (vs vs1 : List Nat) : Sx := fun ρ => (src ρ).bind fun p => if p.1.keep (wipeR p.2 vs) ∧ (∀ b ∈ p.1.bor, b.1 ∉ vs) then
  match lc2L p.1 st test s1 st1 test1 elt vs vs1 p.1.xs (wipeR p.2 vs) with
  | .ok (ds, ρ') => if ds.length ≤ sizeLine then .ok (.own ds, backR p.2 ρ' vs) else .bad
  | _ => .bad
  else .bad
theorem wipe_sub {σ : L2.St} {vs vs1 : List Nat} (hv : ∀ i ∈ vs1, i ∈ vs) : wipe (wipe σ vs1) vs = wipe σ vs := by
  apply List.ext_getElem?
  intro i
  have key : ∀ (τ : L2.St) (ws : List Nat), i ∈ ws → (wipe τ ws)[i]? = if i < τ.length then some none else none := by
    intro τ ws
    induction ws with
    | nil => intro h; cases h
    | cons w ws ih =>
      intro h
      unfold wipe
      by_cases e : w = i
      · subst e
        by_cases hl : w < τ.length
        · rw [List.getElem?_set_self (by rw [wipe_length]; exact hl), if_pos hl]
        · rw [if_neg hl]
          exact List.getElem?_eq_none (by rw [List.length_set, wipe_length]; omega)
      · rw [List.getElem?_set_ne e]
        rcases List.mem_cons.mp h with z | z
        · exact absurd z.symm e
        · exact ih z
  by_cases h : i ∈ vs
  · rw [key _ _ h, key _ _ h, wipe_length]
  · rw [wipe_get h, wipe_get h, wipe_get (fun z => h (hv i z))]
theorem keep_none {xs : List D} {ρ : List SD} : Itm.keep ⟨xs, []⟩ ρ := fun p hp => absurd hp (by simp)
theorem lc2_sound {wi wi1 : TI} {g g1 : TG} {tt tt1 : TT} {te : TE} {src : Src} {s1 : So} {st st1 : Tg} {is is1 : List Nat} {test test1 : Sb} {f : Sx} {vs vs1 : List Nat} (his : ∀ i ∈ is, i ∈ vs) (his1 : ∀ i ∈ is1, i ∈ vs1) (hv : ∀ i ∈ vs1, i ∈ vs)
    (q1 : ∀ O W σ H ρ R, SR (gx X cl) vs0 O W σ H ρ → AftI (gx X cl) vs0 Wx O W σ H R (src ρ) → wi σ H R)
    (q2 : ∀ O W σ H ρ ρ' d v Q, SR (gx X cl) vs0 O W σ H ρ → Rp (gx X cl) O H d v → st d ρ = some ρ' → (∀ σ', SR (gx X cl) vs0 O W σ' H ρ' → (∀ vs, (∀ i ∈ is, i ∈ vs) → wipe σ' vs = wipe σ vs) → Q σ' H) → g v σ H Q)
    (q3 : ∀ O W σ H ρ Q, SR (gx X cl) vs0 O W σ H ρ → AftB (gx X cl) vs0 WX0 O W σ H Q (test ρ) → tt σ H Q)
    (r1 : ∀ O W σ H ρ R, SR (gx X cl) vs0 O W σ H ρ → AftD (gx X cl) vs0 WX0 O W σ H R (s1 ρ) → wi1 σ H R)
    (r2 : ∀ O W σ H ρ ρ' d v Q, SR (gx X cl) vs0 O W σ H ρ → Rp (gx X cl) O H d v → st1 d ρ = some ρ' → (∀ σ', SR (gx X cl) vs0 O W σ' H ρ' → (∀ vs, (∀ i ∈ is1, i ∈ vs) → wipe σ' vs = wipe σ vs) → Q σ' H) → g1 v σ H Q)
    (r3 : ∀ O W σ H ρ Q, SR (gx X cl) vs0 O W σ H ρ → AftB (gx X cl) vs0 WX0 O W σ H Q (test1 ρ) → tt1 σ H Q)
    (q4 : ∀ O W σ H ρ Q, SR (gx X cl) vs0 O W σ H ρ → AftE (gx X cl) vs0 WX0 O W σ H Q (f ρ) → te σ H Q) :
    ∀ O W σ H ρ Q, SR (gx X cl) vs0 O W σ H ρ → AftE (gx X cl) vs0 Wx O W σ H Q (xLc2 src st test s1 st1 test1 f vs vs1 ρ) → tLc2 wi g tt wi1 g1 tt1 te vs vs1 σ H Q := by
  intro O W σ H ρ Q sr hw
  refine q1 O W σ H ρ _ sr ?_
  unfold xLc2 at hw
  cases e : src ρ with
  | bad => rw [e] at hw; exact hw
  | exc c fs ρ' => rw [e] at hw; exact hw
  | ok pm =>
    obtain ⟨m, ρ1⟩ := pm
    rw [e] at hw
    have hw : AftE (gx X cl) vs0 Wx O W σ H Q (if m.keep (wipeR ρ1 vs) ∧ (∀ b ∈ m.bor, b.1 ∉ vs) then
      match lc2L m st test s1 st1 test1 f vs vs1 m.xs (wipeR ρ1 vs) with
      | .ok (ds, ρ') => if ds.length ≤ sizeLine then .ok (.own ds, backR ρ1 ρ' vs) else .bad
      | _ => .bad
      else .bad) := hw
    intro J O1 W1 H1 st1' sr1 hk wk p np
    split at hw
    · rename_i hcond
      cases eL : lc2L m st test s1 st1 test1 f vs vs1 m.xs (wipeR ρ1 vs) with
      | bad => rw [eL] at hw; exact hw.elim
      | exc c fs ρ' => rw [eL] at hw; exact hw.elim
      | ok pe =>
        obtain ⟨all, ρe⟩ := pe
        rw [eL] at hw
        have hw : AftE (gx X cl) vs0 Wx O W σ H Q (if all.length ≤ sizeLine then .ok (.own all, backR ρ1 ρe vs) else .bad) := hw
        split at hw
        · rename_i hall0
          have hslots : m.slots σ (wipe σ vs) := fun b hb => wipe_get (hcond.2 b hb)
          have sm0 : Same H1 (upd H1 p (.lst [])) := same_upd np
          have st0 : Stp O1 W1 H1 (p :: O1) W1 (upd H1 p (.lst [])) := Stp.addO sm0 np
          have w0 : Wf (p :: O1) W1 (upd H1 p (.lst [])) := ⟨fun b hb => List.mem_cons_of_mem _ (sr1.wf.sub b hb), fun b hb => by
            rcases List.mem_cons.mp hb with z | z
            · rw [z]; exact noD_not upd_same
            · exact (sr1.wf.same sm0).trk b z⟩
          have pW : p ∉ W1 := fun z => sr1.wf.trk p (sr1.wf.sub p z) (noD_none np)
          have sr0 : SR (gx X cl) vs0 (p :: O1) W1 (wipe σ vs) (upd H1 p (.lst [])) (wipeR ρ1 vs) := (sr1.wipe vs).step w0 st0 (fun _ h => h) (fun b o _ e => sm0 b o e) (sr1.tabs.tc.ext sm0)
          have nop : ∀ b, H1 b ≠ none → b ≠ p := fun b hb z => hb (z ▸ np)
          refine ⟨fun i k H2 => ∃ O2 W2 ρ2 ds acc ads es, k = ds.length ∧ i + ds.length = m.xs.length ∧ m.xs.drop i = ds ∧ Stp O1 W1 H1 O2 W2 H2 ∧ Held p acc O2 W2 H2 ∧ RpA (gx X cl) O2 H2 ads acc ∧
            SR (gx X cl) vs0 O2 W2 (wipe σ vs) H2 ρ2 ∧ m.keep ρ2 ∧ lc2L m st test s1 st1 test1 f vs vs1 ds ρ2 = .ok (es, ρe) ∧ ads ++ es = all,
            ⟨m.xs.length, p :: O1, W1, _, m.xs, [], [], all, rfl, Nat.zero_add _, rfl, st0, ⟨by simp, pW, upd_same⟩, by simp only [RpA], sr0, hcond.1, eL, rfl⟩, ?_⟩
          rintro i k H2 ⟨O2, W2, ρ2, ds, acc, ads, es, rfl, hlen, hdrop, st2, hd2, ra, sr2, hkp, hL, hall⟩
          cases ds with
          | nil =>
            have hi : i = m.xs.length := by simpa using hlen
            subst hi
            have hL : Rs.ok (([] : List D), ρ2) = .ok (es, ρe) := hL
            injection hL with hL
            injection hL with e1 e2
            subst e1 e2
            rw [List.append_nil] at hall
            subst hall
            refine .inl ⟨wk.stop O2 W2 (wipe σ vs) H2 ρ2 st2 sr2 hslots hkp, ?_⟩
            refine hw (.ref p) O2 (p :: W2) H2 (st1'.trans sr.wf (st2.addW np)) ((sr1.unwipe st2 sr2).addW hd2.o) ⟨p, rfl, ⟨List.mem_cons_self, acc, hd2.h, by rw [← ra.length]; exact hall0, ra⟩, fun j s es ms z => ?_⟩
            have sr3 := sr1.unwipe st2 sr2
            have : ∃ xs, s = .own xs ∨ s = .byr xs := by
              cases s with
              | own xs => exact ⟨xs, .inl rfl⟩
              | byr xs => exact ⟨xs, .inr rfl⟩
              | xn _ _ => cases ms
              | gv => cases ms
              | no => cases ms
              | sh d => cases ms
            obtain ⟨ys, hs⟩ := this
            obtain ⟨b, eb, ob⟩ := sr3.getOwn es hs
            rw [eb] at z; cases z
            exact hd2.w ob.1
          | cons d ds =>
            have hd : m.xs[i]? = some d := by
              have : (m.xs.drop i)[0]? = some d := by rw [hdrop]; rfl
              rw [List.getElem?_drop] at this
              simpa using this
            have hlt : i < m.xs.length := (List.getElem?_eq_some_iff.mp hd).1
            obtain ⟨hgo, hy⟩ := wk.go O2 W2 (wipe σ vs) H2 ρ2 i d st2 sr2 hslots hkp hd
            have hdr : m.xs.drop (i + 1) = ds := by rw [← List.drop_drop, hdrop]; rfl
            have hln : i + 1 + ds.length = m.xs.length := by rw [← hlen, List.length_cons]; omega
            refine .inr ⟨hgo, _, fun H' hN => ⟨ds.length, Nat.lt_succ_self _, hN⟩, fun x H3 hyl => ?_⟩
            obtain ⟨sm, rp⟩ := hy x H3 hyl
            have sr3 := sr2.same sm
            have st3 : Stp O2 W2 H2 O2 W2 H3 := Stp.same sm
            have st13 := st2.trans sr1.wf st3
            have hd3 := hd2.step st3
            have ra3 := ra.step sr2.wf st3
            unfold lc2L at hL
            cases es1 : st d ρ2 with
            | none => rw [es1] at hL; cases hL
            | some ρ3 =>
              rw [es1] at hL
              dsimp only at hL
              refine q2 O2 W2 (wipe σ vs) H3 ρ2 ρ3 d x _ sr3 rp es1 fun σ4 sr4 hwp => ?_
              have hwp : wipe σ4 vs = wipe σ vs := (hwp vs his).trans wipe_wipe
              refine ⟨hwp, q3 O2 W2 σ4 H3 ρ3 _ sr4 ?_⟩
              cases et : test ρ3 with
              | bad => rw [et] at hL; cases hL
              | exc c fs ρ' => rw [et] at hL; cases hL
              | ok bt =>
                obtain ⟨b, ρ4⟩ := bt
                intro O5 W5 H5 st5 sr5
                have hd5 := hd3.step st5
                have ra5 := ra3.step sr3.wf st5
                have st15 := st13.trans sr1.wf st5
                cases b with
                | false =>
                  rw [et] at hL
                  have hL : (if m.keep (wipeR ρ4 vs) then lc2L m st test s1 st1 test1 f vs vs1 ds (wipeR ρ4 vs) else .bad) = .ok (es, ρe) := hL
                  split at hL
                  · rename_i hkp5
                    have sr6 := sr5.wipe vs
                    rw [hwp] at sr6
                    exact ⟨O5, W5, _, ds, acc, ads, es, rfl, hln, hdr, st15, hd5, ra5, sr6, hkp5, hL, hall⟩
                  · cases hL
                | true =>
                  rw [et] at hL
                  dsimp only at hL
                  refine r1 O5 W5 σ4 H5 ρ4 _ sr5 ?_
                  cases e6 : s1 ρ4 with
                  | bad => rw [e6] at hL; cases hL
                  | exc c fs ρ' => rw [e6] at hL; cases hL
                  | ok px =>
                    obtain ⟨xs, ρ5⟩ := px
                    rw [e6] at hL
                    dsimp only at hL
                    cases e7 : lcL ⟨xs, []⟩ st1 test1 f vs1 xs (wipeR ρ5 vs1) with
                    | bad => rw [e7] at hL; cases hL
                    | exc c fs ρ' => rw [e7] at hL; cases hL
                    | ok pin =>
                      obtain ⟨ei, ρ6⟩ := pin
                      rw [e7] at hL
                      have hL : (if m.keep (wipeR ρ6 vs) then (lc2L m st test s1 st1 test1 f vs vs1 ds (wipeR ρ6 vs)).bind fun q => .ok (ei ++ q.1, q.2) else .bad) = .ok (es, ρe) := hL
                      split at hL
                      · rename_i hkp6
                        cases e8 : lc2L m st test s1 st1 test1 f vs vs1 ds (wipeR ρ6 vs) with
                        | bad => rw [e8] at hL; cases hL
                        | exc c fs ρ' => rw [e8] at hL; cases hL
                        | ok pq =>
                          obtain ⟨eo, ρeo⟩ := pq
                          rw [e8] at hL
                          have hL : Rs.ok (ei ++ eo, ρeo) = Rs.ok (es, ρe) := hL
                          injection hL with hL
                          injection hL with e9 e10
                          subst e9 e10
                          intro J1 dc vc O6 W6 H6 st6 sr6 rc wk1
                          have hd6 := hd5.step st6
                          have ra6 := ra5.step sr5.wf st6
                          have st16 := st15.trans sr1.wf st6
                          have hws : wipe (wipe σ4 vs1) vs = wipe σ vs := (wipe_sub hv).trans hwp
                          refine ⟨fun j k H7 => ∃ O7 W7 ρ7 ds1 acc1 ads1 es1, k = ds1.length ∧ j + ds1.length = xs.length ∧ xs.drop j = ds1 ∧ Stp O1 W1 H1 O7 W7 H7 ∧ Held p acc1 O7 W7 H7 ∧ RpA (gx X cl) O7 H7 ads1 acc1 ∧
                            SR (gx X cl) vs0 O7 W7 (wipe σ4 vs1) H7 ρ7 ∧ Rp (gx X cl) O7 H7 dc vc ∧ lcL ⟨xs, []⟩ st1 test1 f vs1 ds1 ρ7 = .ok (es1, ρ6) ∧ ads1 ++ es1 = ads ++ ei,
                            ⟨xs.length, O6, W6, _, xs, acc, ads, ei, rfl, Nat.zero_add _, rfl, st16, hd6, ra6, sr6.wipe vs1, rc, e7, rfl⟩, ?_⟩
                          rintro j k H7 ⟨O7, W7, ρ7, ds1, acc1, ads1, es1, rfl, hlen1, hdrop1, st7, hd7, ra7, sr7, rc7, hL1, hall1⟩
                          cases ds1 with
                          | nil =>
                            have hj : j = xs.length := by simpa using hlen1
                            subst hj
                            have hL1 : Rs.ok (([] : List D), ρ7) = .ok (es1, ρ6) := hL1
                            injection hL1 with hL1
                            injection hL1 with e11 e12
                            subst e11 e12
                            rw [List.append_nil] at hall1
                            subst hall1
                            have sr8 := sr7.wipe vs
                            rw [hws] at sr8
                            exact .inl ⟨wk1.stop O7 H7 rc7, O7, W7, _, ds, acc1, ads ++ ei, eo, rfl, hln, hdr, st7, hd7, ra7, sr8, hkp6, e8, by rw [List.append_assoc]; exact hall⟩
                          | cons d1 ds1 =>
                            have hd1 : xs[j]? = some d1 := by
                              have : (xs.drop j)[0]? = some d1 := by rw [hdrop1]; rfl
                              rw [List.getElem?_drop] at this
                              simpa using this
                            obtain ⟨hgo1, hy1⟩ := wk1.go O7 H7 j d1 rc7 hd1
                            have hdr1 : xs.drop (j + 1) = ds1 := by rw [← List.drop_drop, hdrop1]; rfl
                            have hln1 : j + 1 + ds1.length = xs.length := by rw [← hlen1, List.length_cons]; omega
                            refine .inr ⟨hgo1, _, fun H' hN => ⟨ds1.length, Nat.lt_succ_self _, hN⟩, fun x1 H8 hyl1 => ?_⟩
                            obtain ⟨sm8, rp8⟩ := hy1 x1 H8 hyl1
                            have sr8 := sr7.same sm8
                            have st8 : Stp O7 W7 H7 O7 W7 H8 := Stp.same sm8
                            have st18 := st7.trans sr1.wf st8
                            have hd8 := hd7.step st8
                            have ra8 := ra7.step sr7.wf st8
                            have rc8 := rc7.step sr7.wf st8
                            unfold lcL at hL1
                            cases es2 : st1 d1 ρ7 with
                            | none => rw [es2] at hL1; cases hL1
                            | some ρ8 =>
                              rw [es2] at hL1
                              dsimp only at hL1
                              refine r2 O7 W7 (wipe σ4 vs1) H8 ρ7 ρ8 d1 x1 _ sr8 rp8 es2 fun σ9 sr9 hwp9 => ?_
                              have hwp9 : wipe σ9 vs1 = wipe σ4 vs1 := (hwp9 vs1 his1).trans wipe_wipe
                              refine ⟨hwp9, r3 O7 W7 σ9 H8 ρ8 _ sr9 ?_⟩
                              cases et1 : test1 ρ8 with
                              | bad => rw [et1] at hL1; cases hL1
                              | exc c fs ρ' => rw [et1] at hL1; cases hL1
                              | ok bt1 =>
                                obtain ⟨b1, ρ9⟩ := bt1
                                intro O10 W10 H10 st10 sr10
                                have hd10 := hd8.step st10
                                have ra10 := ra8.step sr8.wf st10
                                have rc10 := rc8.step sr8.wf st10
                                have st110 := st18.trans sr1.wf st10
                                cases b1 with
                                | false =>
                                  rw [et1] at hL1
                                  have hL1 : (if Itm.keep ⟨xs, []⟩ (wipeR ρ9 vs1) then lcL ⟨xs, []⟩ st1 test1 f vs1 ds1 (wipeR ρ9 vs1) else .bad) = .ok (es1, ρ6) := hL1
                                  rw [if_pos keep_none] at hL1
                                  have sr11 := sr10.wipe vs1
                                  rw [hwp9] at sr11
                                  exact ⟨O10, W10, _, ds1, acc1, ads1, es1, rfl, hln1, hdr1, st110, hd10, ra10, sr11, rc10, hL1, hall1⟩
                                | true =>
                                  rw [et1] at hL1
                                  dsimp only at hL1
                                  refine q4 O10 W10 σ9 H10 ρ9 _ sr10 ?_
                                  cases ef : f ρ9 with
                                  | bad => rw [ef] at hL1; cases hL1
                                  | exc c fs ρ' => rw [ef] at hL1; cases hL1
                                  | ok pr =>
                                    obtain ⟨r, ρ10⟩ := pr
                                    rw [ef] at hL1
                                    have hL1 : (if Itm.keep ⟨xs, []⟩ (wipeR ρ10 vs1) then (lcL ⟨xs, []⟩ st1 test1 f vs1 ds1 (wipeR ρ10 vs1)).bind fun q => .ok (r.frz :: q.1, q.2) else .bad) = .ok (es1, ρ6) := hL1
                                    rw [if_pos keep_none] at hL1
                                    intro y O11 W11 H11 st11 sr11 rr
                                    obtain ⟨O12, W12, st12, sr12, rp12⟩ := rr.frz sr11
                                    have hd12 := (hd10.step st11).step st12
                                    have ra12 := (ra10.step sr10.wf st11).step sr11.wf st12
                                    have rc12 := (rc10.step sr10.wf st11).step sr11.wf st12
                                    have st112 := (st110.trans sr1.wf st11).trans sr1.wf st12
                                    cases eq : lcL ⟨xs, []⟩ st1 test1 f vs1 ds1 (wipeR ρ10 vs1) with
                                    | bad => rw [eq] at hL1; cases hL1
                                    | exc c fs ρ' => rw [eq] at hL1; cases hL1
                                    | ok qq =>
                                      obtain ⟨es3, ρe3⟩ := qq
                                      rw [eq] at hL1
                                      have hL1 : Rs.ok (r.frz :: es3, ρe3) = Rs.ok (es1, ρ6) := hL1
                                      injection hL1 with hL1
                                      injection hL1 with e13 e14
                                      subst e13 e14
                                      have hacc : acc1.length < sizeLine := by
                                        have h1 : acc1.length = ads1.length := ra7.length.symm
                                        have h2 := congrArg List.length hall1
                                        have h3 := congrArg List.length hall
                                        simp only [List.length_append, List.length_cons] at h2 h3
                                        omega
                                      refine ⟨acc1, hd12.h, hacc, ?_⟩
                                      have sr13 := sr12.wipe vs1
                                      rw [hwp9] at sr13
                                      obtain ⟨sr14, gr, gra⟩ := sr13.grow (o' := .lst (acc1 ++ [y])) hd12.o hd12.w hd12.h
                                      refine ⟨O12, W12, _, ds1, acc1 ++ [y], ads1 ++ [r.frz], es3, rfl, hln1, hdr1, ?_, ⟨hd12.o, hd12.w, upd_same⟩, (gra ra12).snoc (gr rp12), sr14, gr rc12, eq, by rw [List.append_assoc]; exact hall1⟩
                                      exact ⟨fun b o eo hb ht => by rw [upd_ne (nop b (by rw [eo]; simp))]; exact st112.keep b o eo hb ht, st112.wnew, st112.onew, fun b hb => noD_upd (st112.trk b hb), st112.ofz⟩
                      · cases hL
        · exact hw.elim
    · exact hw.elim
variable {elt tg iter tg1 iter1 : Expr} {ifs ifs1 : List Expr} {scope : Scope} {own : List (Str × Nat)} {vs1 : List Nat} {pos : Pos} {src : Src} {s1 : So} {st st1 : Tg} {is is1 : List Nat} {test test1 : Sb} {f : Sx}
theorem ej_lc2 (hc : X.calm = true) (hN : X.N.Nodup) (hi : IJ X cl vs0 Wx tg iter src) (ok : BlkOk X.N X.env.scope scope own)
    (hg : ∀ (s : Shared) (H : Hp) (C : Addr) (cs : List (Str × Addr)) (fp : List Addr), GJ (X.blk s H scope (compEnvC scope cs C X.env) fp) cl vs0 tg st is)
    (ht : ∀ (s : Shared) (H : Hp) (C : Addr) (cs : List (Str × Addr)) (fp : List Addr), FJ (X.blk s H scope (compEnvC scope cs C X.env) fp) cl vs0 WX0 ifs test)
    (hi1 : ∀ (s : Shared) (H : Hp) (C : Addr) (cs : List (Str × Addr)) (fp : List Addr), DJ (X.blk s H scope (compEnvC scope cs C X.env) fp) cl vs0 WX0 tg1 iter1 s1)
    (hg1 : ∀ (s : Shared) (H : Hp) (C : Addr) (cs : List (Str × Addr)) (fp : List Addr), GJ (X.blk s H scope (compEnvC scope cs C X.env) fp) cl vs0 tg1 st1 is1)
    (ht1 : ∀ (s : Shared) (H : Hp) (C : Addr) (cs : List (Str × Addr)) (fp : List Addr), FJ (X.blk s H scope (compEnvC scope cs C X.env) fp) cl vs0 WX0 ifs1 test1)
    (he : ∀ (s : Shared) (H : Hp) (C : Addr) (cs : List (Str × Addr)) (fp : List Addr), EJ (X.blk s H scope (compEnvC scope cs C X.env) fp) cl vs0 WX0 elt f) (his : ∀ i ∈ is, i ∈ own.map (·.2)) (his1 : ∀ i ∈ is1, i ∈ vs1) (hv : ∀ i ∈ vs1, i ∈ own.map (·.2)) (hs1 : ∀ env x, foldedSetIterable iter1 env x = pure x := by intro _ _; rfl) :
    EJ X cl vs0 Wx (.ListComp elt [⟨tg, iter, ifs, 0⟩, ⟨tg1, iter1, ifs1, 0⟩] scope pos) (xLc2 src st test s1 st1 test1 f (own.map (·.2)) vs1) := by
  obtain ⟨wi, p1, hs, q1⟩ := hi.ex
  let Xs : Shared × Hp × Addr × List (Str × Addr) × List Addr → Cx := fun c => X.blk c.1 c.2.1 scope (compEnvC scope c.2.2.2.1 c.2.2.1 X.env) c.2.2.2.2
  obtain ⟨g, p2, q2⟩ := gj_all (Xs := Xs) (K := X.K) (fun _ => rfl) fun c => hg c.1 c.2.1 c.2.2.1 c.2.2.2.1 c.2.2.2.2
  obtain ⟨tt, p3, q3⟩ := fj_all (Xs := Xs) (K := X.K) (fun _ => rfl) fun c => ht c.1 c.2.1 c.2.2.1 c.2.2.2.1 c.2.2.2.2
  obtain ⟨wi1, p5, q5⟩ := dj_all (Xs := Xs) (K := X.K) (fun _ => rfl) fun c => hi1 c.1 c.2.1 c.2.2.1 c.2.2.2.1 c.2.2.2.2
  obtain ⟨g1, p6, q6⟩ := gj_all (Xs := Xs) (K := X.K) (fun _ => rfl) fun c => hg1 c.1 c.2.1 c.2.2.1 c.2.2.2.1 c.2.2.2.2
  obtain ⟨tt1, p7, q7⟩ := fj_all (Xs := Xs) (K := X.K) (fun _ => rfl) fun c => ht1 c.1 c.2.1 c.2.2.1 c.2.2.2.1 c.2.2.2.2
  obtain ⟨te, p4, q4⟩ := ej_all (Xs := Xs) (K := X.K) (fun _ => rfl) fun c => he c.1 c.2.1 c.2.2.1 c.2.2.2.1 c.2.2.2.2
  exact ⟨⟨_, pe_lc2 hc hN p1 ok hv (fun s H C cs fp => p2 (s, H, C, cs, fp)) (fun s H C cs fp => p3 (s, H, C, cs, fp)) (fun s H C cs fp => p5 (s, H, C, cs, fp)) (fun s H C cs fp => p6 (s, H, C, cs, fp)) (fun s H C cs fp => p7 (s, H, C, cs, fp)) (fun s H C cs fp => p4 (s, H, C, cs, fp)) hs hs1, lc2_sound his his1 hv q1 q2 q3 q5 q6 q7 q4⟩⟩
theorem sj_setLc2 {i : Nat} {y : Str} {py spos : Pos} (hc : X.calm = true) (hN : X.N.Nodup) (hy : X.N[i]? = some y) (hyl : X.env.scope.names.lookup y = some .local)
    (hsw : swapsWith (.ListComp elt [⟨tg, iter, ifs, 0⟩, ⟨tg1, iter1, ifs1, 0⟩] scope pos) (some (.Name y py)) spos.line X.env = pure true) (hi : IJ X cl vs0 Wx tg iter src) (ok : BlkOk X.N X.env.scope scope own)
    (hg : ∀ (s : Shared) (H : Hp) (C : Addr) (cs : List (Str × Addr)) (fp : List Addr), GJ (X.blk s H scope (compEnvC scope cs C X.env) fp) cl vs0 tg st is)
    (ht : ∀ (s : Shared) (H : Hp) (C : Addr) (cs : List (Str × Addr)) (fp : List Addr), FJ (X.blk s H scope (compEnvC scope cs C X.env) fp) cl vs0 WX0 ifs test)
    (hi1 : ∀ (s : Shared) (H : Hp) (C : Addr) (cs : List (Str × Addr)) (fp : List Addr), DJ (X.blk s H scope (compEnvC scope cs C X.env) fp) cl vs0 WX0 tg1 iter1 s1)
    (hg1 : ∀ (s : Shared) (H : Hp) (C : Addr) (cs : List (Str × Addr)) (fp : List Addr), GJ (X.blk s H scope (compEnvC scope cs C X.env) fp) cl vs0 tg1 st1 is1)
    (ht1 : ∀ (s : Shared) (H : Hp) (C : Addr) (cs : List (Str × Addr)) (fp : List Addr), FJ (X.blk s H scope (compEnvC scope cs C X.env) fp) cl vs0 WX0 ifs1 test1)
    (he : ∀ (s : Shared) (H : Hp) (C : Addr) (cs : List (Str × Addr)) (fp : List Addr), EJ (X.blk s H scope (compEnvC scope cs C X.env) fp) cl vs0 WX0 elt f) (his : ∀ i ∈ is, i ∈ own.map (·.2)) (his1 : ∀ i ∈ is1, i ∈ vs1) (hv : ∀ i ∈ vs1, i ∈ own.map (·.2)) (hs1 : ∀ env x, foldedSetIterable iter1 env x = pure x := by intro _ _; rfl) :
    SJ X cl vs0 Wx (.Assign [.Name y py] (.ListComp elt [⟨tg, iter, ifs, 0⟩, ⟨tg1, iter1, ifs1, 0⟩] scope pos) spos) (sSet i (xLc2 src st test s1 st1 test1 f (own.map (·.2)) vs1)) := by
  obtain ⟨wi, p1, hs, q1⟩ := hi.ex
  let Xs : Shared × Hp × Addr × List (Str × Addr) × List Addr → Cx := fun c => X.blk c.1 c.2.1 scope (compEnvC scope c.2.2.2.1 c.2.2.1 X.env) c.2.2.2.2
  obtain ⟨g, p2, q2⟩ := gj_all (Xs := Xs) (K := X.K) (fun _ => rfl) fun c => hg c.1 c.2.1 c.2.2.1 c.2.2.2.1 c.2.2.2.2
  obtain ⟨tt, p3, q3⟩ := fj_all (Xs := Xs) (K := X.K) (fun _ => rfl) fun c => ht c.1 c.2.1 c.2.2.1 c.2.2.2.1 c.2.2.2.2
  obtain ⟨wi1, p5, q5⟩ := dj_all (Xs := Xs) (K := X.K) (fun _ => rfl) fun c => hi1 c.1 c.2.1 c.2.2.1 c.2.2.2.1 c.2.2.2.2
  obtain ⟨g1, p6, q6⟩ := gj_all (Xs := Xs) (K := X.K) (fun _ => rfl) fun c => hg1 c.1 c.2.1 c.2.2.1 c.2.2.2.1 c.2.2.2.2
  obtain ⟨tt1, p7, q7⟩ := fj_all (Xs := Xs) (K := X.K) (fun _ => rfl) fun c => ht1 c.1 c.2.1 c.2.2.1 c.2.2.2.1 c.2.2.2.2
  obtain ⟨te, p4, q4⟩ := ej_all (Xs := Xs) (K := X.K) (fun _ => rfl) fun c => he c.1 c.2.1 c.2.2.1 c.2.2.2.1 c.2.2.2.2
  exact ⟨⟨_, ps_setLc2 hc hN hy hyl hsw p1 ok hv (fun s H C cs fp => p2 (s, H, C, cs, fp)) (fun s H C cs fp => p3 (s, H, C, cs, fp)) (fun s H C cs fp => p5 (s, H, C, cs, fp)) (fun s H C cs fp => p6 (s, H, C, cs, fp)) (fun s H C cs fp => p7 (s, H, C, cs, fp)) (fun s H C cs fp => p4 (s, H, C, cs, fp)) hs hs1,
    fun O W σ H ρ E sr hw => lc2_sound his his1 hv q1 q2 q3 q5 q6 q7 q4 O W σ H ρ _ sr (e_core sr.wf hw fun v s ρ' O' W' H' sr' rr hk => hk _ O' W' H' Stp.refl (sr'.put rr))⟩⟩
end
end Wm
end

section
/-! isinstance of what was caught. -/
namespace Wm
open PySem PySem.Spec PyProof.Rows L2
/-- what the class of a refusal must say, so that isinstance asks it rightly -/
structure KxC (K : PySem.W.Frag) (C : Addr) : Prop where
  cl : (PySem.W.clsIn K C).isSome = true
  ga : PySem.W.findIn K (.ref C) "__getattribute__" = some (some (.builtin "BaseException.__getattribute__"))
  gt : PySem.W.findIn K (.ref C) "__getattr__" = some none
  ex : PySem.W.subIn K (.ref C) (.type "BaseException") = some true
  ha : PySem.W.findIn K (.ref C) "__class__" = some (some (.builtin "object.__class__"))
  hn : PySem.W.specialIn K (.builtin "object.__class__") "__get__" = some (some (.builtin "getset_descriptor.__get__"))
  tk : PySem.W.takesIn K (.builtin "object.__class__") = some true
  hm : PySem.W.mroIn K C (.type "object") = some true
theorem cls_some {K : PySem.W.Frag} {C : Addr} (h : PySem.W.hasDictIn K C = true) : (PySem.W.clsIn K C).isSome = true := by
  obtain ⟨cd, hc, _⟩ := PySem.W.any_some h
  rw [hc]
  rfl
section
variable {X : Cx} {cl : Cl} {vs0 : List V} {Wx : WX}
def rIsX (K : PySem.W.Frag) (a : Addr) (cls : Value) (d : Option Addr) : List V → Hp → VK → Prop := fun xs H Q => ∃ (c : V) (cv : Value) (b : Bool) (C dd : Addr) (fs : List (Str × V)), xs = [.ref a, c] ∧ ClsV c cv ∧ cls = .ref C ∧ d = some dd ∧ H dd = some (.xd fs) ∧ KxC K C ∧ PySem.W.kitOne K (.ref C) cv = some b ∧ Q (.bl b) H
theorem call_isX {a : Addr} {oe : Obj} {cls : Value} {d : Option Addr} {pn : List (Addr × Obj)} (hz : Zc cls d oe) (hf : ∃ vs, oe.data = .fields vs) : CallR (X.suite a ((a, oe) :: pn)) (.builtin "isinstance") (rIsX X.K a cls d) := by
  intro pins s σ H xs us Q I r h
  obtain ⟨c, cv, b, C, dd, fs, rfl, hcv, rfl, rfl, ea, kx, e, q⟩ := h
  cases r with
  | cons rx rr =>
    cases rr with
    | cons rt rr =>
      cases rr
      cases rx
      have ec := hcv.eq rt
      subst ec
      obtain ⟨hget, _⟩ := I.pin (a, oe) (List.mem_append.mpr (.inl List.mem_cons_self))
      obtain ⟨vs, hv⟩ := hf
      have hx : ObjOk X.prog X.w H s.heap dd (.xd fs) := I.hok dd _ ea
      obtain ⟨mA, hns, hr⟩ := hx
      obtain ⟨od, ho, hl⟩ := lookIn_ns hns
      have J : PySem.W.InstAt s.heap a oe C (some od) := ⟨hget, hz.1, by unfold PySem.W.notCls; rw [hv] <;> rfl, by rw [hz.2]; exact ho⟩
      exact PySem.W.kia_one (PySem.W.kitx_exc kx.cl kx.ga kx.gt kx.ex kx.ha kx.hn kx.tk kx.hm) I.kIn J e (fun z => nomatch z) fun tk => ⟨.bl b, H, I.kept (t' := tk) fun _ _ z => z, rfl, q⟩
/-- isinstance(e, C) of what was caught: by its class -/
def isEO (ρ : List SD) (tb : List (Str × Bool)) : Option SD → Rs (SD × List SD)
  | some (.xn c _) => match tb.lookup c with
    | some b => .ok (.sh (.bl b), ρ)
    | none => .bad
  | _ => .bad
def xIsE (i : Nat) (tb : List (Str × Bool)) : Sx := fun ρ => isEO ρ tb ρ[i]?
theorem look_mem {β : Type} {c : Str} {b : β} : ∀ {tb : List (Str × β)}, tb.lookup c = some b → (c, b) ∈ tb
  | [], h => by cases h
  | (c', b') :: tb, h => by
    rw [List.lookup_cons] at h
    by_cases hc : (c == c') = true
    · rw [hc] at h
      have hc := beq_iff_eq.mp hc
      cases h
      subst hc
      exact List.mem_cons_self
    · rw [Bool.not_eq_true] at hc
      rw [hc] at h
      exact List.mem_cons_of_mem _ (look_mem h)
theorem ej_isE {a : Addr} {oe : Obj} {cls : Value} {d : Option Addr} {pn : List (Addr × Obj)} {cl' : Cl} {i : Nat} {e b : Expr} {tb : List (Str × Bool)} {cV : V} {cv : Value} {p pos : Pos} (hz : Zc cls d oe) (hf : ∃ vs, oe.data = .fields vs) (hx : XofOk cl cl' a cls d)
    (hT : ∀ q ∈ tb, KxC X.K (cl.at' q.1) ∧ PySem.W.kitOne X.K (.ref (cl.at' q.1)) cv = some q.2) (hcv : ClsV cV cv) (hm : X.mg "isinstance" = none) (hg : Gl (X.suite a ((a, oe) :: pn)) "isinstance") (he : PE (X.suite a ((a, oe) :: pn)) e (tVar i)) (hc : PE (X.suite a ((a, oe) :: pn)) b (tC cV))
    (hs2 : starEach [b] X.env = (false, eval b X.env) :: starEach [] X.env := by rfl) (hs1 : starEach [e, b] X.env = (false, eval e X.env) :: starEach [b] X.env := by rfl) (hpl : (backTo pos (starEach [b] X.env)).any (·.1) = false := by rfl) :
    EJ (X.suite a ((a, oe) :: pn)) cl' vs0 Wx (.Call (.Name "isinstance" p) [e, b] [] pos) (xIsE i tb) := by
  refine ⟨⟨_, pe_callB (call_isX hz hf) hg hm (by decide +kernel) (pa_cons he (pa_cons hc pa_nil hs2) hs1) (by decide) (by decide) hs1 hpl, fun O W σ H ρ Q sr hw => ?_⟩⟩
  unfold xIsE isEO at hw
  split at hw
  · rename_i c fs e0
    split at hw
    · rename_i bb eb
      obtain ⟨bA, p', gs, ev, xb, hp, hn, hr⟩ := sr.slot i _ e0
      obtain ⟨rfl, rfl, rfl⟩ := hx.xof bA c p' xb
      obtain ⟨k1, k2⟩ := hT _ (look_mem eb)
      exact ⟨.ref bA, join_some ev, cV, cv, bb, cl.at' c, p', gs, rfl, hcv, rfl, rfl, hp, k1, k2, hw (.bl bb) O W H Stp.refl sr (by simp only [ResR, Rp])⟩
    · exact hw.elim
  · exact hw.elim
end
@[simp] theorem xIsE_ap (i : Nat) (tb : List (Str × Bool)) (ρ : List SD) : xIsE i tb ρ = isEO ρ tb ρ[i]? := (rfl)
def isEB (ρ : List SD) : Option Bool → Rs (SD × List SD)
  | some b => .ok (.sh (.bl b), ρ)
  | none => .bad
@[simp] theorem isEO_ap (ρ : List SD) (tb : List (Str × Bool)) (c : Str) (fs : List (Str × D)) : isEO ρ tb (some (.xn c fs)) = isEB ρ (tb.lookup c) := by
  show (match tb.lookup c with | some b => Rs.ok (SD.sh (D.bl b), ρ) | none => Rs.bad) = _
  cases tb.lookup c <;> rfl
@[simp] theorem isEB_ap (ρ : List SD) (b : Bool) : isEB ρ (some b) = .ok (.sh (.bl b), ρ) := (rfl)
@[simp] theorem lookB_nil (n : Str) : List.lookup n ([] : List (Str × Bool)) = none := (rfl)
@[simp] theorem lookB_cons (n m : Str) (d : Bool) (r : List (Str × Bool)) : List.lookup n ((m, d) :: r) = if n == m then some d else List.lookup n r := by
  rw [List.lookup]
  cases n == m <;> rfl
/-! ### evaluation: two clauses -/
@[simp] theorem dSeq_ap (f : Sx) (ρ : List SD) : dSeq f ρ = (f ρ).bind fun p => (itemsOf p.1.frz).bind fun xs => .ok (xs, p.2) := (rfl)
@[simp] theorem dRng1_ap (fl : List LOp) (ρ : List SD) : dRng1 fl ρ = (ops fl ρ).bind fun q => dRngA q.2 q.1 := (rfl)
@[simp] theorem dRng2_ap (fl : List LOp) (ρ : List SD) : dRng2 fl ρ = (ops fl ρ).bind fun q => dRngB q.2 q.1 := (rfl)
@[simp] theorem dRngA_ap (ρ : List SD) (j : Int) : dRngA ρ [.int j] = if rngOk j ∧ j.toNat ≤ sizeLine then .ok (rangeD 0 j.toNat, ρ) else .bad := (rfl)
@[simp] theorem dRngB_ap (ρ : List SD) (i j : Int) : dRngB ρ [.int i, .int j] = if rngOk i ∧ rngOk j ∧ (j - i).toNat ≤ sizeLine then .ok (rangeD i (j - i).toNat, ρ) else .bad := (rfl)
def lc2Back (vs : List Nat) (ρ : List SD) : Rs (List D × List SD) → Rs (SD × List SD)
  | .ok (ds, ρ') => if ds.length ≤ sizeLine then .ok (.own ds, backR ρ ρ' vs) else .bad
  | _ => .bad
@[simp] theorem lc2Back_ok (vs : List Nat) (ρ : List SD) (ds : List D) (ρ' : List SD) : lc2Back vs ρ (.ok (ds, ρ')) = if ds.length ≤ sizeLine then .ok (.own ds, backR ρ ρ' vs) else .bad := (rfl)
noncomputable def lc2Go (st : Tg) (test : Sb) (s1 : So) (st1 : Tg) (test1 : Sb) (elt : Sx) (vs vs1 : List Nat) (m : Itm) (ρ : List SD) : Rs (SD × List SD) := if m.keep (wipeR ρ vs) ∧ (∀ b ∈ m.bor, b.1 ∉ vs) then lc2Back vs ρ (lc2L m st test s1 st1 test1 elt vs vs1 m.xs (wipeR ρ vs)) else .bad
@[simp] theorem lc2Go_ap (st : Tg) (test : Sb) (s1 : So) (st1 : Tg) (test1 : Sb) (elt : Sx) (vs vs1 : List Nat) (m : Itm) (ρ : List SD) : lc2Go st test s1 st1 test1 elt vs vs1 m ρ = if m.keep (wipeR ρ vs) ∧ (∀ b ∈ m.bor, b.1 ∉ vs) then lc2Back vs ρ (lc2L m st test s1 st1 test1 elt vs vs1 m.xs (wipeR ρ vs)) else .bad := (rfl)
@[simp] theorem xLc2_ap (src : Src) (st : Tg) (test : Sb) (s1 : So) (st1 : Tg) (test1 : Sb) (elt : Sx) (vs vs1 : List Nat) (ρ : List SD) : xLc2 src st test s1 st1 test1 elt vs vs1 ρ = (src ρ).bind fun p => lc2Go st test s1 st1 test1 elt vs vs1 p.1 p.2 := by
  unfold xLc2 lc2Go
  refine congrArg _ (funext fun p => ?_)
  split
  · unfold lc2Back
    rfl
  · rfl
@[simp] theorem lc2L_nil (m : Itm) (st : Tg) (test : Sb) (s1 : So) (st1 : Tg) (test1 : Sb) (elt : Sx) (vs vs1 : List Nat) (ρ : List SD) : lc2L m st test s1 st1 test1 elt vs vs1 [] ρ = .ok ([], ρ) := (rfl)
/-- each turn of the first clause gives a list -/
theorem lc2_mapL {α : Type} {m : Itm} {st : Tg} {s1 : So} {st1 : Tg} {test1 : Sb} {elt : Sx} {vs vs1 : List Nat} {g : α → D} {f : α → List D} {ρ : List SD} : ∀ {xs : List α}, (∀ x ∈ xs, ∃ ρ1 ys ρ3 ρ4, st (g x) ρ = some ρ1 ∧ s1 ρ1 = .ok (ys, ρ3) ∧ lcL ⟨ys, []⟩ st1 test1 elt vs1 ys (wipeR ρ3 vs1) = .ok (f x, ρ4) ∧ wipeR ρ4 vs = ρ ∧ m.keep ρ) → lc2L m st bYes s1 st1 test1 elt vs vs1 (xs.map g) ρ = .ok ((xs.map f).flatten, ρ)
  | [], _ => rfl
  | x :: xs, h => by
    obtain ⟨ρ1, ys, ρ3, ρ4, e1, e2, e3, e4, e5⟩ := h x (by simp)
    have ih := lc2_mapL (xs := xs) fun y hy => h y (List.mem_cons_of_mem _ hy)
    rw [List.map_cons, lc2L, e1]
    simp only [bYes, e2, e3, e4, e5, if_true, ih]
    rfl
end Wm
end

section
/-! An own class's !=, by its own ==. -/
namespace Wm
open PySem PySem.Spec PyProof.Rows L2
section
variable {prog : Program} {w : World} {A A₀ : Around} {E : Value → Shared → Prop} {s : Shared} {K : PySem.W.Frag} {x C L f : Addr} {h₀ : Heap} {m : Str → Option Value} {ox : Obj} {od : Option Obj} {name : Str} {b tb : Value}
open PySem.W in
theorem ifBound_KB {M : Model} {T id : String} {args : List Value} {Q : Option Value → Shared → Prop} (X : K.In s.heap) (I : InstAt s.heap x ox C od) (hs : findIn K (.ref C) name = some (some (.builtin id))) (S : Slot T name id)
    (h : wpAny M A (call (.builtin id) (.ref x :: args)) (fun v => Q (some v)) E s) : wpAny M A (callSpecialIfBound? (.ref x) name args) Q E s := by
  simp only [callSpecialIfBound?, bindSpecialIfBound?]
  refine wpAny_holding (wpAny_bind (wpAny_bind (wpAny_bind (I.type.here ((looks_findIn X hs).here ?_)))))
  simp only [S.bind]
  refine wpAny_bind (wpAny_askSetting (wpAny_ite ?_))
  have fin : wpAny M A (call (.builtin id) ([.ref x] ++ args) >>= fun v => pure (some v)) Q E s := wpAny_bind (wpAny_mono h (fun v s' h' => wpAny_pure h') fun _ _ h' => h')
  split
  · exact wpAny_bind (wpAny_pure (wpAny_pure fin))
  · exact wpAny_tryCatch (wpAny_bind (wpAny_pure (wpAny_pure fin)))
open PySem.W in
theorem objNe_K {Q : Fin → Shared → Prop} (hu : A.units < cLine) (X : K.In s.heap) (I : InstAt s.heap x ox C od) (hs : findIn K (.ref C) "__eq__" = some (some (.ref f))) (hf : isFn K (.ref f) = true)
    (h : wpAny (model prog w) A (call (.ref f) [.ref x, b]) (fun v s' => ∃ r, v = .bool r ∧ Q (.done (.ret (.bool (!r)))) s') E s) : wpAny (model prog w) A (Builtin.«object.__ne__» ⟨[.ref x, b], []⟩) Q E s := by
  unfold Builtin.«object.__ne__»
  refine wpAny_bind (wpAny_of_eq (a := ((Value.ref x : Value), [b])) (by first | rfl | (simp only [slotArgs]; rfl)) ?_)
  refine wpAny_bind (wpAny_cRoomFor hu ?_)
  refine wpAny_bind (ifBound_K X I hs hf (wpAny_mono h (fun v s' hv => ?_) fun _ _ e => e))
  obtain ⟨r, rfl, hq⟩ := hv
  exact wpAny_bind (wpAny_truthy_bool (wpAny_pure hq))
open PySem.W in
theorem cmpNe_K {Q : Value → Shared → Prop} (hu : A.units + 1 < cLine) (F : Fr h₀ L s.heap m) (X₀ : K.In h₀) (I : InstAt s.heap x ox C od) (hb : Looks (model prog w) s.heap (typeOf b) tb) (hn : notFirst K C tb = true)
    (hne : findIn K (.ref C) "__ne__" = some (some (.builtin "object.__ne__"))) (hob : subIn K (.ref C) (.type "object") = some true) (hs : findIn K (.ref C) "__eq__" = some (some (.ref f))) (hf : isFn K (.ref f) = true)
    (h : wpAny (model prog w) A.in1 (call (.ref f) [.ref x, b]) (fun v s' => ∃ r, v = .bool r ∧ Q (.bool (!r)) s') E s) : wpAny (model prog w) A (richCompare .NotEq (.ref x) b) Q E s := by
  have X := X₀.keeps F.keep
  have one : wpAny (model prog w) A (tryCompare (.ref x) "__ne__" b) (fun r s' => ∃ v, r = some v ∧ Q v s') E s := by
    unfold tryCompare
    have S : Slot "range_iterator" "__ne__" "object.__ne__" := PySem.F.slot_range_iterator_ne
    have sub : Looks (model prog w) s.heap (isInstance (.ref x) (.type "object")) true := (I.type (M := model prog w)).andThen (looks_subIn X hob)
    refine wpAny_bind (ifBound_KB X I hne S (wpAny_call (codeAny_call_builtin S.plain PySem.F.cmpEntry_ne ?_)))
    refine @check_slot (model prog w) _ _ s "object.__ne__" "object" "__ne__" (.ref x) [b] [] _ PySem.F.cmpKind_ne PySem.F.cmpSplit_ne sub (PySem.F.cmpArgs_ne _ _) ?_
    refine objNe_K (A := A.in1) hu X I hs hf (wpAny_mono h (fun v s' hv => ?_) fun _ _ e => e)
    obtain ⟨r, rfl, hq⟩ := hv
    exact ⟨r, rfl, wpAny_pure ⟨_, rfl, hq⟩⟩
  unfold richCompare
  simp only [oneThing_ref]
  refine wpAny_holding (wpAny_bind (wpAny_cRoomFor (Nat.lt_of_succ_lt hu) ?_))
  rw [cmpInfo_NotEq]
  dsimp only
  refine wpAny_bind (I.type.here (wpAny_bind (hb.here ?_)))
  split
  · rename_i q
    have e : subIn K tb (.ref C) = some false := by
      rcases Bool.or_eq_true_iff.mp hn with e | e
      · rw [beq_iff_eq.mp e] at q; simp at q
      · exact beq_iff_eq.mp e
    refine wpAny_bind ((looks_subIn X e).here ?_)
    simp only [Bool.false_eq_true, if_false]
    refine wpAny_bind (wpAny_mono one (fun r s' z => ?_) fun _ _ e => e)
    obtain ⟨v, rfl, hq⟩ := z
    exact wpAny_pure hq
  · refine wpAny_bind (wpAny_pure ?_)
    simp only [Bool.false_eq_true, if_false]
    refine wpAny_bind (wpAny_mono one (fun r s' z => ?_) fun _ _ e => e)
    obtain ⟨v, rfl, hq⟩ := z
    exact wpAny_pure hq
end
section
variable {X : Cx} {cl : Cl} {vs0 : List V} {Wx : WX} {a b c e : Expr} {pos p2 : Pos} {fl : List LOp}
theorem run_fnA {CX : CXT} {k : Nat} {f : Addr} {fd : FuncData} {ps : List Str} {sp : Sp} {E : L2.St → XK} {A : Around} {pins : List (Addr × Obj)} {σ : L2.St} {H : Hp} {s : Shared} {Q : VK} {us : List Value} {vs : List V} (F : FnOk X.prog X.w X.K X.mg X.base CX k f fd ps sp) (sb : L2.Sub X k A) (hb : Binds X.K fd ps []) (hx : PassesAt CX X σ (E σ))
    (I : Inv X pins σ H s) (r : Vals vs us) (h : sp vs H Q (E σ)) : wpAny (model X.prog X.w) A (call (.ref f) us) (EP X pins σ Q) X.xe s := by
  have hl : us.length = ps.length := by rw [← r.length]; exact F.len _ _ _ _ h
  have b := hb s us I.kIn (by rw [List.append_nil]; exact hl)
  rw [List.append_nil] at b
  have e0 : Env0 X.prog X.w X.K X.mg X.base A X.stack s H := by
    have e := I.env0
    exact ⟨by rw [sb.fr]; exact e.frames, e.mod, e.bs, e.bsz, e.funs, e.frf, e.hok, e.bare⟩
  refine wpAny_call (codeAny_mono (F.run A X.stack s H ⟨us, []⟩ us vs Q (E σ) sb.room e0 b r h) fun r s' hq => ?_)
  cases r with
  | error e => exact hx pins H s e s' I hq
  | ok fl =>
    cases fl with
    | ret u => exact I.after hq
    | next => exact False.elim hq
    | brk => exact False.elim hq
    | cont => exact False.elim hq
structure NeC (K : PySem.W.Frag) (C : Addr) : Prop where
  ne : PySem.W.findIn K (.ref C) "__ne__" = some (some (.builtin "object.__ne__"))
  ob : PySem.W.subIn K (.ref C) (.type "object") = some true
  nt : PySem.W.subIn K (.type "tuple") (.ref C) = some false
def neR : Rs (SD × List SD) → Rs (SD × List SD)
  | .ok (.sh (.bl b), ρ) => .ok (.sh (.bl (!b)), ρ)
  | _ => .bad
def neF (c : Str) (F : Fn) : Fn := fun as => match as with
  | [.sh (.ins c1 f1), .sh (.ins c2 f2)] => if c1 = c ∧ c2 = c then neR (F [.sh (.ins c1 f1), .sh (.ins c2 f2)]) else .bad
  | [.sh (.ins c1 f1), .sh (.tup ds)] => if c1 = c then neR (F [.sh (.ins c1 f1), .sh (.tup ds)]) else .bad
  | _ => .bad
theorem aft_neR {G : Gx} {vs : List V} {O W : List Addr} {σ : L2.St} {H : Hp} {Q : VK} {Wx : WX} : ∀ {r : Rs (SD × List SD)}, AftE G vs Wx O W σ H Q (neR r) → AftE G vs Wx O W σ H (fun v H' => ∃ b, v = .bl b ∧ Q (.bl (!b)) H') r
  | .ok (.sh (.bl b), ρ), h => fun v O' W' H' st sr rr => by
    have e : v = .bl b := by simpa only [ResR, Rp] using rr
    exact ⟨b, e, h (.bl (!b)) O' W' H' st sr (by simp only [ResR, Rp])⟩
  | .ok (.sh .non, ρ), h => h.elim
  | .ok (.sh (.int _), ρ), h => h.elim
  | .ok (.sh (.str _), ρ), h => h.elim
  | .ok (.sh (.tup _), ρ), h => h.elim
  | .ok (.sh (.lst _), ρ), h => h.elim
  | .ok (.sh (.ins _ _), ρ), h => h.elim
  | .ok (.sh (.scr _), ρ), h => h.elim
  | .ok (.sh .emp, ρ), h => h.elim
  | .ok (.no, ρ), h => h.elim
  | .ok (.own _, ρ), h => h.elim
  | .ok (.byr _, ρ), h => h.elim
  | .ok (.xn _ _, ρ), h => h.elim
  | .ok (.gv, ρ), h => h.elim
  | .exc _ _ _, h => h.elim
  | .bad, h => h.elim
theorem neO_run {k : Nat} {f : Addr} {fd : FuncData} {ps : List Str} {c : Str} {F : Fn} (nc : NeC X.K (cl.at' c)) (hm : Meth X.K (cl.at' c) "__eq__" f) (hF : FnOk X.prog X.w X.K X.mg X.base (L2.CX X.prog X.w) k f fd ps (spF (gx X cl) 2 F)) (hr : Room (k + 1) X.A) (hb : Binds X.K fd ps []) (tk : Takes X Wx) {pins : List (Addr × Obj)} {s2 : Shared} {σ : L2.St} {H2 : Hp} {x y : V} {v u : Value} {Q : VK} (I2 : Inv X pins σ H2 s2) (rx : RelV x v) (ry : RelV y u)
    (q : spF (gx X cl) 2 (neF c F) [x, y] H2 Q fun cc d H' => Wx cc d σ H') : wpAny (model X.prog X.w) X.A (compareOp .NotEq v u) (EP X pins σ Q) X.xe s2 := by
  obtain ⟨_, O, W, as, sr, af⟩ := q
  have hu : X.A.units + 1 < cLine := hr.in1.units0
  unfold neF at af
  split at af
  · rename_i c1 f1 c2 f2
    split at af
    · rename_i hc
      obtain ⟨rfl, rfl⟩ := hc
      obtain ⟨v0, e0, r0⟩ := sr.slot 0 _ rfl
      obtain ⟨v1, e1, r1⟩ := sr.slot 1 _ rfl
      have e0 : x = v0 := by simpa using e0
      have e1 : y = v1 := by simpa using e1
      subst e0 e1
      simp only [Rp] at r0 r1
      obtain ⟨aa, dx, fs, rfl, ha, _, _⟩ := r0
      obtain ⟨bb, dy, gs, rfl, hb', _, _⟩ := r1
      have rx' : v = Value.ref aa := rx
      have ry' : u = Value.ref bb := ry
      subst rx' ry'
      obtain ⟨mA, J, _⟩ := ins_get I2.hok ha
      obtain ⟨mB, J', _⟩ := ins_get I2.hok hb'
      obtain ⟨od, J, _⟩ := J.look
      obtain ⟨od', J', _⟩ := J'.look
      obtain ⟨m, hFr⟩ := I2.fr
      show wpAny (model X.prog X.w) X.A (richCompare .NotEq (.ref aa) (.ref bb)) (EP X pins σ Q) X.xe s2
      refine cmpNe_K (tb := .ref (cl.at' c2)) hu hFr I2.ok.mod.kin J J'.type (by simp [PySem.W.notFirst]) nc.ne nc.ob hm.at_ hm.fn ?_
      have r2 : Vals [V.ref aa, V.ref bb] [Value.ref aa, Value.ref bb] := .cons rfl (.cons rfl .nil)
      refine wpAny_mono (run_fnA (A := X.A.in1) (E := fun σ cc d H' => Wx cc d σ H') hF ⟨hr.in1, rfl⟩ hb (passAt tk σ) I2 r2 ⟨rfl, O, W, _, sr, aft_neR af⟩) (fun w s3 z => ?_) fun _ _ x => x
      obtain ⟨z1, H3, I3, rz, bv, ez, qz⟩ := z
      subst ez
      have rz' : w = Value.bool bv := rz
      subst rz'
      exact ⟨bv, rfl, .bl (!bv), H3, I3, rfl, qz⟩
    · exact af.elim
  · rename_i c1 f1 ds
    split at af
    · rename_i hc
      subst hc
      obtain ⟨v0, e0, r0⟩ := sr.slot 0 _ rfl
      obtain ⟨v1, e1, r1⟩ := sr.slot 1 _ rfl
      have e0 : x = v0 := by simpa using e0
      have e1 : y = v1 := by simpa using e1
      subst e0 e1
      simp only [Rp] at r0 r1
      obtain ⟨aa, dx, fs, rfl, ha, _, _⟩ := r0
      obtain ⟨bb, vs, rfl, to, _⟩ := r1
      have rx' : v = Value.ref aa := rx
      have ry' : u = Value.ref bb := ry
      subst rx' ry'
      obtain ⟨mA, J, _⟩ := ins_get I2.hok ha
      obtain ⟨od, J, _⟩ := J.look
      obtain ⟨m, hFr⟩ := I2.fr
      obtain ⟨its, rv, pl, hz⟩ := I2.tuple to.sq
      obtain ⟨ob, hob, hoc, _⟩ := pl
      have hT : PySem.W.Looks (model X.prog X.w) s2.heap (typeOf (.ref bb)) (.type "tuple") := hoc ▸ (PySem.W.Looks.ld hob).andThen .now
      show wpAny (model X.prog X.w) X.A (richCompare .NotEq (.ref aa) (.ref bb)) (EP X pins σ Q) X.xe s2
      refine cmpNe_K (tb := .type "tuple") hu hFr I2.ok.mod.kin J hT (by unfold PySem.W.notFirst; rw [nc.nt]; rfl) nc.ne nc.ob hm.at_ hm.fn ?_
      have r2 : Vals [V.ref aa, V.ref bb] [Value.ref aa, Value.ref bb] := .cons rfl (.cons rfl .nil)
      refine wpAny_mono (run_fnA (A := X.A.in1) (E := fun σ cc d H' => Wx cc d σ H') hF ⟨hr.in1, rfl⟩ hb (passAt tk σ) I2 r2 ⟨rfl, O, W, _, sr, aft_neR af⟩) (fun w s3 z => ?_) fun _ _ x => x
      obtain ⟨z1, H3, I3, rz, bv, ez, qz⟩ := z
      subst ez
      have rz' : w = Value.bool bv := rz
      subst rz'
      exact ⟨bv, rfl, .bl (!bv), H3, I3, rfl, qz⟩
    · exact af.elim
  · exact af.elim
theorem ej_neO {k : Nat} {f : Addr} {fd : FuncData} {ps : List Str} {c : Str} {F : Fn} (nc : NeC X.K (cl.at' c)) (hm : Meth X.K (cl.at' c) "__eq__" f) (hF : FnOk X.prog X.w X.K X.mg X.base (L2.CX X.prog X.w) k f fd ps (spF (gx X cl) 2 F)) (hr : Room (k + 1) X.A) (hb : Binds X.K fd ps []) (tk : Takes X Wx) (h : KJ X cl vs0 Wx [a, b] fl) (hn : fl.length = 2) (hmk : behindInMarks .NotEq b = false := by rfl) :
    EJ X cl vs0 Wx (.Compare a [.NotEq] [b] pos) (xCall (neF c F) fl) := by
  obtain ⟨ts, pes, pa, q⟩ := h.ex
  cases pes with
  | cons p1 pes =>
    cases pes with
    | cons p2 pes =>
      cases pes
      rename_i ta tb
      refine ⟨⟨fun σ H Q => ta σ H fun x H1 => tb σ H1 fun y H2 => spF (gx X cl) 2 (neF c F) [x, y] H2 Q fun cc d H' => Wx cc d σ H', ⟨fun pins s σ H Q I h => ?_⟩, fun O W σ H ρ Q sr hw => ?_⟩⟩
      · exact wpAny_Compare1 (binT p1 p2 I h fun v u s2 x y H2 I2 rx ry q => neO_run nc hm hF hr hb tk I2 rx ry q) hmk
      · have z := call_core (F := neF c F) hn q O W σ H ρ Q (fun vs H1 => spF (gx X cl) 2 (neF c F) vs H1 Q fun cc d H' => Wx cc d σ H') sr hw fun _ _ h => h
        exact z
theorem tj_neO {k : Nat} {f : Addr} {fd : FuncData} {ps : List Str} {c : Str} {F : Fn} (nc : NeC X.K (cl.at' c)) (hm : Meth X.K (cl.at' c) "__eq__" f) (hF : FnOk X.prog X.w X.K X.mg X.base (L2.CX X.prog X.w) k f fd ps (spF (gx X cl) 2 F)) (hr : Room (k + 1) X.A) (hb : Binds X.K fd ps []) (tk : Takes X Wx) (h : KJ X cl vs0 Wx [a, b] fl) (hn : fl.length = 2) (hmk : behindInMarks .NotEq b = false := by rfl) :
    TJ X cl vs0 Wx (.Compare a [.NotEq] [b] pos) (bT (xCall (neF c F) fl)) := by
  obtain ⟨ts, pes, pa, q⟩ := h.ex
  cases pes with
  | cons p1 pes =>
    cases pes with
    | cons p2 pes =>
      cases pes
      rename_i ta tb
      refine ⟨⟨tTest fun σ H Q => ta σ H fun x H1 => tb σ H1 fun y H2 => spF (gx X cl) 2 (neF c F) [x, y] H2 Q fun cc d H' => Wx cc d σ H', ⟨fun pins s σ H Q I h => ?_⟩, fun O W σ H ρ Q sr hw => ?_⟩⟩
      · refine wpAny_isTrue_Compare1 (thn (p1.run pins s σ H _ I h) fun v s1 ⟨x, H1, I1, r1, q1⟩ => thn (p2.run pins s1 σ H1 _ I1 q1) fun u s2 ⟨y, H2, I2, r2, q2⟩ =>
          thn (neO_run nc hm hF hr hb tk I2 r1 r2 q2) fun c s3 ⟨z, H3, I3, r3, k, e, q3⟩ => ?_) hmk
        subst e
        cases r3
        exact wpAny_truthy_bool ⟨H3, I3, q3⟩
      · have z := fun Q hw => call_core (F := neF c F) hn q O W σ H ρ Q (fun vs H1 => spF (gx X cl) 2 (neF c F) vs H1 Q fun cc d H' => Wx cc d σ H') sr hw fun _ _ h => h
        exact z _ (tst_core hw)
end
@[simp] theorem neF_ins (c : Str) (F : Fn) (f1 f2 : List (Str × D)) : neF c F [.sh (.ins c f1), .sh (.ins c f2)] = neR (F [.sh (.ins c f1), .sh (.ins c f2)]) := by
  show (if c = c ∧ c = c then _ else _) = _
  rw [if_pos ⟨rfl, rfl⟩]
@[simp] theorem neF_tup (c : Str) (F : Fn) (f1 : List (Str × D)) (ds : List D) : neF c F [.sh (.ins c f1), .sh (.tup ds)] = neR (F [.sh (.ins c f1), .sh (.tup ds)]) := by
  show (if c = c then _ else _) = _
  rw [if_pos rfl]
@[simp] theorem neR_bl (b : Bool) (ρ : List SD) : neR (.ok (.sh (.bl b), ρ)) = .ok (.sh (.bl (!b)), ρ) := (rfl)
end Wm
end

section
/-! t[::-1] of tuples; x.f().append(None). -/
namespace Wm
open PySem PySem.Spec PyProof.Rows L2
section
variable {prog : Program} {w : World} {A : Around} {E : Value → Shared → Prop} {s : Shared}
theorem adj_rev (n : Nat) : Builtin.Slice.sliceAdjust none none (-1) (n : Int) = ((n : Int) - 1, -1) := by
  first
  | rfl
  | simp [Builtin.Slice.sliceAdjust]
theorem places_rev (n : Nat) : Builtin.Slice.slicePlaces ((n : Int) - 1) (-1) (-1) = n := by
  unfold Builtin.Slice.slicePlaces
  have h1 : ¬ ((-1 : Int) > 0) := by decide
  by_cases h : (n : Int) - 1 > -1
  · simp only [h1, if_false, h, if_true]
    rw [show (- -1 : Int) = 1 by decide]
    omega
  · have e : n = 0 := by omega
    subst e
    simp
theorem applied_rev {sl : Addr} {vl vu vk : Value} {n : Nat} {Q : Int × Int × Nat → Shared → Prop} (hs : s.heap.IsSliceOf sl vl vu vk) (pl : IsPart vl none) (pu : IsPart vu none) (pk : IsPart vk (some (-1)))
    (h : Q ((n : Int) - 1, -1, n) s) : wpAny (model prog w) A (Builtin.Slice.sliceApplied (.ref sl) (pure (n : Int))) Q E s := by
  obtain ⟨os, hos, hcs, hds⟩ := id hs
  unfold Builtin.Slice.sliceApplied Builtin.Slice.sliceFields
  refine wpAny_bind (wpAny_bind (wpAny_field hos hds (x := vl) rfl (wpAny_bind (wpAny_field hos hds (x := vu) rfl (wpAny_bind (wpAny_field hos hds (x := vk) rfl (wpAny_pure ?_)))))))
  refine wpAny_bind (HT.slicePart_ pk ?_)
  show wpAny _ _ (if ((-1 : Int) == 0) = true then _ else _) _ _ s
  rw [if_neg (by decide)]
  refine wpAny_bind (HT.slicePart_ pl (wpAny_bind (HT.slicePart_ pu (wpAny_bind (wpAny_pure ?_)))))
  show wpAny _ _ (match Builtin.Slice.sliceAdjust none none (-1) (n : Int) with | (lo, hi) => pure (lo, (-1 : Int), Builtin.Slice.slicePlaces lo hi (-1))) _ _ s
  rw [adj_rev n]
  show wpAny _ _ (pure ((n : Int) - 1, (-1 : Int), Builtin.Slice.slicePlaces ((n : Int) - 1) (-1) (-1))) _ _ s
  rw [places_rev]
  exact wpAny_pure h
theorem fm_congr {α β : Type} {f g : α → Option β} : ∀ {l : List α}, (∀ x ∈ l, f x = g x) → l.filterMap f = l.filterMap g
  | [], _ => rfl
  | x :: l, h => by
    rw [List.filterMap_cons, List.filterMap_cons, h x (List.mem_cons_self ..), fm_congr (l := l) fun y m => h y (List.mem_cons_of_mem _ m)]
theorem pick_rev (xs : Array Value) : ((List.range xs.size).filterMap fun (m : Nat) => xs[(((xs.size : Int) - 1) + (m : Int) * -1).toNat]?).toArray = xs.toList.reverse.toArray := by
  congr 1
  rw [← PySem.W.krv_all xs, ← List.filterMap_reverse, ← PySem.W.krv_range, List.filterMap_map]
  refine fm_congr fun m hm => ?_
  have := List.mem_range.mp hm
  simp only [Function.comp]
  rw [show (((xs.size : Int) - 1) + (m : Int) * -1).toNat = xs.size - 1 - m by omega]
theorem getItem_tuple_rev {t sl : Addr} {items : Array Value} {vl vu vk : Value} {Q : Value → Shared → Prop} (ht : IsTup s.heap t items) (hs : s.heap.IsSliceOf sl vl vu vk) (pl : IsPart vl none) (pu : IsPart vu none) (pk : IsPart vk (some (-1)))
    (h : Q (.ref s.heap.objs.size) { s with heap := s.heap.push { cls := .type "tuple", data := .seq items.toList.reverse.toArray } })
    (hsz : items.size ≤ sizeLine) : wpAny (model prog w) A (getItem (.ref t) (.ref sl)) Q E s := by
  have htake : sizeOk (.seq items.toList.reverse.toArray) := by
    show items.toList.reverse.toArray.size ≤ sizeLine
    rw [List.size_toArray, List.length_reverse, Array.length_toList]
    omega
  obtain ⟨os, hos, hcs, hds⟩ := id hs
  have hTs : s.TypeIs (.ref sl) "slice" := ⟨os, hos, hcs⟩
  unfold getItem
  try with_reducible refine wpAny_holding ?_
  first | refine wpAny_bind (wpAny_pure ?_) | skip
  refine wpAny_bind (wpAny_sequenceKey ht.typeIs (by decide) ?_)
  refine wpAny_bind (wpAny_callSpecial?_slot (name := Str.ofString "__getitem__") ht.typeIs PyProof.Rows.slot_tuple_getitem
    (wpAny_call_entry PyProof.Rows.slot_tuple_getitem ht.typeIs entry_tuple_getitem ?_ (args_tuple_getitem _ _)))
  show wpAny _ _ (Builtin.Tuple.tupleItemsOf (.ref t) >>= _) _ _ s
  refine wpAny_bind (tupleItemsOf_ ht ?_)
  refine wpAny_bind (wpAny_typeOf hTs ?_)
  rw [if_pos (by decide)]
  refine wpAny_bind (applied_rev hs pl pu pk ?_)
  have hno : ¬ ((((items.size : Int) - 1) == 0 && (-1 : Int) == 1 && items.size == items.size) = true) := by
    intro q
    rw [Bool.and_eq_true, Bool.and_eq_true] at q
    have := q.1.2
    exact absurd this (by decide)
  show wpAny _ _ (if ((((items.size : Int) - 1) == 0 && (-1 : Int) == 1 && items.size == items.size) = true) then _ else _) _ _ s
  rw [if_neg hno, pick_rev]
  first
    | exact wpAny_bind (m := Builtin.Tuple.tupleExact _) (wpAny_newObj_type (wpAny_pure ⟨_, rfl, wpAny_pure h⟩) htake)
    | exact wpAny_bind (m := Builtin.Tuple.tupleExact _) (wpAny_newObj_type (wpAny_bind (wpAny_pure (wpAny_pure ⟨_, rfl, wpAny_pure h⟩))) htake)
    | exact wpAny_bind (wpAny_bind (m := Builtin.Tuple.tupleExact _) (wpAny_newObj_type (wpAny_pure (wpAny_pure ⟨_, rfl, wpAny_pure h⟩)) htake))
    | exact wpAny_bind (wpAny_bind (m := Builtin.Tuple.tupleExact _) (wpAny_newObj_type (wpAny_pure ⟨_, rfl, wpAny_pure h⟩) htake))
end
section
variable {X : Cx} {cl : Cl} {vs0 : List V} {Wx : WX}
def rRev (K : PySem.W.Frag) (x : V) (H : Hp) (Q : VK) : Prop :=
  (∃ a xs, x = .ref a ∧ SqL K H a xs ∧ ∀ p, H p = none → Q (.ref p) (upd H p (.lst xs.reverse))) ∨ (∃ a xs, x = .ref a ∧ SqT K H a xs ∧ ∀ p, H p = none → Q (.ref p) (upd H p (.tup xs.reverse)))
theorem pe_revA {e : Expr} {te : TE} {k : Nat} {p1 p2 p3 pos : Pos} (he : PE X e te) : PE X (.Subscript e (.Slice none none (some (.UnaryOp .USub (.Constant (.int 1) k p1) p2)) p3) pos) (fun σ H Q => te σ H fun x H1 => rRev X.K x H1 Q) := by
  refine ⟨fun pins s σ H Q I h => ?_⟩
  refine Subscript_ (thn (he.run pins s σ H _ I h) fun v s1 ⟨x, H1, I1, r1, q1⟩ => ?_)
  have ⟨a, ex⟩ : ∃ a, x = .ref a := by
    rcases q1 with ⟨a, _, e, _⟩ | ⟨a, _, e, _⟩
    · exact ⟨a, e⟩
    · exact ⟨a, e⟩
  subst ex
  cases r1
  have hst : PO X (some (.UnaryOp .USub (.Constant (.int 1) k p1) p2)) (tPart (tUn (rU fun i => .int (-i)) (tC (.int 1)))) := po_some (pe_un un_neg pe_int)
  refine wpAny_Slice (thn (po_none.run pins s1 σ H1 (fun o H2 => o = none ∧ H2 = H1) I1 ⟨rfl, rfl⟩) fun vl s2 ⟨l, H2, I2, pl, el, e2⟩ => ?_)
  subst el e2
  refine thn (po_none.run pins s2 σ H2 (fun o H3 => o = none ∧ H3 = H2) I2 ⟨rfl, rfl⟩) fun vu s3 ⟨u, H3, I3, pu, eu, e3⟩ => ?_
  subst eu e3
  refine thn (hst.run pins s3 σ H3 (fun o H4 => o = some (-1) ∧ H4 = H3) I3 ⟨1, rfl, -1, rfl, rfl, rfl⟩) fun vs s4 ⟨o, H4, I4, ps, eo, e4⟩ => ?_
  subst eo e4
  have I5 : Inv X pins σ H4 { s4 with heap := s4.heap.push { cls := .type "slice", data := .fields #[vl, vu, vs] } } := I4.kept (t' := s4.toks) fun b ob q => Heap.get?_push_of_some _ q
  show wpAny (model X.prog X.w) X.A (subscriptTail e (.Slice none none (some (.UnaryOp .USub (.Constant (.int 1) k p1) p2)) p3) (.ref a) (.ref s4.heap.objs.size)) (EP X pins σ Q) X.xe { s4 with heap := s4.heap.push { cls := .type "slice", data := .fields #[vl, vu, vs] } }
  rcases q1 with ⟨a', xs, ea, hx, q⟩ | ⟨a', xs, ea, hx, q⟩
  · cases ea
    obtain ⟨its, r, ht, hz⟩ := I5.list hx
    have hlen := r.length
    refine tail_any (ops := [.ref a, .ref s4.heap.objs.size]) ht.isList.typeIs (PySem.slot_list_getitem.lookup) ?_ (by with_unfolding_all rfl)
    refine wpAny_getItem_list_slice ht.isList (Heap.IsSliceOf.new _ vl vu vs) pl pu ps (by decide) ?_ (by rw [List.size_toArray]; omega)
    rw [PySem.W.krv_pick]
    refine ⟨.ref _, _, I5.laid (t' := s4.toks) (o := .lst xs.reverse) (fun b ob q => Heap.get?_push_of_some _ q) (Nat.le_refl _) ?_, rfl, q _ (I5.hok.fresh (Nat.le_refl _))⟩
    exact ⟨by rw [List.length_reverse]; exact hz, _, 0, r.reverse, Heap.get?_push_size _ rfl⟩
  · cases ea
    obtain ⟨its, r, ht, hz⟩ := I5.tuple hx
    have hlen := r.length
    refine tail_any (ops := [.ref a, .ref s4.heap.objs.size]) ht.typeIs (PyProof.Rows.slot_tuple_getitem.lookup) ?_ (by with_unfolding_all rfl)
    refine getItem_tuple_rev ht (Heap.IsSliceOf.new _ vl vu vs) pl pu ps ?_ (by rw [List.size_toArray]; omega)
    refine ⟨.ref _, _, I5.laid (t' := s4.toks) (o := .tup xs.reverse) (fun b ob q => Heap.get?_push_of_some _ q) (Nat.le_refl _) ?_, rfl, q _ (I5.hok.fresh (Nat.le_refl _))⟩
    exact ⟨by rw [List.length_reverse]; exact hz, _, r.reverse, IsTup.new _ _⟩
def pRevA : List D → Rs SD
  | [.lst xs] => .ok (.own xs.reverse)
  | [.tup xs] => .ok (.sh (.tup xs.reverse))
  | _ => .bad
@[simp] theorem pRevA_lst (xs : List D) : pRevA [.lst xs] = .ok (.own xs.reverse) := (rfl)
@[simp] theorem pRevA_tup (xs : List D) : pRevA [.tup xs] = .ok (.sh (.tup xs.reverse)) := (rfl)
theorem ej_revA {a : Expr} {fl : List LOp} {pos : Pos} {k : Nat} {p1 p2 p3 : Pos} (h : OJ X cl vs0 Wx [a] fl) : EJ X cl vs0 Wx (.Subscript a (.Slice none none (some (.UnaryOp .USub (.Constant (.int 1) k p1) p2)) p3) pos) (xPrim fl pRevA) := by
  obtain ⟨ta, ha, q⟩ := one_of h
  refine ⟨⟨_, pe_revA ha, prim_core (rd := rd1 fun x H Q => rRev X.K x H Q) (fun O W H ds vs Q w ho hp => ?_) q⟩⟩
  unfold pRevA at hp
  split at hp
  · obtain ⟨x, rfl, h1⟩ := ho.one
    obtain ⟨a, vs, rfl, h2, h3, h4⟩ := h1.lst
    exact .inl ⟨a, vs, rfl, SqL.of h2, fun p n => hp p _ _ (same_upd n) n upd_same (by rw [List.length_reverse]; exact h3) h4.rev⟩
  · obtain ⟨x, rfl, h1⟩ := ho.one
    obtain ⟨a, vs, rfl, h2, h4⟩ := h1.tup
    exact .inr ⟨a, vs, rfl, h2.sq, fun p n => hp _ _ (same_upd n) (rp_tup w n (by rw [List.length_reverse]; exact h2.1) h4.rev)⟩
  · exact hp.elim
/-- a list just told, written and forgotten -/
theorem SR.offW {G : Gx} {O W : List Addr} {σ : L2.St} {H : Hp} {ρ : List SD} {a : Addr} (r : SR G vs0 O W σ H ρ) (hn : ∀ (i : Nat) (s : SD), ρ[i]? = some s → s.mine = true → σ[i]? ≠ some (some (.ref a))) : SR G vs0 O (Wm.off a W) σ H ρ := by
  refine ⟨⟨fun b hb => r.wf.sub b (mem_off.mp hb).1, r.wf.trk⟩, r.len, fun i s e => ?_, r.apart, r.tabs⟩
  have q := r.slot i s e
  have nn := hn i s e
  have own : ∀ {b xs}, b ≠ a → OwnAt G O W H b xs → OwnAt G O (Wm.off a W) H b xs := fun {b xs} n h => ⟨mem_off.mpr ⟨h.1, n⟩, h.2⟩
  cases s with
  | no => trivial
  | sh d => exact q
  | own xs =>
    obtain ⟨b, e, r⟩ := q
    refine ⟨b, e, own (fun z => nn rfl ?_) r⟩
    subst z
    cases hh : σ[i]? with
    | none => rw [hh] at e; cases e
    | some o => rw [hh] at e; exact congrArg some e
  | byr xs =>
    obtain ⟨b, e, e0, r⟩ := q
    refine ⟨b, e, e0, own (fun z => nn rfl ?_) r⟩
    subst z
    cases hh : σ[i]? with
    | none => rw [hh] at e; cases e
    | some o => rw [hh] at e; exact congrArg some e
  | xn c fs => exact q
  | gv => exact q
def sAppT (f : Sx) : Ss := fun ρ => (f ρ).bind fun p => match p.1 with
  | .own xs => if xs.length < sizeLine then .ok (.nx p.2) else .bad
  | _ => .bad
theorem sj_appT {ex : Expr} {f : Sx} {j : Nat} {pos apos cpos p1 : Pos} (h : EJ X cl vs0 Wx ex f)
    (hbase : attributeBase ex "append" X.env (eval ex X.env) = eval ex X.env := by rfl)
    (hfew : ((backTo cpos (starEach [.Constant .none j p1] X.env)).all (fun x => !x.1) && (backToKw cpos (keywordEach [] X.env)).all (fun x => x.1.isSome)
      && decide ([Expr.Constant .none j p1].length + ([] : List Keyword).length + (if ([] : List Keyword).isEmpty then 0 else 1) < 30)) = true := by rfl)
    (hline : (apos.endLine == cpos.line) = true := by rfl) (hs : starEach [.Constant .none j p1] X.env = (false, eval (.Constant .none j p1) X.env) :: starEach [] X.env := by rfl) (hplain : (backTo cpos (starEach [] X.env)).any (·.1) = false := by rfl)
    (hsw : swapsWith (.Call (.Attribute ex "append" apos) [.Constant .none j p1] [] cpos) none pos.line X.env = pure false := by rfl) :
    SJ X cl vs0 Wx (.Expr (.Call (.Attribute ex "append" apos) [.Constant .none j p1] [] cpos) pos) (sAppT f) := by
  obtain ⟨t, p, q⟩ := h.ex
  refine ⟨⟨_, ps_expr (pe_bm PySem.F.plainAttrs_list PySem.F.slot_list_append PySem.F.type_list_append mt_append p (pa_cons pe_non pa_nil hs) hbase hfew hline hs hplain) hsw, fun O W σ H ρ E sr hw => ?_⟩⟩
  unfold sAppT at hw
  refine q O W σ H ρ _ sr (e_core sr.wf hw fun v s ρ1 O1 W1 H1 sr1 rr hk => ?_)
  cases s with
  | own xs =>
    have hk : AftS (gx X cl) vs0 Wx O1 W1 H1 E (if xs.length < sizeLine then .ok (.nx ρ1) else .bad) := hk
    obtain ⟨a, rfl, ⟨oW, us, h2, h3, h4⟩, hn⟩ := rr
    split at hk
    · rename_i hz
      have hl : us.length < sizeLine := by rw [← h4.length]; exact hz
      have st : Stp O1 W1 H1 O1 (off a W1) (upd H1 a (.lst (us ++ [.non]))) := ⟨fun b o e hb _ => by rw [upd_ne (show b ≠ a from fun z => hb (by rw [z]; exact oW))]; exact e, fun b hb => .inl (mem_off.mp hb).1, fun _ h => .inl h, fun b hb => noD_upd hb, fun _ h _ => h⟩
      have sr2 := ((sr1.offW hn).grow (p := a) (o' := .lst (us ++ [.non])) (sr1.wf.sub a oW) (fun z => (mem_off.mp z).2 rfl) h2).1
      exact ⟨.inl ⟨rfl, _, SqL.of h2⟩, a, us, .non, rfl, rfl, h2, hl, hk σ O1 (off a W1) _ st sr2⟩
    · exact hk.elim
  | _ => exact hk.elim
theorem sAppT_own (f : Sx) (ρ ρ' : List SD) (xs : List D) (h : f ρ = .ok (.own xs, ρ')) (hl : xs.length < sizeLine) : sAppT f ρ = .ok (.nx ρ') := by
  unfold sAppT
  rw [h]
  show (if xs.length < sizeLine then _ else _) = _
  rw [if_pos hl]
variable {a b : Expr} {fl : List LOp} {pos : Pos}
theorem tj_isBl (h : OJ X cl vs0 Wx [a, b] fl) (hm : behindInMarks .Is b = false := by rfl) : TJ X cl vs0 Wx (.Compare a [.Is] [b] pos) (bT (xPrim fl (pIsBl false))) := tj_cmp op_isBl (fun O W H ds vs Q w ho hp => by
  unfold pIsBl at hp
  split at hp
  · obtain ⟨x, y, rfl, h1, h2⟩ := ho.two
    exact ⟨_, _, h1.bl, h2.bl, hp _ H (Same.refl H) (by simp only [Rp, Bool.false_xor])⟩
  · exact hp.elim) h hm
theorem tj_notBl (h : OJ X cl vs0 Wx [a, b] fl) (hm : behindInMarks .IsNot b = false := by rfl) : TJ X cl vs0 Wx (.Compare a [.IsNot] [b] pos) (bT (xPrim fl (pIsBl true))) := tj_cmp op_notBl (fun O W H ds vs Q w ho hp => by
  unfold pIsBl at hp
  split at hp
  · obtain ⟨x, y, rfl, h1, h2⟩ := ho.two
    exact ⟨_, _, h1.bl, h2.bl, hp _ H (Same.refl H) (by simp only [Rp, Bool.true_xor])⟩
  · exact hp.elim) h hm
end
end Wm
end

section
/-! C(xs, ..) of an own class, the list xs being lent alone. -/
namespace Wm
open PySem PySem.Spec PyProof.Rows L2
section
variable {G : Gx} {O W : List Addr} {σ : L2.St} {H : Hp} {ρ : List SD} {vs : List V}
theorem SR.consG {v : V} (r : SR G vs O W σ H ρ) : SR G (v :: vs) O W (some v :: σ) H (.gv :: ρ) := by
  refine ⟨r.wf, by simp [r.len], fun i s e => ?_, fun i j s t a e1 e2 m1 m2 s1 s2 => ?_, r.tabs⟩
  · cases i with
    | zero => cases e; rfl
    | succ i =>
      have q := r.slot i s (by simpa using e)
      simpa using q
  · cases i with
    | zero => cases e1; cases m1
    | succ i =>
      cases j with
      | zero => cases e2; cases m2
      | succ j => rw [r.apart i j s t a (by simpa using e1) (by simpa using e2) m1 m2 (by simpa using s1) (by simpa using s2)]
theorem SR.tl {v : V} {o : Option V} (r : SR G (v :: vs) O W (o :: σ) H ρ) : SR G vs O W σ H ρ.tail := by
  have hl := r.len
  cases ρ with
  | nil => cases hl
  | cons s0 ρ =>
    refine ⟨r.wf, by simpa using hl, fun i s e => ?_, fun i j s t a e1 e2 m1 m2 s1 s2 => ?_, r.tabs⟩
    · have q := r.slot (i + 1) s (by simpa using e)
      simpa using q
    · have := r.apart (i + 1) (j + 1) s t a (by simpa using e1) (by simpa using e2) m1 m2 (by simpa using s1) (by simpa using s2)
      omega
theorem SR.offN {a : Addr} (r : SR G vs O W σ H ρ) (hw : a ∉ W) : SR G vs (Wm.off a O) W σ H ρ := by
  have e : Wm.off a W = W := List.filter_eq_self.mpr fun b hb => by
    have : b ≠ a := fun z => hw (z ▸ hb)
    simpa using this
  have z := r.off (a := a) fun i s e m h => by
    have q := r.slot i s e
    cases s with
    | own xs =>
      obtain ⟨b, e1, o⟩ := q
      rw [h] at e1
      cases e1
      exact hw o.1
    | byr xs =>
      obtain ⟨b, e1, _, o⟩ := q
      rw [h] at e1
      cases e1
      exact hw o.1
    | _ => cases m
  rw [e] at z
  exact z
end
def mkR (c : Str) (n : Nat) : Rs (List (Str × D) × List SD) → Rs (SD × List SD)
  | .ok (fs, ρ) => .ok (.sh (.ins c fs), (trim (n + 1) ρ).tail)
  | .exc ce es ρ => .exc ce es (trim (n + 1) ρ).tail
  | .bad => .bad
def bodyM (N : Nat) (c : Str) (f : Sn) : Fn := fun as => mkR c as.length (f [] (.gv :: (as ++ List.replicate (N - 1 - as.length) .no)))
def spM (G : Gx) (c : Str) (n : Nat) (F : Fn) : Sp := fun vs H Q E => ∃ x rest H1 dx, vs = .ref x :: rest ∧ rest.length = n ∧ H1 x = none ∧ H1 dx = none ∧ dx ≠ x ∧ H = upd (upd H1 dx (.own x)) x (.ins (G.cls c) dx []) ∧
  ∃ O W as, SR G rest O W (rest.map some) H1 as ∧ AftE G rest (wxE E) O W (rest.map some) H1 (fun v H' => v = .ref x → Q .non H') (F as)
section
theorem fn_okM {P : Program} {w : World} {K : PySem.W.Frag} {mg : Str → Option Value} {base : Heap} {x qual : Str} {st : Stmt} {f : Addr} {fd : FuncData} {N ps : List Str} {k n : Nat} {cl : Cl} {c : Str} {g : Sn} (F : Fun K x qual st f fd) (S : FnScope N ps (defScope st)) (hn : ps.length = n + 1)
    (hb : ∀ (cdv : Value) (A : Around) (outer : List Env) (s : Shared) (H : Hp) (vs : List V) (E : XK), Room k (A.deeper (envOfC qual (defScope st) s.heap.objs.size f cdv)) →
      NJ (cxOf (L2.CX P w) P w K mg base N qual (defScope st) f cdv A outer s H E) cl vs (wxE E) c (defBody st) g) : FnOk P w K mg base (L2.CX P w) (k + 1) f fd ps (spM (gk K cl) c n (bodyM N.length c g)) := by
  have hpl : ps.length ≤ N.length := by have := congrArg List.length S.pre; rw [List.length_take] at this; omega
  refine F.okX S (fun vs H Q E h => ?_) fun cdv A outer s H vs Q E hr h => ?_
  · obtain ⟨x, rest, H1, dx, rfl, hl, _⟩ := h
    simp [hl, hn]
  · obtain ⟨x, rest, H1, dx, rfl, hl, nx, nd, ne, rfl, O, W, as, sr, hw⟩ := h
    obtain ⟨t, pt, q⟩ := (hb cdv A outer s _ (.ref x :: rest) E hr).ex
    have dl : as.length = n := by have := sr.len; rw [List.length_map, hl] at this; exact this.symm
    have sm : Same H1 (upd (upd H1 dx (.own x)) x (.ins ((gk K cl).cls c) dx [])) := fun b o e => by
      rw [upd_ne (ne_of_none e nx), upd_ne (ne_of_none e nd)]
      exact e
    have s1 : Stp O W H1 (x :: O) W (upd (upd H1 dx (.own x)) x (.ins ((gk K cl).cls c) dx [])) := Stp.addO sm nx
    have w1 : Wf (x :: O) W (upd (upd H1 dx (.own x)) x (.ins ((gk K cl).cls c) dx [])) := ⟨fun b hb => List.mem_cons_of_mem _ (sr.wf.sub b hb), fun b hb => by
      rcases List.mem_cons.mp hb with z | z
      · rw [z]; exact noD_not upd_same
      · exact s1.trk b (sr.wf.trk b z)⟩
    have nW : x ∉ W := fun z => sr.wf.trk x (sr.wf.sub x z) (noD_none nx)
    obtain ⟨N0, NT, eN⟩ : ∃ N0 NT, N = N0 :: NT := by
      cases N with
      | nil => rw [hn] at hpl; simp at hpl
      | cons a b => exact ⟨a, b, rfl⟩
    have sr1 := (sr.enter (N := NT) (by rw [eN] at hpl; simp at hpl; omega)).step w1 s1 (fun _ h => h) (fun b o _ e => sm b o e) (sr.tabs.tc.ext sm)
    have sr2 := sr1.consG (v := .ref x)
    have est : L2.start N (.ref x :: rest) = some (.ref x) :: L2.start NT rest := by
      subst eN
      unfold L2.start
      simp
    refine ⟨t, pt, q (x :: O) W _ _ (.gv :: (as ++ List.replicate (N.length - 1 - as.length) .no)) _ x dx [] [] O W H1 nx sr.wf s1 ?_ rfl ⟨by simp, nW, upd_same⟩ (by simp only [RpF]) ?_⟩
    · rw [est]
      have : N.length - 1 = NT.length := by rw [eN]; simp
      rw [this]
      exact sr2
    · unfold bodyM at hw
      cases eg : g [] (.gv :: (as ++ List.replicate (N.length - 1 - as.length) .no)) with
      | bad => rw [eg] at hw; exact hw
      | exc ce es ρ' =>
        rw [eg] at hw
        intro σ' p gs O' W' H' st sr' hp hf
        exact hw p gs O' W' H' st (sr'.leave (n := as.length + 1) (by simp [dl, hl])).tl hp hf
      | ok y =>
        obtain ⟨fs, ρ'⟩ := y
        rw [eg] at hw
        intro σ' O' W' H' dx' gs st sr' hh hf
        refine hw (.ref x) (off x O') W' H' ⟨st.keep, st.wnew, fun b hb => st.onew b (mem_off.mp hb).1, st.trk, fun b hb hn => mem_off.mpr ⟨st.ofz b hb hn, fun z => ?_⟩⟩ ((sr'.leave (n := as.length + 1) (by simp [dl, hl])).tl.offN hh.w) ?_ rfl
        · exact sr.wf.trk b hb (by rw [z]; exact noD_none nx)
        · show Rp _ _ _ _ _
          simp only [Rp]
          exact ⟨x, dx', gs, rfl, hh.h, fun z => (mem_off.mp z).2 rfl, RpF.less less_off hf⟩
end
def upI : SelI → SelI
  | .arg j => .arg (j + 1)
  | .dfI i => .dfI i
  | .dfN => .dfN
theorem up_map (y : V) (vs : List V) : ∀ sel : List SelI, (sel.map upI).map (pickV (y :: vs)) = sel.map (pickV vs)
  | [] => rfl
  | s :: sel => by
    simp only [List.map_cons, up_map y vs sel]
    congr 1
    cases s with
    | arg j => simp [upI, pickV]
    | _ => rfl
theorem spM_of {G : Gx} {c : Str} {sel : List SelI} {inv : List Nat} {F : Fn} {m : Nat} {vs : List V} {H : Hp} {Q : VK} {E : XK} {y dx : Addr} (ok : selB m sel inv = true) (h : spF G m (permF sel inv F) vs H Q E) (ny : H y = none) (nd : H dx = none) (ne : dx ≠ y) :
    spM G c sel.length F ((SelI.arg 0 :: sel.map upI).map (pickV (.ref y :: vs))) (upd (upd H dx (.own y)) y (.ins (G.cls c) dx [])) (fun v H3 => v = .non ∧ Q (.ref y) H3) E := by
  obtain ⟨hl, O, W, as, sr, hw⟩ := spF_perm ok h
  refine ⟨y, sel.map (pickV vs), H, dx, by rw [List.map_cons, up_map]; rfl, by simp, ny, nd, ne, rfl, O, W, as, sr, ?_⟩
  cases eF : F as with
  | bad => rw [eF] at hw; exact hw
  | exc c fs ρ => rw [eF] at hw; exact hw
  | ok p =>
    rw [eF] at hw
    exact fun v O' W' H' st sr' rr e => ⟨rfl, e ▸ hw v O' W' H' st sr' rr⟩
section
variable {X : Cx} {cl : Cl} {vs0 : List V} {Wx : WX} {k n : Nat} {f : Addr} {fd : FuncData} {ps ks : List Str} {x c : Str} {p pos : Pos} {e : Expr} {es : List Expr} {kws : List Keyword} {fl : List LOp} {F : Fn} {sel : List SelI} {inv : List Nat}
theorem ej_makeB (M : Mk X.K (cl.at' c) f) (hF : FnOk X.prog X.w X.K X.mg X.base (L2.CX X.prog X.w) k f fd ps (spM (gx X cl) c sel.length F)) (hr : Room (k + 1) X.A) (hg : Gl X x) (hm : X.mg x = some (.ref (cl.at' c))) (hb : KBs X.K fd ps (es.length + 1 + 1) ks (.arg 0 :: sel.map upI)) (tk : Takes X Wx)
    (hst : Stars X (e :: es)) (h : KJ X cl vs0 Wx (e :: es ++ kws.map (·.value)) fl) (ok : selB fl.length sel inv = true) (hall : (backToKw pos (keywordEach kws X.env)).all (·.1.isSome) = true := by rfl) (hks : (backToKw pos (keywordEach kws X.env)).filterMap (·.1) = ks := by rfl) (hkl : kws.length = ks.length := by rfl)
    (hdb : (x == ("__debug__" : Str)) = false := by decide) (he : starEach (e :: es) X.env = (false, eval e X.env) :: starEach es X.env := by rfl)
    (hpl : ((backTo pos (starEach (e :: es) X.env)).any (·.1) || (backToKw pos (keywordEach kws X.env)).any (·.1.isNone)) = false := by rfl) :
    EJ X cl vs0 Wx (.Call (.Name x p) (e :: es) kws pos) (xCall (permF sel inv F) fl) := by
  obtain ⟨ts, pe, _, q⟩ := h.ex
  obtain ⟨g, kb⟩ := hb.ex
  obtain ⟨t1, t2, rfl, h1, h2⟩ := pes_split pe
  have e1 : t1.length = es.length + 1 := pes_len h1
  have e2 : t2.length = ks.length := by rw [pes_len h2, List.length_map, hkl]
  refine ⟨⟨_, pe_makeM (E := fun σ c d H => Wx c d σ H) M hF hr hg hm kb (fun σ => passAt tk σ) (pes_pa h1 hst) (pes_pk h2) hall hks hdb he hpl, fun O W σ H ρ Q sr hw => ?_⟩⟩
  have z := call_core (F := permF sel inv F) (n := fl.length) rfl q O W σ H ρ Q (fun vs H2 => ∀ y dx, H2 y = none → H2 dx = none → dx ≠ y →
    spM (gx X cl) c sel.length F ((SelI.arg 0 :: sel.map upI).map (pickV (.ref y :: vs))) (upd (upd H2 dx (.own y)) y (.ins (cl.at' c) dx [])) (fun v H3 => v = .non ∧ Q (.ref y) H3) (fun c d H' => Wx c d σ H')) sr hw fun vs H1 h y dx ny nd ne => spM_of ok h ny nd ne
  rw [tAll_app, tAll_len] at z
  unfold tMakeM
  rw [tAll_len]
  refine cast ?_ z
  congr 1
  funext vs H1
  refine propext (and_congr_right fun hl => ?_)
  rw [tAll_len]
  refine iff_of_eq ?_
  congr 1
  funext zs H2
  refine propext ⟨fun h => ⟨hl.trans e1, h.1.trans e2, h.2⟩, fun h => ⟨h.2.1.trans e2.symm, h.2.2⟩⟩
end
@[simp] theorem mkR_ok (c : Str) (n : Nat) (fs : List (Str × D)) (ρ : List SD) : mkR c n (.ok (fs, ρ)) = .ok (.sh (.ins c fs), (trim (n + 1) ρ).tail) := (rfl)
@[simp] theorem mkR_exc (c ce : Str) (n : Nat) (es : List (Str × D)) (ρ : List SD) : mkR c n (.exc ce es ρ) = .exc ce es (trim (n + 1) ρ).tail := (rfl)
end Wm
end

section
namespace Lw
open PySem PySem.Spec PyProof.Rows L2 Wm
def topS (i : Nat) : Stmt := PySem.Challenge.pw_waymoves_k30_plans_told.main.body.getD i (.Pass ⟨0, 0, 0, 0⟩)
abbrev s_is_whole : Stmt := topS 4
theorem sc_is_whole : FnScope ["thing"] ["thing"] (defScope s_is_whole) := ⟨rfl, rfl, rfl, by decide +kernel, rfl, by decide +kernel, by decide +kernel⟩
abbrev s_is_row : Stmt := topS 5
theorem sc_is_row : FnScope ["thing", "wide", "one"] ["thing", "wide"] (defScope s_is_row) := ⟨rfl, rfl, rfl, by decide +kernel, rfl, by decide +kernel, by decide +kernel⟩
abbrev s_are_tops : Stmt := topS 12
theorem sc_are_tops : FnScope ["tops", "wide", "one"] ["tops", "wide"] (defScope s_are_tops) := ⟨rfl, rfl, rfl, by decide +kernel, rfl, by decide +kernel, by decide +kernel⟩
abbrev s_Plan_init : Stmt := inS (topS 13) 0
theorem sc_Plan_init : FnScope ["self", "rows", "costs", "side", "tops", "wide", "row"] ["self", "rows", "costs", "side", "tops"] (defScope s_Plan_init) := ⟨rfl, rfl, rfl, by decide +kernel, rfl, by decide +kernel, by decide +kernel⟩
abbrev s__law_draw : Stmt := topS 15
theorem sc__law_draw : FnScope ["_law_well", "_law_many", "_law_number", "_law_found"] ["_law_well", "_law_many"] (defScope s__law_draw) := ⟨rfl, rfl, rfl, by decide +kernel, rfl, by decide +kernel, by decide +kernel⟩
abbrev s_Plan_told : Stmt := inS (topS 13) 10
theorem sc_Plan_told : FnScope ["self"] ["self"] (defScope s_Plan_told) := ⟨rfl, rfl, rfl, by decide +kernel, rfl, by decide +kernel, by decide +kernel⟩
abbrev s_Plan___eq__ : Stmt := inS (topS 13) 11
theorem sc_Plan___eq__ : FnScope ["self", "other"] ["self", "other"] (defScope s_Plan___eq__) := ⟨rfl, rfl, rfl, by decide +kernel, rfl, by decide +kernel, by decide +kernel⟩
abbrev s_Plan_changed : Stmt := inS (topS 13) 9
theorem sc_Plan_changed : FnScope ["self", "costs", "side", "tops"] ["self", "costs", "side", "tops"] (defScope s_Plan_changed) := ⟨rfl, rfl, rfl, by decide +kernel, rfl, by decide +kernel, by decide +kernel⟩
abbrev s_Plan_rows : Stmt := inS (topS 13) 1
theorem sc_Plan_rows : FnScope ["self"] ["self"] (defScope s_Plan_rows) := ⟨rfl, rfl, rfl, by decide +kernel, rfl, by decide +kernel, by decide +kernel⟩
abbrev s_Plan_costs : Stmt := inS (topS 13) 2
theorem sc_Plan_costs : FnScope ["self"] ["self"] (defScope s_Plan_costs) := ⟨rfl, rfl, rfl, by decide +kernel, rfl, by decide +kernel, by decide +kernel⟩
abbrev s_Plan_side : Stmt := inS (topS 13) 3
theorem sc_Plan_side : FnScope ["self"] ["self"] (defScope s_Plan_side) := ⟨rfl, rfl, rfl, by decide +kernel, rfl, by decide +kernel, by decide +kernel⟩
abbrev s_Plan_tops : Stmt := inS (topS 13) 4
theorem sc_Plan_tops : FnScope ["self"] ["self"] (defScope s_Plan_tops) := ⟨rfl, rfl, rfl, by decide +kernel, rfl, by decide +kernel, by decide +kernel⟩
abbrev s__law_changed_right : Stmt := topS 22
theorem sc__law_changed_right : FnScope ["_law_well", "_law_plan", "_law_parts", "_law_width", "_law_others", "_law_far", "_law_limits", "_law_whole", "_law_rows", "_law_fees", "_law_aim", "_law_caps", "_law_k", "_law_row"] ["_law_well", "_law_plan", "_law_parts"] (defScope s__law_changed_right) := ⟨rfl, rfl, rfl, by decide +kernel, rfl, by decide +kernel, by decide +kernel⟩
abbrev s__law_dot : Stmt := topS 16
theorem sc__law_dot : FnScope ["_law_one", "_law_other", "_law_mine", "_law_its"] ["_law_one", "_law_other"] (defScope s__law_dot) := ⟨rfl, rfl, rfl, by decide +kernel, rfl, by decide +kernel, by decide +kernel⟩
abbrev s_dot : Stmt := topS 6
theorem sc_dot : FnScope ["one", "other", "mine", "its"] ["one", "other"] (defScope s_dot) := ⟨rfl, rfl, rfl, by decide +kernel, rfl, by decide +kernel, by decide +kernel⟩
abbrev s_meets : Stmt := topS 8
theorem sc_meets : FnScope ["rows", "side", "vector", "row"] ["rows", "side", "vector"] (defScope s_meets) := ⟨rfl, rfl, rfl, by decide +kernel, rfl, by decide +kernel, by decide +kernel⟩
abbrev s_Plan_lack : Stmt := inS (topS 13) 7
theorem sc_Plan_lack : FnScope ["self", "vector", "found", "one", "top"] ["self", "vector"] (defScope s_Plan_lack) := ⟨rfl, rfl, rfl, by decide +kernel, rfl, by decide +kernel, by decide +kernel⟩
abbrev s_Plan_wide : Stmt := inS (topS 13) 5
theorem sc_Plan_wide : FnScope ["self"] ["self"] (defScope s_Plan_wide) := ⟨rfl, rfl, rfl, by decide +kernel, rfl, by decide +kernel, by decide +kernel⟩
abbrev s_Plan_has : Stmt := inS (topS 13) 8
theorem sc_Plan_has : FnScope ["self", "thing"] ["self", "thing"] (defScope s_Plan_has) := ⟨rfl, rfl, rfl, by decide +kernel, rfl, by decide +kernel, by decide +kernel⟩
abbrev s_Plan_worth : Stmt := inS (topS 13) 6
theorem sc_Plan_worth : FnScope ["self", "vector"] ["self", "vector"] (defScope s_Plan_worth) := ⟨rfl, rfl, rfl, by decide +kernel, rfl, by decide +kernel, by decide +kernel⟩
abbrev s__law_lack : Stmt := topS 19
theorem sc__law_lack : FnScope ["_law_vector", "_law_caps", "_law_found", "_law_one", "_law_top"] ["_law_vector", "_law_caps"] (defScope s__law_lack) := ⟨rfl, rfl, rfl, by decide +kernel, rfl, by decide +kernel, by decide +kernel⟩
abbrev s__law_vector_right : Stmt := topS 20
theorem sc__law_vector_right : FnScope ["_law_plan", "_law_vector", "_law_parts", "_law_due", "_law_found", "_law_rows", "_law_fees", "_law_aim", "_law_caps", "_law_row"] ["_law_plan", "_law_vector", "_law_parts"] (defScope s__law_vector_right) := ⟨rfl, rfl, rfl, by decide +kernel, rfl, by decide +kernel, by decide +kernel⟩
abbrev s__law_odd_right : Stmt := topS 21
theorem sc__law_odd_right : FnScope ["_law_plan", "_law_width", "_law_some", "_law_thing"] ["_law_plan", "_law_width"] (defScope s__law_odd_right) := ⟨rfl, rfl, rfl, by decide +kernel, rfl, by decide +kernel, by decide +kernel⟩
abbrev s__law_right : Stmt := topS 23
theorem sc__law_right : FnScope ["_law_well", "_law_width", "_law_rows", "_law_fees", "_law_way", "_law_aim", "_law_caps", "_law_handed", "_law_vector", "_law_far", "_law_plan", "_law_j", "_law_k", "_law_row"] ["_law_well"] (defScope s__law_right) := ⟨rfl, rfl, rfl, by decide +kernel, rfl, by decide +kernel, by decide +kernel⟩
abbrev s_law : Stmt := topS 24
theorem sc_law : FnScope ["_law_script", "_law_k", "_law_cell"] ["_law_script"] (defScope s_law) := ⟨rfl, rfl, rfl, by decide +kernel, rfl, by decide +kernel, by decide +kernel⟩
abbrev s_NoPlan_init : Stmt := inS (topS 2) 0
theorem sc_NoPlan_init : FnScope ["self", "what"] ["self", "what"] (defScope s_NoPlan_init) := ⟨rfl, rfl, rfl, by decide +kernel, rfl, by decide +kernel, by decide +kernel⟩
abbrev exmT : Exm := []
/-- what the top leaves -/
structure Tx (K : PySem.W.Frag) (mg : Str → Option Value) (cl : Cl) where
  a_is_whole : Addr
  fd_is_whole : FuncData
  F_is_whole : Fun K "is_whole" "is_whole" s_is_whole a_is_whole fd_is_whole
  m_is_whole : mg "is_whole" = some (.ref a_is_whole)
  b_is_whole : Binds K fd_is_whole ["thing"] []
  a_is_row : Addr
  fd_is_row : FuncData
  F_is_row : Fun K "is_row" "is_row" s_is_row a_is_row fd_is_row
  m_is_row : mg "is_row" = some (.ref a_is_row)
  b_is_row : Binds K fd_is_row ["thing", "wide"] []
  a_are_tops : Addr
  fd_are_tops : FuncData
  F_are_tops : Fun K "are_tops" "are_tops" s_are_tops a_are_tops fd_are_tops
  m_are_tops : mg "are_tops" = some (.ref a_are_tops)
  b_are_tops : Binds K fd_are_tops ["tops", "wide"] []
  a_Plan_init : Addr
  fd_Plan_init : FuncData
  F_Plan_init : Fun K "__init__" "Plan.__init__" s_Plan_init a_Plan_init fd_Plan_init
  mk_Plan : Mk K (cl.at' "Plan") a_Plan_init
  a__law_draw : Addr
  fd__law_draw : FuncData
  F__law_draw : Fun K "_law_draw" "_law_draw" s__law_draw a__law_draw fd__law_draw
  m__law_draw : mg "_law_draw" = some (.ref a__law_draw)
  b__law_draw : Binds K fd__law_draw ["_law_well", "_law_many"] []
  a_Plan_told : Addr
  fd_Plan_told : FuncData
  F_Plan_told : Fun K "told" "Plan.told" s_Plan_told a_Plan_told fd_Plan_told
  mt_Plan_told : Meth K (cl.at' "Plan") "told" a_Plan_told
  a_Plan___eq__ : Addr
  fd_Plan___eq__ : FuncData
  F_Plan___eq__ : Fun K "__eq__" "Plan.__eq__" s_Plan___eq__ a_Plan___eq__ fd_Plan___eq__
  mt_Plan___eq__ : Meth K (cl.at' "Plan") "__eq__" a_Plan___eq__
  b_Plan___eq__ : Binds K fd_Plan___eq__ ["self", "other"] []
  a_Plan_changed : Addr
  fd_Plan_changed : FuncData
  F_Plan_changed : Fun K "changed" "Plan.changed" s_Plan_changed a_Plan_changed fd_Plan_changed
  mt_Plan_changed : Meth K (cl.at' "Plan") "changed" a_Plan_changed
  a_Plan_rows : Addr
  fd_Plan_rows : FuncData
  F_Plan_rows : Fun K "rows" "Plan.rows" s_Plan_rows a_Plan_rows fd_Plan_rows
  mt_Plan_rows : Meth K (cl.at' "Plan") "rows" a_Plan_rows
  a_Plan_costs : Addr
  fd_Plan_costs : FuncData
  F_Plan_costs : Fun K "costs" "Plan.costs" s_Plan_costs a_Plan_costs fd_Plan_costs
  mt_Plan_costs : Meth K (cl.at' "Plan") "costs" a_Plan_costs
  a_Plan_side : Addr
  fd_Plan_side : FuncData
  F_Plan_side : Fun K "side" "Plan.side" s_Plan_side a_Plan_side fd_Plan_side
  mt_Plan_side : Meth K (cl.at' "Plan") "side" a_Plan_side
  a_Plan_tops : Addr
  fd_Plan_tops : FuncData
  F_Plan_tops : Fun K "tops" "Plan.tops" s_Plan_tops a_Plan_tops fd_Plan_tops
  mt_Plan_tops : Meth K (cl.at' "Plan") "tops" a_Plan_tops
  a__law_changed_right : Addr
  fd__law_changed_right : FuncData
  F__law_changed_right : Fun K "_law_changed_right" "_law_changed_right" s__law_changed_right a__law_changed_right fd__law_changed_right
  m__law_changed_right : mg "_law_changed_right" = some (.ref a__law_changed_right)
  b__law_changed_right : Binds K fd__law_changed_right ["_law_well", "_law_plan", "_law_parts"] []
  a__law_dot : Addr
  fd__law_dot : FuncData
  F__law_dot : Fun K "_law_dot" "_law_dot" s__law_dot a__law_dot fd__law_dot
  m__law_dot : mg "_law_dot" = some (.ref a__law_dot)
  b__law_dot : Binds K fd__law_dot ["_law_one", "_law_other"] []
  a_dot : Addr
  fd_dot : FuncData
  F_dot : Fun K "dot" "dot" s_dot a_dot fd_dot
  m_dot : mg "dot" = some (.ref a_dot)
  b_dot : Binds K fd_dot ["one", "other"] []
  a_meets : Addr
  fd_meets : FuncData
  F_meets : Fun K "meets" "meets" s_meets a_meets fd_meets
  m_meets : mg "meets" = some (.ref a_meets)
  b_meets : Binds K fd_meets ["rows", "side", "vector"] []
  a_Plan_lack : Addr
  fd_Plan_lack : FuncData
  F_Plan_lack : Fun K "lack" "Plan.lack" s_Plan_lack a_Plan_lack fd_Plan_lack
  mt_Plan_lack : Meth K (cl.at' "Plan") "lack" a_Plan_lack
  a_Plan_wide : Addr
  fd_Plan_wide : FuncData
  F_Plan_wide : Fun K "wide" "Plan.wide" s_Plan_wide a_Plan_wide fd_Plan_wide
  mt_Plan_wide : Meth K (cl.at' "Plan") "wide" a_Plan_wide
  a_Plan_has : Addr
  fd_Plan_has : FuncData
  F_Plan_has : Fun K "has" "Plan.has" s_Plan_has a_Plan_has fd_Plan_has
  mt_Plan_has : Meth K (cl.at' "Plan") "has" a_Plan_has
  a_Plan_worth : Addr
  fd_Plan_worth : FuncData
  F_Plan_worth : Fun K "worth" "Plan.worth" s_Plan_worth a_Plan_worth fd_Plan_worth
  mt_Plan_worth : Meth K (cl.at' "Plan") "worth" a_Plan_worth
  a__law_lack : Addr
  fd__law_lack : FuncData
  F__law_lack : Fun K "_law_lack" "_law_lack" s__law_lack a__law_lack fd__law_lack
  m__law_lack : mg "_law_lack" = some (.ref a__law_lack)
  b__law_lack : Binds K fd__law_lack ["_law_vector", "_law_caps"] []
  a__law_vector_right : Addr
  fd__law_vector_right : FuncData
  F__law_vector_right : Fun K "_law_vector_right" "_law_vector_right" s__law_vector_right a__law_vector_right fd__law_vector_right
  m__law_vector_right : mg "_law_vector_right" = some (.ref a__law_vector_right)
  b__law_vector_right : Binds K fd__law_vector_right ["_law_plan", "_law_vector", "_law_parts"] []
  a__law_odd_right : Addr
  fd__law_odd_right : FuncData
  F__law_odd_right : Fun K "_law_odd_right" "_law_odd_right" s__law_odd_right a__law_odd_right fd__law_odd_right
  m__law_odd_right : mg "_law_odd_right" = some (.ref a__law_odd_right)
  b__law_odd_right : Binds K fd__law_odd_right ["_law_plan", "_law_width"] []
  a__law_right : Addr
  fd__law_right : FuncData
  F__law_right : Fun K "_law_right" "_law_right" s__law_right a__law_right fd__law_right
  m__law_right : mg "_law_right" = some (.ref a__law_right)
  b__law_right : Binds K fd__law_right ["_law_well"] []
  a_law : Addr
  fd_law : FuncData
  F_law : Fun K "law" "law" s_law a_law fd_law
  m_law : mg "law" = some (.ref a_law)
  b_law : Binds K fd_law ["_law_script"] []
  kb_Plan_told_1_ : KBs K fd_Plan_told ["self"] 1 [] [.arg 0]
  kb_Plan_init_2_costs_side_tops : KBs K fd_Plan_init ["self", "rows", "costs", "side", "tops"] 2 ["costs", "side", "tops"] [.arg 0, .arg 1, .arg 2, .arg 3, .arg 4]
  kb_Plan_changed_1_costs : KBs K fd_Plan_changed ["self", "costs", "side", "tops"] 1 ["costs"] [.arg 0, .arg 1, .dfN, .dfN]
  kb_Plan_changed_1_side : KBs K fd_Plan_changed ["self", "costs", "side", "tops"] 1 ["side"] [.arg 0, .dfN, .arg 1, .dfN]
  kb_Plan_changed_1_ : KBs K fd_Plan_changed ["self", "costs", "side", "tops"] 1 [] [.arg 0, .dfN, .dfN, .dfN]
  kb_Plan_changed_1_tops : KBs K fd_Plan_changed ["self", "costs", "side", "tops"] 1 ["tops"] [.arg 0, .dfN, .dfN, .arg 1]
  kb_Plan_changed_1_costs_side_tops : KBs K fd_Plan_changed ["self", "costs", "side", "tops"] 1 ["costs", "side", "tops"] [.arg 0, .arg 1, .arg 2, .arg 3]
  kb_Plan_tops_1_ : KBs K fd_Plan_tops ["self"] 1 [] [.arg 0]
  kb_Plan_side_1_ : KBs K fd_Plan_side ["self"] 1 [] [.arg 0]
  kb_Plan_costs_1_ : KBs K fd_Plan_costs ["self"] 1 [] [.arg 0]
  kb_Plan_rows_1_ : KBs K fd_Plan_rows ["self"] 1 [] [.arg 0]
  kb_Plan_lack_2_ : KBs K fd_Plan_lack ["self", "vector"] 2 [] [.arg 0, .arg 1]
  kb_Plan_wide_1_ : KBs K fd_Plan_wide ["self"] 1 [] [.arg 0]
  kb_Plan_worth_2_ : KBs K fd_Plan_worth ["self", "vector"] 2 [] [.arg 0, .arg 1]
  kb_Plan_has_2_ : KBs K fd_Plan_has ["self", "thing"] 2 [] [.arg 0, .arg 1]
  kb_Plan_init_2_costs_side : KBs K fd_Plan_init ["self", "rows", "costs", "side", "tops"] 2 ["costs", "side"] [.arg 0, .arg 1, .arg 2, .arg 3, .dfN]
  way : WayC K mg "WayError"
  x_NoPlan : ExcC K mg cl "NoPlan" ["what"] "NoPlan.__init__" s_NoPlan_init
  bi_NoPlan : Binds K x_NoPlan.fd ["self", "what"] []
  mc_Plan : mg "Plan" = some (.ref (cl.at' "Plan"))
  cls_Plan : L2.Cls K (cl.at' "Plan")
  na_Plan : ∀ f ∈ ["kept_rows", "kept_costs", "kept_side", "kept_tops"], NoAttr K (cl.at' "Plan") f
  ic_Plan : IsC K (cl.at' "Plan")
  nc_Plan : NeC K (cl.at' "Plan")
  exm : ExmOk K cl exmT
  x0 : ∀ b, cl.xof b = none
  t_MOST_ROWS : Tok
  g_MOST_ROWS : mg "MOST_ROWS" = some (.int 3 t_MOST_ROWS)
  t_MOST_UNKNOWNS : Tok
  g_MOST_UNKNOWNS : mg "MOST_UNKNOWNS" = some (.int 6 t_MOST_UNKNOWNS)
  z_all : mg "all" = none
  z_bool : mg "bool" = none
  z_enumerate : mg "enumerate" = none
  z_int : mg "int" = none
  z_isinstance : mg "isinstance" = none
  z_len : mg "len" = none
  z_list : mg "list" = none
  z_range : mg "range" = none
  z_sum : mg "sum" = none
  z_tuple : mg "tuple" = none
  z_zip : mg "zip" = none
section
variable {P : Program} {w : World} {K : PySem.W.Frag} {mg : Str → Option Value} {base : Heap} {cl : Cl}
theorem ok_NoPlan_init (T : Tx K mg cl) : FnOk P w K mg base (L2.CX P w) 1 T.x_NoPlan.fI T.x_NoPlan.fd ["self", "what"] (spI1 K (cl.at' "NoPlan") "what") :=
  T.x_NoPlan.F.okX (N := ["self", "what"]) (k := 0) sc_NoPlan_init spI1_len fun cdv A outer s H vs Q E hr hsp => ⟨_, pss_cons (ps_expr (pe_winit (by rfl) T.way.m T.way.ga T.way.rd T.way.vV (pa_cons (pv 0) (pa_cons pe_str pa_nil)))) (pss_one (ps_ost (pv 0) (pv 1))), by
    obtain ⟨a, v, rfl, h⟩ := hsp
    exact init1_sound (E := E) ⟨a, v, rfl, h⟩⟩
noncomputable def g_is_whole : Ss := (sRet (xAnd (xPrim [.va 0] (pIsi .int)) (xNot (xPrim [.va 0] (pIsi .bool)))))
noncomputable def f_is_whole : Fn := bodyF 1 g_is_whole
theorem ok_is_whole (T : Tx K mg cl) : FnOk P w K mg base (L2.CX P w) 1 T.a_is_whole T.fd_is_whole ["thing"] (spF (gk K cl) 1 f_is_whole) :=
  fn_ok (N := ["thing"]) (k := 0) (g := g_is_whole) T.F_is_whole sc_is_whole fun cdv A outer s H vs E hr => (bj_one (sj_ret (ej_and (ej_isi (t := .int) T.z_isinstance (by rfl) (oj_cons (lj_va (pv 0)) oj_nil) (pe_bltn (v := .ty "int") (by rfl) T.z_int (by decide +kernel) rfl)) (ej_one (ej_not (ej_isi (t := .bool) T.z_isinstance (by rfl) (oj_cons (lj_va (pv 0)) oj_nil) (pe_bltn (v := .ty "bool") (by rfl) T.z_bool (by decide +kernel) rfl)))))))
noncomputable def c_is_row_0 : Sx := (xLc (con (.va 0)) (stN 2) bYes (xCall f_is_whole [.va 2]) [2])
noncomputable def g_is_row : Ss := (sRet (xAnd (xPrim [.va 0] (pIsi .tuple)) (xAnd (xPrim [.ex (xPrim [.va 0] pLen), .va 1] pEq) (xPrim [.ex c_is_row_0] pAll))))
noncomputable def f_is_row : Fn := bodyF 3 g_is_row
theorem ok_is_row (T : Tx K mg cl) : FnOk P w K mg base (L2.CX P w) 2 T.a_is_row T.fd_is_row ["thing", "wide"] (spF (gk K cl) 2 f_is_row) :=
  fn_ok (N := ["thing", "wide", "one"]) (k := 1) (g := g_is_row) T.F_is_row sc_is_row fun cdv A outer s H vs E hr => (bj_one (sj_ret (ej_and (ej_isi (t := .tuple) T.z_isinstance (by rfl) (oj_cons (lj_va (pv 0)) oj_nil) (pe_bltn (v := .ty "tuple") (by rfl) T.z_tuple (by decide +kernel) rfl)) (ej_and (ej_eq hr.units (oj_cons (lj_ex (ej_callB call_len_seq pr_len (by rfl) T.z_len (by decide +kernel) (oj_cons (lj_va (pv 0)) oj_nil))) (oj_cons (lj_va (pv 1)) oj_nil))) (ej_one (ej_callB (cr_allK rfl) (pr_anyK _) (by rfl) T.z_all (by decide +kernel) (oj_cons (lj_ex (ej_lc rfl sc_is_row.nd (ij_seq (lj_va (pv 0))) (blkOk_by (own := [("one", 2)]) (by kernel_rfl)) (fun _ _ _ _ _ => (gj_name (i := 2) sc_is_row.nd rfl (.inl rfl))) (fun _ _ _ _ _ => fj_nil) (fun _ _ _ _ _ => (ej_call (ok_is_whole T) (hr.mono (by first | decide | omega)) (by rfl) T.m_is_whole T.F_is_whole.kp T.b_is_whole takes0 (kj_cons (lj_va (pv 2)) kj_nil) rfl)) (by decide))) oj_nil)))))))
noncomputable def b_are_tops_0 : Sb := (bOr (bNot (bTru [.ex (xPrim [.va 0] (pIsi .tuple))])) (bT (xPrim [.ex (xPrim [.va 0] pLen), .va 1] pNe)))
noncomputable def c_are_tops_0 : Sx := (xLc (con (.va 0)) (stN 2) bYes (xOr (xPrim [.va 2, .ex (xC .non)] pIsN) (xAnd (xCall f_is_whole [.va 2]) (xPrim [.va 2, .ex (xC (.int 0))] pGe))) [2])
noncomputable def g_are_tops : Ss := (sSeq (sIf b_are_tops_0 (sRet (xC (.bl false))) sNil)
    (sRet (xPrim [.ex c_are_tops_0] pAll)))
noncomputable def f_are_tops : Fn := bodyF 3 g_are_tops
theorem ok_are_tops (T : Tx K mg cl) : FnOk P w K mg base (L2.CX P w) 2 T.a_are_tops T.fd_are_tops ["tops", "wide"] (spF (gk K cl) 2 f_are_tops) :=
  fn_ok (N := ["tops", "wide", "one"]) (k := 1) (g := g_are_tops) T.F_are_tops sc_are_tops fun cdv A outer s H vs E hr => (bj_cons (sj_if (wj_or (tj_not (tj_tru (oj_cons (lj_ex (ej_isi (t := .tuple) T.z_isinstance (by rfl) (oj_cons (lj_va (pv 0)) oj_nil) (pe_bltn (v := .ty "tuple") (by rfl) T.z_tuple (by decide +kernel) rfl))) oj_nil))) (wj_or1 (tj_ne hr.units (oj_cons (lj_ex (ej_callB call_len_seq pr_len (by rfl) T.z_len (by decide +kernel) (oj_cons (lj_va (pv 0)) oj_nil))) (oj_cons (lj_va (pv 1)) oj_nil))))).tj (bj_one (sj_ret ej_bl)) bj_nil)
    (bj_one (sj_ret (ej_callB (cr_allK rfl) (pr_anyK _) (by rfl) T.z_all (by decide +kernel) (oj_cons (lj_ex (ej_lc rfl sc_are_tops.nd (ij_seq (lj_va (pv 0))) (blkOk_by (own := [("one", 2)]) (by kernel_rfl)) (fun _ _ _ _ _ => (gj_name (i := 2) sc_are_tops.nd rfl (.inl rfl))) (fun _ _ _ _ _ => fj_nil) (fun _ _ _ _ _ => (ej_or (ej_isN (oj_cons (lj_va (pv 2)) (oj_cons (lj_ex ej_non) oj_nil))) (ej_one (ej_and (ej_call (ok_is_whole T) (hr.mono (by first | decide | omega)) (by rfl) T.m_is_whole T.F_is_whole.kp T.b_is_whole takes0 (kj_cons (lj_va (pv 2)) kj_nil) rfl) (ej_one (ej_ge (oj_cons (lj_va (pv 2)) (oj_cons (lj_ex ej_int) oj_nil)))))))) (by decide))) oj_nil)))))
noncomputable def b_Plan_init_0 : Sb := (bOr (bNot (bTru [.ex (xPrim [.va 2] (pIsi .tuple))])) (bOr (bNot (bT (xChain (fun i j => decide (i ≤ j)) (fun i j => decide (i ≤ j)) [.ex (xC (.int 1)), .ex (xPrim [.va 2] pLen)] [.ex (xC (.int 6))]))) (bNot (bTru [.ex (xCall f_is_row [.va 2, .ex (xPrim [.va 2] pLen)])]))))
noncomputable def c_Plan_init_0 : Sx := (xLc (con (.va 1)) (stN 6) bYes (xCall f_is_row [.va 6, .va 5]) [6])
noncomputable def b_Plan_init_1 : Sb := (bOr (bNot (bTru [.ex (xPrim [.va 1] (pIsi .list))])) (bOr (bT (xPrim [.ex (xPrim [.va 1] pLen), .ex (xC (.int 3))] pGt)) (bNot (bTru [.ex (xPrim [.ex c_Plan_init_0] pAll)]))))
noncomputable def b_Plan_init_2 : Sb := (bAnd (bT (xPrim [.va 4, .ex (xC .non)] pNotN)) (bNot (bTru [.ex (xCall f_are_tops [.va 4, .va 5])])))
noncomputable def g_Plan_init : Sn := (nSeq (sIf b_Plan_init_0 (sRaise1 "NoPlan" "what" (xC (.str "costs"))) sNil)
    (nSeq (sSet 5 (xPrim [.va 2] pLen))
    (nSeq (sIf b_Plan_init_1 (sRaise1 "NoPlan" "what" (xC (.str "rows"))) sNil)
    (nSeq (sIf (bNot (bTru [.ex (xCall f_is_row [.va 3, .ex (xPrim [.va 1] pLen)])])) (sRaise1 "NoPlan" "what" (xC (.str "side"))) sNil)
    (nSeq (sIf b_Plan_init_2 (sRaise1 "NoPlan" "what" (xC (.str "tops"))) sNil)
    (nSto "kept_rows" (xPrim [.va 1] pTuple)
    (nSto "kept_costs" (xVar 2)
    (nSto "kept_side" (xVar 3)
    (nSto "kept_tops" (xIf (bT (xPrim [.va 4, .ex (xC .non)] pIsN)) (xPrim [.ex (xTup [(xC .non)]), .va 5] pMul) (xVar 4))
    nNil)))))))))
noncomputable def f_Plan_init : Fi := bodyN 7 g_Plan_init
theorem ok_Plan_init (T : Tx K mg cl) : FnOk P w K mg base (L2.CX P w) 3 T.a_Plan_init T.fd_Plan_init ["self", "rows", "costs", "side", "tops"] (spN (gk K cl) "Plan" 4 f_Plan_init) :=
  fn_okN (N := ["self", "rows", "costs", "side", "tops", "wide", "row"]) (k := 2) (g := g_Plan_init) T.F_Plan_init sc_Plan_init rfl fun cdv A outer s H vs E hr => (nj_cons (sj_if (wj_or (tj_not (tj_tru (oj_cons (lj_ex (ej_isi (t := .tuple) T.z_isinstance (by rfl) (oj_cons (lj_va (pv 2)) oj_nil) (pe_bltn (v := .ty "tuple") (by rfl) T.z_tuple (by decide +kernel) rfl))) oj_nil))) (wj_or (tj_not (tj_chain (g1 := (fun i j => decide (i ≤ j))) (g2 := (fun i j => decide (i ≤ j))) op_le op_le (oj_cons (lj_ex ej_int) (oj_cons (lj_ex (ej_callB call_len_seq pr_len (by rfl) T.z_len (by decide +kernel) (oj_cons (lj_va (pv 2)) oj_nil))) oj_nil)) (oj_cons (lj_ex (ej_globI (by rfl) T.g_MOST_UNKNOWNS)) oj_nil))) (wj_or1 (tj_not (tj_tru (oj_cons (lj_ex (ej_call (ok_is_row T) (hr.mono (by first | decide | omega)) (by rfl) T.m_is_row T.F_is_row.kp T.b_is_row (takes_of rfl rfl rfl rfl) (kj_cons (lj_va (pv 2)) (kj_cons (lj_ex (ej_callB call_len_seq pr_len (by rfl) T.z_len (by decide +kernel) (oj_cons (lj_va (pv 2)) oj_nil))) kj_nil)) rfl)) oj_nil)))))).tj (bj_one (sj_raise1 rfl (takes_of rfl rfl rfl rfl) T.x_NoPlan.oex (T.x_NoPlan.nf _ (by decide)) T.x_NoPlan.iC T.x_NoPlan.tI (ok_NoPlan_init T) (hr.mono (by first | decide | omega)) T.bi_NoPlan (passF (takes_of rfl rfl rfl rfl)) (by rfl) T.x_NoPlan.m (mj_cons ej_str mj_nil))) bj_nil)
    (nj_cons (sj_set (i := 5) sc_Plan_init.nd rfl (.inr rfl) (ej_callB call_len_seq pr_len (by rfl) T.z_len (by decide +kernel) (oj_cons (lj_va (pv 2)) oj_nil)))
    (nj_cons (sj_if (wj_or (tj_not (tj_tru (oj_cons (lj_ex (ej_isi (t := .list) T.z_isinstance (by rfl) (oj_cons (lj_va (pv 1)) oj_nil) (pe_bltn (v := .ty "list") (by rfl) T.z_list (by decide +kernel) rfl))) oj_nil))) (wj_or (tj_gt (oj_cons (lj_ex (ej_callB call_len_seq pr_len (by rfl) T.z_len (by decide +kernel) (oj_cons (lj_va (pv 1)) oj_nil))) (oj_cons (lj_ex (ej_globI (by rfl) T.g_MOST_ROWS)) oj_nil))) (wj_or1 (tj_not (tj_tru (oj_cons (lj_ex (ej_callB (cr_allK rfl) (pr_anyK _) (by rfl) T.z_all (by decide +kernel) (oj_cons (lj_ex (ej_lc rfl sc_Plan_init.nd (ij_seq (lj_va (pv 1))) (blkOk_by (own := [("row", 6)]) (by kernel_rfl)) (fun _ _ _ _ _ => (gj_name (i := 6) sc_Plan_init.nd rfl (.inl rfl))) (fun _ _ _ _ _ => fj_nil) (fun _ _ _ _ _ => (ej_call (ok_is_row T) (hr.mono (by first | decide | omega)) (by rfl) T.m_is_row T.F_is_row.kp T.b_is_row takes0 (kj_cons (lj_va (pv 6)) (kj_cons (lj_va (pv 5)) kj_nil)) rfl)) (by decide))) oj_nil))) oj_nil)))))).tj (bj_one (sj_raise1 rfl (takes_of rfl rfl rfl rfl) T.x_NoPlan.oex (T.x_NoPlan.nf _ (by decide)) T.x_NoPlan.iC T.x_NoPlan.tI (ok_NoPlan_init T) (hr.mono (by first | decide | omega)) T.bi_NoPlan (passF (takes_of rfl rfl rfl rfl)) (by rfl) T.x_NoPlan.m (mj_cons ej_str mj_nil))) bj_nil)
    (nj_cons (sj_if (tj_not (tj_tru (oj_cons (lj_ex (ej_call (ok_is_row T) (hr.mono (by first | decide | omega)) (by rfl) T.m_is_row T.F_is_row.kp T.b_is_row (takes_of rfl rfl rfl rfl) (kj_cons (lj_va (pv 3)) (kj_cons (lj_ex (ej_callB call_len_seq pr_len (by rfl) T.z_len (by decide +kernel) (oj_cons (lj_va (pv 1)) oj_nil))) kj_nil)) rfl)) oj_nil))) (bj_one (sj_raise1 rfl (takes_of rfl rfl rfl rfl) T.x_NoPlan.oex (T.x_NoPlan.nf _ (by decide)) T.x_NoPlan.iC T.x_NoPlan.tI (ok_NoPlan_init T) (hr.mono (by first | decide | omega)) T.bi_NoPlan (passF (takes_of rfl rfl rfl rfl)) (by rfl) T.x_NoPlan.m (mj_cons ej_str mj_nil))) bj_nil)
    (nj_cons (sj_if (wj_and (tj_notN (oj_cons (lj_va (pv 4)) (oj_cons (lj_ex ej_non) oj_nil))) (wj_and1 (tj_not (tj_tru (oj_cons (lj_ex (ej_call (ok_are_tops T) (hr.mono (by first | decide | omega)) (by rfl) T.m_are_tops T.F_are_tops.kp T.b_are_tops (takes_of rfl rfl rfl rfl) (kj_cons (lj_va (pv 4)) (kj_cons (lj_va (pv 5)) kj_nil)) rfl)) oj_nil))))).tj (bj_one (sj_raise1 rfl (takes_of rfl rfl rfl rfl) T.x_NoPlan.oex (T.x_NoPlan.nf _ (by decide)) T.x_NoPlan.iC T.x_NoPlan.tI (ok_NoPlan_init T) (hr.mono (by first | decide | omega)) T.bi_NoPlan (passF (takes_of rfl rfl rfl rfl)) (by rfl) T.x_NoPlan.m (mj_cons ej_str mj_nil))) bj_nil)
    (nj_store (pv 0) T.cls_Plan (T.na_Plan _ (by decide)) (ej_callTy call_tuple_of pr_tuple (by rfl) T.z_tuple (by decide +kernel) (oj_cons (lj_va (pv 1)) oj_nil))
    (nj_store (pv 0) T.cls_Plan (T.na_Plan _ (by decide)) (ej_var (pv 2))
    (nj_store (pv 0) T.cls_Plan (T.na_Plan _ (by decide)) (ej_var (pv 3))
    (nj_store (pv 0) T.cls_Plan (T.na_Plan _ (by decide)) (ej_if (tj_isN (oj_cons (lj_va (pv 4)) (oj_cons (lj_ex ej_non) oj_nil))) (ej_mul (oj_cons (lj_ex (ej_tup (mj_cons ej_non mj_nil))) (oj_cons (lj_va (pv 5)) oj_nil))) (ej_var (pv 4)))
    nj_nil)))))))))
noncomputable def fB_Plan_init : Fn := bodyM 7 "Plan" g_Plan_init
theorem okB_Plan_init (T : Tx K mg cl) : FnOk P w K mg base (L2.CX P w) 3 T.a_Plan_init T.fd_Plan_init ["self", "rows", "costs", "side", "tops"] (spM (gk K cl) "Plan" 4 fB_Plan_init) :=
  fn_okM (N := ["self", "rows", "costs", "side", "tops", "wide", "row"]) (k := 2) (g := g_Plan_init) T.F_Plan_init sc_Plan_init rfl fun cdv A outer s H vs E hr => (nj_cons (sj_if (wj_or (tj_not (tj_tru (oj_cons (lj_ex (ej_isi (t := .tuple) T.z_isinstance (by rfl) (oj_cons (lj_va (pv 2)) oj_nil) (pe_bltn (v := .ty "tuple") (by rfl) T.z_tuple (by decide +kernel) rfl))) oj_nil))) (wj_or (tj_not (tj_chain (g1 := (fun i j => decide (i ≤ j))) (g2 := (fun i j => decide (i ≤ j))) op_le op_le (oj_cons (lj_ex ej_int) (oj_cons (lj_ex (ej_callB call_len_seq pr_len (by rfl) T.z_len (by decide +kernel) (oj_cons (lj_va (pv 2)) oj_nil))) oj_nil)) (oj_cons (lj_ex (ej_globI (by rfl) T.g_MOST_UNKNOWNS)) oj_nil))) (wj_or1 (tj_not (tj_tru (oj_cons (lj_ex (ej_call (ok_is_row T) (hr.mono (by first | decide | omega)) (by rfl) T.m_is_row T.F_is_row.kp T.b_is_row (takes_of rfl rfl rfl rfl) (kj_cons (lj_va (pv 2)) (kj_cons (lj_ex (ej_callB call_len_seq pr_len (by rfl) T.z_len (by decide +kernel) (oj_cons (lj_va (pv 2)) oj_nil))) kj_nil)) rfl)) oj_nil)))))).tj (bj_one (sj_raise1 rfl (takes_of rfl rfl rfl rfl) T.x_NoPlan.oex (T.x_NoPlan.nf _ (by decide)) T.x_NoPlan.iC T.x_NoPlan.tI (ok_NoPlan_init T) (hr.mono (by first | decide | omega)) T.bi_NoPlan (passF (takes_of rfl rfl rfl rfl)) (by rfl) T.x_NoPlan.m (mj_cons ej_str mj_nil))) bj_nil)
    (nj_cons (sj_set (i := 5) sc_Plan_init.nd rfl (.inr rfl) (ej_callB call_len_seq pr_len (by rfl) T.z_len (by decide +kernel) (oj_cons (lj_va (pv 2)) oj_nil)))
    (nj_cons (sj_if (wj_or (tj_not (tj_tru (oj_cons (lj_ex (ej_isi (t := .list) T.z_isinstance (by rfl) (oj_cons (lj_va (pv 1)) oj_nil) (pe_bltn (v := .ty "list") (by rfl) T.z_list (by decide +kernel) rfl))) oj_nil))) (wj_or (tj_gt (oj_cons (lj_ex (ej_callB call_len_seq pr_len (by rfl) T.z_len (by decide +kernel) (oj_cons (lj_va (pv 1)) oj_nil))) (oj_cons (lj_ex (ej_globI (by rfl) T.g_MOST_ROWS)) oj_nil))) (wj_or1 (tj_not (tj_tru (oj_cons (lj_ex (ej_callB (cr_allK rfl) (pr_anyK _) (by rfl) T.z_all (by decide +kernel) (oj_cons (lj_ex (ej_lc rfl sc_Plan_init.nd (ij_seq (lj_va (pv 1))) (blkOk_by (own := [("row", 6)]) (by kernel_rfl)) (fun _ _ _ _ _ => (gj_name (i := 6) sc_Plan_init.nd rfl (.inl rfl))) (fun _ _ _ _ _ => fj_nil) (fun _ _ _ _ _ => (ej_call (ok_is_row T) (hr.mono (by first | decide | omega)) (by rfl) T.m_is_row T.F_is_row.kp T.b_is_row takes0 (kj_cons (lj_va (pv 6)) (kj_cons (lj_va (pv 5)) kj_nil)) rfl)) (by decide))) oj_nil))) oj_nil)))))).tj (bj_one (sj_raise1 rfl (takes_of rfl rfl rfl rfl) T.x_NoPlan.oex (T.x_NoPlan.nf _ (by decide)) T.x_NoPlan.iC T.x_NoPlan.tI (ok_NoPlan_init T) (hr.mono (by first | decide | omega)) T.bi_NoPlan (passF (takes_of rfl rfl rfl rfl)) (by rfl) T.x_NoPlan.m (mj_cons ej_str mj_nil))) bj_nil)
    (nj_cons (sj_if (tj_not (tj_tru (oj_cons (lj_ex (ej_call (ok_is_row T) (hr.mono (by first | decide | omega)) (by rfl) T.m_is_row T.F_is_row.kp T.b_is_row (takes_of rfl rfl rfl rfl) (kj_cons (lj_va (pv 3)) (kj_cons (lj_ex (ej_callB call_len_seq pr_len (by rfl) T.z_len (by decide +kernel) (oj_cons (lj_va (pv 1)) oj_nil))) kj_nil)) rfl)) oj_nil))) (bj_one (sj_raise1 rfl (takes_of rfl rfl rfl rfl) T.x_NoPlan.oex (T.x_NoPlan.nf _ (by decide)) T.x_NoPlan.iC T.x_NoPlan.tI (ok_NoPlan_init T) (hr.mono (by first | decide | omega)) T.bi_NoPlan (passF (takes_of rfl rfl rfl rfl)) (by rfl) T.x_NoPlan.m (mj_cons ej_str mj_nil))) bj_nil)
    (nj_cons (sj_if (wj_and (tj_notN (oj_cons (lj_va (pv 4)) (oj_cons (lj_ex ej_non) oj_nil))) (wj_and1 (tj_not (tj_tru (oj_cons (lj_ex (ej_call (ok_are_tops T) (hr.mono (by first | decide | omega)) (by rfl) T.m_are_tops T.F_are_tops.kp T.b_are_tops (takes_of rfl rfl rfl rfl) (kj_cons (lj_va (pv 4)) (kj_cons (lj_va (pv 5)) kj_nil)) rfl)) oj_nil))))).tj (bj_one (sj_raise1 rfl (takes_of rfl rfl rfl rfl) T.x_NoPlan.oex (T.x_NoPlan.nf _ (by decide)) T.x_NoPlan.iC T.x_NoPlan.tI (ok_NoPlan_init T) (hr.mono (by first | decide | omega)) T.bi_NoPlan (passF (takes_of rfl rfl rfl rfl)) (by rfl) T.x_NoPlan.m (mj_cons ej_str mj_nil))) bj_nil)
    (nj_store (pv 0) T.cls_Plan (T.na_Plan _ (by decide)) (ej_callTy call_tuple_of pr_tuple (by rfl) T.z_tuple (by decide +kernel) (oj_cons (lj_va (pv 1)) oj_nil))
    (nj_store (pv 0) T.cls_Plan (T.na_Plan _ (by decide)) (ej_var (pv 2))
    (nj_store (pv 0) T.cls_Plan (T.na_Plan _ (by decide)) (ej_var (pv 3))
    (nj_store (pv 0) T.cls_Plan (T.na_Plan _ (by decide)) (ej_if (tj_isN (oj_cons (lj_va (pv 4)) (oj_cons (lj_ex ej_non) oj_nil))) (ej_mul (oj_cons (lj_ex (ej_tup (mj_cons ej_non mj_nil))) (oj_cons (lj_va (pv 5)) oj_nil))) (ej_var (pv 4)))
    nj_nil)))))))))
noncomputable def g__law_draw : Ss := (sSeq (sIf (bT (xPrim [.ex (xPrim [.va 0, .ex (xC (.int 0))] pIx), .ex (xC (.int 0))] pGt)) (sSeq (sSet 3 (xPrim [.ex (xPrim [.va 0, .ex (xC (.int 0))] pIx), .va 1] pMod))
    (sSeq (sStore 0 (xPrim [.ex (xPrim [.va 0, .ex (xC (.int 0))] pIx), .va 1] pFdiv) (.ex (xC (.int 0))))
    (sRetV 3))) sNil)
    (sSeq (sStore 0 (xPrim [.ex (xPrim [.va 0, .ex (xC (.int 2))] pIx), .ex (xC (.int 1))] pAdd) (.ex (xC (.int 2))))
    (sSeq (sSet 2 (xPrim [.ex (xPrim [.ex (xPrim [.ex (xPrim [.ex (xPrim [.va 0, .ex (xC (.int 1))] pIx), .ex (xPrim [.ex (xC (.int 104729)), .ex (xPrim [.va 0, .ex (xC (.int 2))] pIx)] pMul)] pAdd), .ex (xC (.int 1))] pAdd), .ex (xC (.int 48271))] pMul), .ex (xC (.int 2147483647))] pMod))
    (sSeq (sSet 2 (xPrim [.ex (xPrim [.va 2, .ex (xPrim [.ex (xPrim [.va 2, .ex (xC (.int 1009))] pFdiv), .ex (xC (.int 69621))] pAdd)] pMul), .ex (xC (.int 2147483647))] pMod))
    (sRet (xPrim [.ex (xPrim [.ex (xPrim [.va 2, .ex (xPrim [.ex (xPrim [.va 2, .ex (xC (.int 2003))] pFdiv), .ex (xC (.int 40692))] pAdd)] pMul), .ex (xC (.int 2147483399))] pMod), .va 1] pMod))))))
noncomputable def f__law_draw : Fn := bodyF 4 g__law_draw
theorem ok__law_draw (T : Tx K mg cl) : FnOk P w K mg base (L2.CX P w) 1 T.a__law_draw T.fd__law_draw ["_law_well", "_law_many"] (spF (gk K cl) 2 f__law_draw) :=
  fn_ok (N := ["_law_well", "_law_many", "_law_number", "_law_found"]) (k := 0) (g := g__law_draw) T.F__law_draw sc__law_draw fun cdv A outer s H vs E hr => (bj_cons (sj_if (tj_gt (oj_cons (lj_ex (ej_sbs (oj_cons (lj_va (pv 0)) (oj_cons (lj_ex ej_int) oj_nil)))) (oj_cons (lj_ex ej_int) oj_nil))) (bj_cons (sj_set (i := 3) sc__law_draw.nd rfl (.inl rfl) (ej_mod (oj_cons (lj_ex (ej_sbs (oj_cons (lj_va (pv 0)) (oj_cons (lj_ex ej_int) oj_nil)))) (oj_cons (lj_va (pv 1)) oj_nil))))
    (bj_cons (sj_store (pv 0) (oj_cons (lj_ex ej_int) oj_nil) (ej_fdiv (oj_cons (lj_ex (ej_sbs (oj_cons (lj_va (pv 0)) (oj_cons (lj_ex ej_int) oj_nil)))) (oj_cons (lj_va (pv 1)) oj_nil))))
    (bj_one (sj_retV (pv 3))))) bj_nil)
    (bj_cons (sj_store (pv 0) (oj_cons (lj_ex ej_int) oj_nil) (ej_add (oj_cons (lj_ex (ej_sbs (oj_cons (lj_va (pv 0)) (oj_cons (lj_ex ej_int) oj_nil)))) (oj_cons (lj_ex ej_int) oj_nil))))
    (bj_cons (sj_set (i := 2) sc__law_draw.nd rfl (.inl rfl) (ej_mod (oj_cons (lj_ex (ej_mul (oj_cons (lj_ex (ej_add (oj_cons (lj_ex (ej_add (oj_cons (lj_ex (ej_sbs (oj_cons (lj_va (pv 0)) (oj_cons (lj_ex ej_int) oj_nil)))) (oj_cons (lj_ex (ej_mul (oj_cons (lj_ex ej_int) (oj_cons (lj_ex (ej_sbs (oj_cons (lj_va (pv 0)) (oj_cons (lj_ex ej_int) oj_nil)))) oj_nil)))) oj_nil)))) (oj_cons (lj_ex ej_int) oj_nil)))) (oj_cons (lj_ex ej_int) oj_nil)))) (oj_cons (lj_ex ej_int) oj_nil))))
    (bj_cons (sj_set (i := 2) sc__law_draw.nd rfl (.inl rfl) (ej_mod (oj_cons (lj_ex (ej_mul (oj_cons (lj_va (pv 2)) (oj_cons (lj_ex (ej_add (oj_cons (lj_ex (ej_fdiv (oj_cons (lj_va (pv 2)) (oj_cons (lj_ex ej_int) oj_nil)))) (oj_cons (lj_ex ej_int) oj_nil)))) oj_nil)))) (oj_cons (lj_ex ej_int) oj_nil))))
    (bj_one (sj_ret (ej_mod (oj_cons (lj_ex (ej_mod (oj_cons (lj_ex (ej_mul (oj_cons (lj_va (pv 2)) (oj_cons (lj_ex (ej_add (oj_cons (lj_ex (ej_fdiv (oj_cons (lj_va (pv 2)) (oj_cons (lj_ex ej_int) oj_nil)))) (oj_cons (lj_ex ej_int) oj_nil)))) oj_nil)))) (oj_cons (lj_ex ej_int) oj_nil)))) (oj_cons (lj_va (pv 1)) oj_nil)))))))))
noncomputable def g_Plan_told : Ss := (sRet (xTup [(xPrim [.va 0] (pFld "Plan" "kept_rows")), (xPrim [.va 0] (pFld "Plan" "kept_costs")), (xPrim [.va 0] (pFld "Plan" "kept_side")), (xPrim [.va 0] (pFld "Plan" "kept_tops"))]))
noncomputable def f_Plan_told : Fn := bodyF 1 g_Plan_told
theorem ok_Plan_told (T : Tx K mg cl) : FnOk P w K mg base (L2.CX P w) 1 T.a_Plan_told T.fd_Plan_told ["self"] (spF (gk K cl) 1 f_Plan_told) :=
  fn_ok (N := ["self"]) (k := 0) (g := g_Plan_told) T.F_Plan_told sc_Plan_told fun cdv A outer s H vs E hr => (bj_one (sj_ret (ej_tup (mj_cons (ej_fld (c := "Plan") T.cls_Plan (T.na_Plan _ (by decide)) (oj_cons (lj_va (pv 0)) oj_nil)) (mj_cons (ej_fld (c := "Plan") T.cls_Plan (T.na_Plan _ (by decide)) (oj_cons (lj_va (pv 0)) oj_nil)) (mj_cons (ej_fld (c := "Plan") T.cls_Plan (T.na_Plan _ (by decide)) (oj_cons (lj_va (pv 0)) oj_nil)) (mj_cons (ej_fld (c := "Plan") T.cls_Plan (T.na_Plan _ (by decide)) (oj_cons (lj_va (pv 0)) oj_nil)) mj_nil)))))))
noncomputable def g_Plan___eq__ : Ss := (sRet (xAnd (xPrim [.va 1] (pIsO "Plan")) (xPrim [.ex (xMeth "Plan" "told" 0 (permF [.arg 0] [0] f_Plan_told) []), .ex (xMeth "Plan" "told" 1 (permF [.arg 0] [0] f_Plan_told) [])] pEq)))
noncomputable def f_Plan___eq__ : Fn := bodyF 2 g_Plan___eq__
theorem ok_Plan___eq__ (T : Tx K mg cl) : FnOk P w K mg base (L2.CX P w) 2 T.a_Plan___eq__ T.fd_Plan___eq__ ["self", "other"] (spF (gk K cl) 2 f_Plan___eq__) :=
  fn_ok (N := ["self", "other"]) (k := 1) (g := g_Plan___eq__) T.F_Plan___eq__ sc_Plan___eq__ fun cdv A outer s H vs E hr => (bj_one (sj_ret (ej_and (ej_isO (c := "Plan") (C := "Plan") T.ic_Plan T.z_isinstance (by rfl) (oj_cons (lj_va (pv 1)) oj_nil) (pe_glob (by rfl) T.mc_Plan rfl)) (ej_one (ej_eq hr.units (oj_cons (lj_ex (ej_methK0 (c := "Plan") (sel := [.arg 0]) (inv := [0]) (pv 0) T.cls_Plan T.mt_Plan_told (ok_Plan_told T) (hr.mono (by first | decide | omega)) T.kb_Plan_told_1_ (takes_of rfl rfl rfl rfl) kj_nil (by decide))) (oj_cons (lj_ex (ej_methK0 (c := "Plan") (sel := [.arg 0]) (inv := [0]) (pv 1) T.cls_Plan T.mt_Plan_told (ok_Plan_told T) (hr.mono (by first | decide | omega)) T.kb_Plan_told_1_ (takes_of rfl rfl rfl rfl) kj_nil (by decide))) oj_nil)))))))
noncomputable def g_Plan_changed : Ss := (sRet (xMake "Plan" f_Plan_init [.arg 1, .arg 2, .arg 3, .arg 4] [.ex (xPrim [.ex (xPrim [.va 0] (pFld "Plan" "kept_rows"))] pList), .ex (xIf (bT (xPrim [.va 1, .ex (xC .non)] pIsN)) (xPrim [.va 0] (pFld "Plan" "kept_costs")) (xVar 1)), .ex (xIf (bT (xPrim [.va 2, .ex (xC .non)] pIsN)) (xPrim [.va 0] (pFld "Plan" "kept_side")) (xVar 2)), .ex (xIf (bT (xPrim [.va 3, .ex (xC .non)] pIsN)) (xPrim [.va 0] (pFld "Plan" "kept_tops")) (xVar 3))]))
noncomputable def f_Plan_changed : Fn := bodyF 4 g_Plan_changed
theorem ok_Plan_changed (T : Tx K mg cl) : FnOk P w K mg base (L2.CX P w) 5 T.a_Plan_changed T.fd_Plan_changed ["self", "costs", "side", "tops"] (spF (gk K cl) 4 f_Plan_changed) :=
  fn_ok (N := ["self", "costs", "side", "tops"]) (k := 4) (g := g_Plan_changed) T.F_Plan_changed sc_Plan_changed fun cdv A outer s H vs E hr => (bj_one (sj_ret (ej_make (c := "Plan") (sel := [.arg 1, .arg 2, .arg 3, .arg 4]) T.mk_Plan (ok_Plan_init T) (hr.mono (by first | decide | omega)) (by rfl) T.mc_Plan T.kb_Plan_init_2_costs_side_tops (takes_of rfl rfl rfl rfl) (.cons rfl .nil) (kj_cons (lj_ex (ej_callTy call_list_of pr_list (by rfl) T.z_list (by decide +kernel) (oj_cons (lj_ex (ej_fld (c := "Plan") T.cls_Plan (T.na_Plan _ (by decide)) (oj_cons (lj_va (pv 0)) oj_nil))) oj_nil))) (kj_cons (lj_ex (ej_if (tj_isN (oj_cons (lj_va (pv 1)) (oj_cons (lj_ex ej_non) oj_nil))) (ej_fld (c := "Plan") T.cls_Plan (T.na_Plan _ (by decide)) (oj_cons (lj_va (pv 0)) oj_nil)) (ej_var (pv 1)))) (kj_cons (lj_ex (ej_if (tj_isN (oj_cons (lj_va (pv 2)) (oj_cons (lj_ex ej_non) oj_nil))) (ej_fld (c := "Plan") T.cls_Plan (T.na_Plan _ (by decide)) (oj_cons (lj_va (pv 0)) oj_nil)) (ej_var (pv 2)))) (kj_cons (lj_ex (ej_if (tj_isN (oj_cons (lj_va (pv 3)) (oj_cons (lj_ex ej_non) oj_nil))) (ej_fld (c := "Plan") T.cls_Plan (T.na_Plan _ (by decide)) (oj_cons (lj_va (pv 0)) oj_nil)) (ej_var (pv 3)))) kj_nil)))) (by decide))))
noncomputable def g_Plan_rows : Ss := (sRet (xPrim [.ex (xPrim [.va 0] (pFld "Plan" "kept_rows"))] pList))
noncomputable def f_Plan_rows : Fn := bodyF 1 g_Plan_rows
theorem ok_Plan_rows (T : Tx K mg cl) : FnOk P w K mg base (L2.CX P w) 1 T.a_Plan_rows T.fd_Plan_rows ["self"] (spF (gk K cl) 1 f_Plan_rows) :=
  fn_ok (N := ["self"]) (k := 0) (g := g_Plan_rows) T.F_Plan_rows sc_Plan_rows fun cdv A outer s H vs E hr => (bj_one (sj_ret (ej_callTy call_list_of pr_list (by rfl) T.z_list (by decide +kernel) (oj_cons (lj_ex (ej_fld (c := "Plan") T.cls_Plan (T.na_Plan _ (by decide)) (oj_cons (lj_va (pv 0)) oj_nil))) oj_nil))))
noncomputable def g_Plan_costs : Ss := (sRet (xPrim [.va 0] (pFld "Plan" "kept_costs")))
noncomputable def f_Plan_costs : Fn := bodyF 1 g_Plan_costs
theorem ok_Plan_costs (T : Tx K mg cl) : FnOk P w K mg base (L2.CX P w) 1 T.a_Plan_costs T.fd_Plan_costs ["self"] (spF (gk K cl) 1 f_Plan_costs) :=
  fn_ok (N := ["self"]) (k := 0) (g := g_Plan_costs) T.F_Plan_costs sc_Plan_costs fun cdv A outer s H vs E hr => (bj_one (sj_ret (ej_fld (c := "Plan") T.cls_Plan (T.na_Plan _ (by decide)) (oj_cons (lj_va (pv 0)) oj_nil))))
noncomputable def g_Plan_side : Ss := (sRet (xPrim [.va 0] (pFld "Plan" "kept_side")))
noncomputable def f_Plan_side : Fn := bodyF 1 g_Plan_side
theorem ok_Plan_side (T : Tx K mg cl) : FnOk P w K mg base (L2.CX P w) 1 T.a_Plan_side T.fd_Plan_side ["self"] (spF (gk K cl) 1 f_Plan_side) :=
  fn_ok (N := ["self"]) (k := 0) (g := g_Plan_side) T.F_Plan_side sc_Plan_side fun cdv A outer s H vs E hr => (bj_one (sj_ret (ej_fld (c := "Plan") T.cls_Plan (T.na_Plan _ (by decide)) (oj_cons (lj_va (pv 0)) oj_nil))))
noncomputable def g_Plan_tops : Ss := (sRet (xPrim [.va 0] (pFld "Plan" "kept_tops")))
noncomputable def f_Plan_tops : Fn := bodyF 1 g_Plan_tops
theorem ok_Plan_tops (T : Tx K mg cl) : FnOk P w K mg base (L2.CX P w) 1 T.a_Plan_tops T.fd_Plan_tops ["self"] (spF (gk K cl) 1 f_Plan_tops) :=
  fn_ok (N := ["self"]) (k := 0) (g := g_Plan_tops) T.F_Plan_tops sc_Plan_tops fun cdv A outer s H vs E hr => (bj_one (sj_ret (ej_fld (c := "Plan") T.cls_Plan (T.na_Plan _ (by decide)) (oj_cons (lj_va (pv 0)) oj_nil))))
noncomputable def c__law_changed_right_0 : Sx := (xLc (srcRng1 [.va 3]) (stN 12) bYes (xPrim [.ex (xCall f__law_draw [.va 0, .ex (xC (.int 9))]), .ex (xC (.int 4))] pSub) [12])
noncomputable def c__law_changed_right_1 : Sx := (xLc (con (.va 8)) (stN 13) bYes (xPrim [.ex (xCall f__law_draw [.va 0, .ex (xC (.int 9))]), .ex (xC (.int 4))] pSub) [13])
noncomputable def c__law_changed_right_2 : Sx := (xLc (srcRng1 [.va 3]) (stN 12) bYes (xPrim [.ex (xLst [(xC .non), (xCall f__law_draw [.va 0, .ex (xC (.int 9))])]), .ex (xCall f__law_draw [.va 0, .ex (xC (.int 2))])] pIx) [12])
noncomputable def b__law_changed_right_0 : Sb := (bT (xCall (neF "Plan" f_Plan___eq__) [.ex (xMeth "Plan" "changed" 1 (permF [.arg 0, .arg 1, .dfN, .dfN] [0, 1] f_Plan_changed) [.va 4]), .ex (xMake "Plan" f_Plan_init [.arg 1, .arg 2, .arg 3, .arg 4] [.ex (xVar 8), .ex (xVar 4), .ex (xVar 10), .ex (xVar 11)])]))
noncomputable def b__law_changed_right_1 : Sb := (bT (xCall (neF "Plan" f_Plan___eq__) [.ex (xMeth "Plan" "changed" 1 (permF [.arg 0, .dfN, .arg 1, .dfN] [0, 2] f_Plan_changed) [.va 5]), .ex (xMake "Plan" f_Plan_init [.arg 1, .arg 2, .arg 3, .arg 4] [.ex (xVar 8), .ex (xVar 9), .ex (xVar 5), .ex (xVar 11)])]))
noncomputable def b__law_changed_right_2 : Sb := (bOr (bT (xCall (neF "Plan" f_Plan___eq__) [.ex (xMeth "Plan" "changed" 1 (permF [.arg 0, .dfN, .dfN, .arg 1] [0, 3] f_Plan_changed) [.va 6]), .ex (xMake "Plan" f_Plan_init [.arg 1, .arg 2, .arg 3, .arg 4] [.ex (xVar 8), .ex (xVar 9), .ex (xVar 10), .ex (xVar 6)])])) (bT (xCall (neF "Plan" f_Plan___eq__) [.ex (xMeth "Plan" "changed" 1 (permF [.arg 0, .dfN, .dfN, .dfN] [0] f_Plan_changed) []), .va 1])))
noncomputable def b__law_changed_right_3 : Sb := (bOr (bT (xPrim [.ex (xMeth "Plan" "rows" 7 (permF [.arg 0] [0] f_Plan_rows) []), .va 8] pNe)) (bOr (bT (xPrim [.ex (xMeth "Plan" "costs" 7 (permF [.arg 0] [0] f_Plan_costs) []), .va 4] pNe)) (bOr (bT (xPrim [.ex (xMeth "Plan" "side" 7 (permF [.arg 0] [0] f_Plan_side) []), .va 5] pNe)) (bT (xPrim [.ex (xMeth "Plan" "tops" 7 (permF [.arg 0] [0] f_Plan_tops) []), .va 6] pNe)))))
noncomputable def g__law_changed_right : Ss := (sSeq (sTup [8, 9, 10, 11] (xVar 2))
    (sSeq (sSet 3 (xPrim [.va 9] pLen))
    (sSeq (sSet 4 (xPrim [.ex c__law_changed_right_0] pTuple))
    (sSeq (sSet 5 (xPrim [.ex c__law_changed_right_1] pTuple))
    (sSeq (sSet 6 (xPrim [.ex c__law_changed_right_2] pTuple))
    (sSeq (sIf b__law_changed_right_0 (sRet (xC (.bl false))) sNil)
    (sSeq (sIf b__law_changed_right_1 (sRet (xC (.bl false))) sNil)
    (sSeq (sIf b__law_changed_right_2 (sRet (xC (.bl false))) sNil)
    (sSeq (sSet 7 (xMeth "Plan" "changed" 1 (permF [.arg 0, .arg 1, .arg 2, .arg 3] [0, 1, 2, 3] f_Plan_changed) [.va 4, .va 5, .va 6]))
    (sSeq (sIf b__law_changed_right_3 (sRet (xC (.bl false))) sNil)
    (sRet (xPrim [.ex (xCall (eqF "Plan" f_Plan___eq__) [.ex (xMeth "Plan" "changed" 1 (permF [.arg 0, .arg 1, .dfN, .dfN] [0, 1] f_Plan_changed) [.va 4]), .va 1]), .ex (xPrim [.va 4, .va 9] pEq)] pEq))))))))))))
noncomputable def f__law_changed_right : Fn := bodyF 14 g__law_changed_right
theorem ok__law_changed_right (T : Tx K mg cl) : FnOk P w K mg base (L2.CX P w) 6 T.a__law_changed_right T.fd__law_changed_right ["_law_well", "_law_plan", "_law_parts"] (spF (gk K cl) 3 f__law_changed_right) :=
  fn_ok (N := ["_law_well", "_law_plan", "_law_parts", "_law_width", "_law_others", "_law_far", "_law_limits", "_law_whole", "_law_rows", "_law_fees", "_law_aim", "_law_caps", "_law_k", "_law_row"]) (k := 5) (g := g__law_changed_right) T.F__law_changed_right sc__law_changed_right fun cdv A outer s H vs E hr => (bj_cons (sj_tup (is := [8, 9, 10, 11]) rfl (pgs_cons (pg_name (i := 8) sc__law_changed_right.nd rfl (.inl rfl)) (pgs_cons (pg_name (i := 9) sc__law_changed_right.nd rfl (.inl rfl)) (pgs_cons (pg_name (i := 10) sc__law_changed_right.nd rfl (.inl rfl)) (pgs_cons (pg_name (i := 11) sc__law_changed_right.nd rfl (.inl rfl)) pgs_nil)))) (ej_var (pv 2)) rfl)
    (bj_cons (sj_set (i := 3) sc__law_changed_right.nd rfl (.inl rfl) (ej_callB call_len_seq pr_len (by rfl) T.z_len (by decide +kernel) (oj_cons (lj_va (pv 9)) oj_nil)))
    (bj_cons (sj_set (i := 4) sc__law_changed_right.nd rfl (.inl rfl) (ej_callTy call_tuple_of pr_tuple (by rfl) T.z_tuple (by decide +kernel) (oj_cons (lj_ex (ej_lc rfl sc__law_changed_right.nd (ij_rng1 (by rfl) T.z_range (oj_cons (lj_va (pv 3)) oj_nil)) (blkOk_by (own := [("_law_k", 12)]) (by kernel_rfl)) (fun _ _ _ _ _ => (gj_name (i := 12) sc__law_changed_right.nd rfl (.inl rfl))) (fun _ _ _ _ _ => fj_nil) (fun _ _ _ _ _ => (ej_sub (oj_cons (lj_ex (ej_call (ok__law_draw T) (hr.mono (by first | decide | omega)) (by rfl) T.m__law_draw T.F__law_draw.kp T.b__law_draw takes0 (kj_cons (lj_va (pv 0)) (kj_cons (lj_ex ej_int) kj_nil)) rfl)) (oj_cons (lj_ex ej_int) oj_nil)))) (by decide))) oj_nil)))
    (bj_cons (sj_set (i := 5) sc__law_changed_right.nd rfl (.inl rfl) (ej_callTy call_tuple_of pr_tuple (by rfl) T.z_tuple (by decide +kernel) (oj_cons (lj_ex (ej_lc rfl sc__law_changed_right.nd (ij_seq (lj_va (pv 8))) (blkOk_by (own := [("_law_row", 13)]) (by kernel_rfl)) (fun _ _ _ _ _ => (gj_name (i := 13) sc__law_changed_right.nd rfl (.inl rfl))) (fun _ _ _ _ _ => fj_nil) (fun _ _ _ _ _ => (ej_sub (oj_cons (lj_ex (ej_call (ok__law_draw T) (hr.mono (by first | decide | omega)) (by rfl) T.m__law_draw T.F__law_draw.kp T.b__law_draw takes0 (kj_cons (lj_va (pv 0)) (kj_cons (lj_ex ej_int) kj_nil)) rfl)) (oj_cons (lj_ex ej_int) oj_nil)))) (by decide))) oj_nil)))
    (bj_cons (sj_set (i := 6) sc__law_changed_right.nd rfl (.inl rfl) (ej_callTy call_tuple_of pr_tuple (by rfl) T.z_tuple (by decide +kernel) (oj_cons (lj_ex (ej_lc rfl sc__law_changed_right.nd (ij_rng1 (by rfl) T.z_range (oj_cons (lj_va (pv 3)) oj_nil)) (blkOk_by (own := [("_law_k", 12)]) (by kernel_rfl)) (fun _ _ _ _ _ => (gj_name (i := 12) sc__law_changed_right.nd rfl (.inl rfl))) (fun _ _ _ _ _ => fj_nil) (fun _ _ _ _ _ => (ej_sbs (oj_cons (lj_ex (ej_lst (mj_cons ej_non (mj_cons (ej_call (ok__law_draw T) (hr.mono (by first | decide | omega)) (by rfl) T.m__law_draw T.F__law_draw.kp T.b__law_draw takes0 (kj_cons (lj_va (pv 0)) (kj_cons (lj_ex ej_int) kj_nil)) rfl) mj_nil)))) (oj_cons (lj_ex (ej_call (ok__law_draw T) (hr.mono (by first | decide | omega)) (by rfl) T.m__law_draw T.F__law_draw.kp T.b__law_draw takes0 (kj_cons (lj_va (pv 0)) (kj_cons (lj_ex ej_int) kj_nil)) rfl)) oj_nil)))) (by decide))) oj_nil)))
    (bj_cons (sj_if (tj_neO (c := "Plan") T.nc_Plan T.mt_Plan___eq__ (ok_Plan___eq__ T) (hr.mono (by first | decide | omega)) T.b_Plan___eq__ (takes_of rfl rfl rfl rfl) (kj_cons (lj_ex (ej_methK0 (c := "Plan") (sel := [.arg 0, .arg 1, .dfN, .dfN]) (inv := [0, 1]) (pv 1) T.cls_Plan T.mt_Plan_changed (ok_Plan_changed T) (hr.mono (by first | decide | omega)) T.kb_Plan_changed_1_costs (takes_of rfl rfl rfl rfl) (kj_cons (lj_va (pv 4)) kj_nil) (by decide))) (kj_cons (lj_ex (ej_make (c := "Plan") (sel := [.arg 1, .arg 2, .arg 3, .arg 4]) T.mk_Plan (ok_Plan_init T) (hr.mono (by first | decide | omega)) (by rfl) T.mc_Plan T.kb_Plan_init_2_costs_side_tops (takes_of rfl rfl rfl rfl) (.cons rfl .nil) (kj_cons (lj_ex (ej_var (pv 8))) (kj_cons (lj_ex (ej_var (pv 4))) (kj_cons (lj_ex (ej_var (pv 10))) (kj_cons (lj_ex (ej_var (pv 11))) kj_nil)))) (by decide))) kj_nil)) rfl) (bj_one (sj_ret ej_bl)) bj_nil)
    (bj_cons (sj_if (tj_neO (c := "Plan") T.nc_Plan T.mt_Plan___eq__ (ok_Plan___eq__ T) (hr.mono (by first | decide | omega)) T.b_Plan___eq__ (takes_of rfl rfl rfl rfl) (kj_cons (lj_ex (ej_methK0 (c := "Plan") (sel := [.arg 0, .dfN, .arg 1, .dfN]) (inv := [0, 2]) (pv 1) T.cls_Plan T.mt_Plan_changed (ok_Plan_changed T) (hr.mono (by first | decide | omega)) T.kb_Plan_changed_1_side (takes_of rfl rfl rfl rfl) (kj_cons (lj_va (pv 5)) kj_nil) (by decide))) (kj_cons (lj_ex (ej_make (c := "Plan") (sel := [.arg 1, .arg 2, .arg 3, .arg 4]) T.mk_Plan (ok_Plan_init T) (hr.mono (by first | decide | omega)) (by rfl) T.mc_Plan T.kb_Plan_init_2_costs_side_tops (takes_of rfl rfl rfl rfl) (.cons rfl .nil) (kj_cons (lj_ex (ej_var (pv 8))) (kj_cons (lj_ex (ej_var (pv 9))) (kj_cons (lj_ex (ej_var (pv 5))) (kj_cons (lj_ex (ej_var (pv 11))) kj_nil)))) (by decide))) kj_nil)) rfl) (bj_one (sj_ret ej_bl)) bj_nil)
    (bj_cons (sj_if (wj_or (tj_neO (c := "Plan") T.nc_Plan T.mt_Plan___eq__ (ok_Plan___eq__ T) (hr.mono (by first | decide | omega)) T.b_Plan___eq__ (takes_of rfl rfl rfl rfl) (kj_cons (lj_ex (ej_methK0 (c := "Plan") (sel := [.arg 0, .dfN, .dfN, .arg 1]) (inv := [0, 3]) (pv 1) T.cls_Plan T.mt_Plan_changed (ok_Plan_changed T) (hr.mono (by first | decide | omega)) T.kb_Plan_changed_1_tops (takes_of rfl rfl rfl rfl) (kj_cons (lj_va (pv 6)) kj_nil) (by decide))) (kj_cons (lj_ex (ej_make (c := "Plan") (sel := [.arg 1, .arg 2, .arg 3, .arg 4]) T.mk_Plan (ok_Plan_init T) (hr.mono (by first | decide | omega)) (by rfl) T.mc_Plan T.kb_Plan_init_2_costs_side_tops (takes_of rfl rfl rfl rfl) (.cons rfl .nil) (kj_cons (lj_ex (ej_var (pv 8))) (kj_cons (lj_ex (ej_var (pv 9))) (kj_cons (lj_ex (ej_var (pv 10))) (kj_cons (lj_ex (ej_var (pv 6))) kj_nil)))) (by decide))) kj_nil)) rfl) (wj_or1 (tj_neO (c := "Plan") T.nc_Plan T.mt_Plan___eq__ (ok_Plan___eq__ T) (hr.mono (by first | decide | omega)) T.b_Plan___eq__ (takes_of rfl rfl rfl rfl) (kj_cons (lj_ex (ej_methK0 (c := "Plan") (sel := [.arg 0, .dfN, .dfN, .dfN]) (inv := [0]) (pv 1) T.cls_Plan T.mt_Plan_changed (ok_Plan_changed T) (hr.mono (by first | decide | omega)) T.kb_Plan_changed_1_ (takes_of rfl rfl rfl rfl) kj_nil (by decide))) (kj_cons (lj_va (pv 1)) kj_nil)) rfl))).tj (bj_one (sj_ret ej_bl)) bj_nil)
    (bj_cons (sj_set (i := 7) sc__law_changed_right.nd rfl (.inl rfl) (ej_methK0 (c := "Plan") (sel := [.arg 0, .arg 1, .arg 2, .arg 3]) (inv := [0, 1, 2, 3]) (pv 1) T.cls_Plan T.mt_Plan_changed (ok_Plan_changed T) (hr.mono (by first | decide | omega)) T.kb_Plan_changed_1_costs_side_tops (takes_of rfl rfl rfl rfl) (kj_cons (lj_va (pv 4)) (kj_cons (lj_va (pv 5)) (kj_cons (lj_va (pv 6)) kj_nil))) (by decide)))
    (bj_cons (sj_if (wj_or (tj_ne hr.units (oj_cons (lj_ex (ej_methK0 (c := "Plan") (sel := [.arg 0]) (inv := [0]) (pv 7) T.cls_Plan T.mt_Plan_rows (ok_Plan_rows T) (hr.mono (by first | decide | omega)) T.kb_Plan_rows_1_ (takes_of rfl rfl rfl rfl) kj_nil (by decide))) (oj_cons (lj_va (pv 8)) oj_nil))) (wj_or (tj_ne hr.units (oj_cons (lj_ex (ej_methK0 (c := "Plan") (sel := [.arg 0]) (inv := [0]) (pv 7) T.cls_Plan T.mt_Plan_costs (ok_Plan_costs T) (hr.mono (by first | decide | omega)) T.kb_Plan_costs_1_ (takes_of rfl rfl rfl rfl) kj_nil (by decide))) (oj_cons (lj_va (pv 4)) oj_nil))) (wj_or (tj_ne hr.units (oj_cons (lj_ex (ej_methK0 (c := "Plan") (sel := [.arg 0]) (inv := [0]) (pv 7) T.cls_Plan T.mt_Plan_side (ok_Plan_side T) (hr.mono (by first | decide | omega)) T.kb_Plan_side_1_ (takes_of rfl rfl rfl rfl) kj_nil (by decide))) (oj_cons (lj_va (pv 5)) oj_nil))) (wj_or1 (tj_ne hr.units (oj_cons (lj_ex (ej_methK0 (c := "Plan") (sel := [.arg 0]) (inv := [0]) (pv 7) T.cls_Plan T.mt_Plan_tops (ok_Plan_tops T) (hr.mono (by first | decide | omega)) T.kb_Plan_tops_1_ (takes_of rfl rfl rfl rfl) kj_nil (by decide))) (oj_cons (lj_va (pv 6)) oj_nil))))))).tj (bj_one (sj_ret ej_bl)) bj_nil)
    (bj_one (sj_ret (ej_eq hr.units (oj_cons (lj_ex (ej_eqO (c := "Plan") T.mt_Plan___eq__ (ok_Plan___eq__ T) (hr.mono (by first | decide | omega)) T.b_Plan___eq__ (takes_of rfl rfl rfl rfl) (kj_cons (lj_ex (ej_methK0 (c := "Plan") (sel := [.arg 0, .arg 1, .dfN, .dfN]) (inv := [0, 1]) (pv 1) T.cls_Plan T.mt_Plan_changed (ok_Plan_changed T) (hr.mono (by first | decide | omega)) T.kb_Plan_changed_1_costs (takes_of rfl rfl rfl rfl) (kj_cons (lj_va (pv 4)) kj_nil) (by decide))) (kj_cons (lj_va (pv 1)) kj_nil)) rfl)) (oj_cons (lj_ex (ej_eq hr.units (oj_cons (lj_va (pv 4)) (oj_cons (lj_va (pv 9)) oj_nil)))) oj_nil)))))))))))))))
noncomputable def c__law_dot_0 : Sx := (xLc (srcZip (.va 0) (.va 1)) (stT [2, 3]) bYes (xPrim [.va 2, .va 3] pMul) [2, 3])
noncomputable def g__law_dot : Ss := (sRet (xPrim [.ex c__law_dot_0] pSum))
noncomputable def f__law_dot : Fn := bodyF 4 g__law_dot
theorem ok__law_dot (T : Tx K mg cl) : FnOk P w K mg base (L2.CX P w) 1 T.a__law_dot T.fd__law_dot ["_law_one", "_law_other"] (spF (gk K cl) 2 f__law_dot) :=
  fn_ok (N := ["_law_one", "_law_other", "_law_mine", "_law_its"]) (k := 0) (g := g__law_dot) T.F__law_dot sc__law_dot fun cdv A outer s H vs E hr => (bj_one (sj_ret (ej_callB (cr_sum rfl) pr_sum (by rfl) T.z_sum (by decide +kernel) (oj_cons (lj_ex (ej_lc rfl sc__law_dot.nd (ij_zip (by rfl) T.z_zip (lj_va (pv 0)) (lj_va (pv 1))) (blkOk_by (own := [("_law_mine", 2), ("_law_its", 3)]) (by kernel_rfl)) (fun _ _ _ _ _ => (gj_tup (is := [2, 3]) rfl (pgs_cons (pg_name (i := 2) sc__law_dot.nd rfl (.inl rfl)) (pgs_cons (pg_name (i := 3) sc__law_dot.nd rfl (.inl rfl)) pgs_nil)) rfl)) (fun _ _ _ _ _ => fj_nil) (fun _ _ _ _ _ => (ej_mul (oj_cons (lj_va (pv 2)) (oj_cons (lj_va (pv 3)) oj_nil)))) (by decide))) oj_nil))))
noncomputable def c_dot_0 : Sx := (xLc (srcZip (.va 0) (.va 1)) (stT [2, 3]) bYes (xPrim [.va 2, .va 3] pMul) [2, 3])
noncomputable def g_dot : Ss := (sRet (xPrim [.ex c_dot_0] pSum))
noncomputable def f_dot : Fn := bodyF 4 g_dot
theorem ok_dot (T : Tx K mg cl) : FnOk P w K mg base (L2.CX P w) 1 T.a_dot T.fd_dot ["one", "other"] (spF (gk K cl) 2 f_dot) :=
  fn_ok (N := ["one", "other", "mine", "its"]) (k := 0) (g := g_dot) T.F_dot sc_dot fun cdv A outer s H vs E hr => (bj_one (sj_ret (ej_callB (cr_sum rfl) pr_sum (by rfl) T.z_sum (by decide +kernel) (oj_cons (lj_ex (ej_lc rfl sc_dot.nd (ij_zip (by rfl) T.z_zip (lj_va (pv 0)) (lj_va (pv 1))) (blkOk_by (own := [("mine", 2), ("its", 3)]) (by kernel_rfl)) (fun _ _ _ _ _ => (gj_tup (is := [2, 3]) rfl (pgs_cons (pg_name (i := 2) sc_dot.nd rfl (.inl rfl)) (pgs_cons (pg_name (i := 3) sc_dot.nd rfl (.inl rfl)) pgs_nil)) rfl)) (fun _ _ _ _ _ => fj_nil) (fun _ _ _ _ _ => (ej_mul (oj_cons (lj_va (pv 2)) (oj_cons (lj_va (pv 3)) oj_nil)))) (by decide))) oj_nil))))
noncomputable def c_meets_0 : Sx := (xLc (con (.va 0)) (stN 3) bYes (xCall f_dot [.va 3, .va 2]) [3])
noncomputable def g_meets : Ss := (sRet (xPrim [.ex c_meets_0, .ex (xPrim [.va 1] pList)] pEq))
noncomputable def f_meets : Fn := bodyF 4 g_meets
theorem ok_meets (T : Tx K mg cl) : FnOk P w K mg base (L2.CX P w) 2 T.a_meets T.fd_meets ["rows", "side", "vector"] (spF (gk K cl) 3 f_meets) :=
  fn_ok (N := ["rows", "side", "vector", "row"]) (k := 1) (g := g_meets) T.F_meets sc_meets fun cdv A outer s H vs E hr => (bj_one (sj_ret (ej_eq hr.units (oj_cons (lj_ex (ej_lc rfl sc_meets.nd (ij_seq (lj_va (pv 0))) (blkOk_by (own := [("row", 3)]) (by kernel_rfl)) (fun _ _ _ _ _ => (gj_name (i := 3) sc_meets.nd rfl (.inl rfl))) (fun _ _ _ _ _ => fj_nil) (fun _ _ _ _ _ => (ej_call (ok_dot T) (hr.mono (by first | decide | omega)) (by rfl) T.m_dot T.F_dot.kp T.b_dot takes0 (kj_cons (lj_va (pv 3)) (kj_cons (lj_va (pv 2)) kj_nil)) rfl)) (by decide))) (oj_cons (lj_ex (ej_callTy call_list_of pr_list (by rfl) T.z_list (by decide +kernel) (oj_cons (lj_va (pv 1)) oj_nil))) oj_nil)))))
noncomputable def c_Plan_lack_0 : Sx := (xLc (con (.va 1)) (stN 3) (bT (xPrim [.va 3, .ex (xC (.int 0))] pLt)) (xVar 3) [3])
noncomputable def c_Plan_lack_1 : Sx := (xLc (srcZip (.va 1) (.ex (xPrim [.va 0] (pFld "Plan" "kept_tops")))) (stT [3, 4]) (bAnd (bT (xPrim [.va 4, .ex (xC .non)] pNotN)) (bT (xPrim [.va 3, .va 4] pGt))) (xPrim [.va 3, .va 4] pSub) [3, 4])
noncomputable def g_Plan_lack : Ss := (sSeq (sSet 2 (xPrim [.ex (xPrim [.ex c_Plan_lack_0] pSum)] pNeg))
    (sRet (xPrim [.va 2, .ex (xPrim [.ex c_Plan_lack_1] pSum)] pAdd)))
noncomputable def f_Plan_lack : Fn := bodyF 5 g_Plan_lack
theorem ok_Plan_lack (T : Tx K mg cl) : FnOk P w K mg base (L2.CX P w) 1 T.a_Plan_lack T.fd_Plan_lack ["self", "vector"] (spF (gk K cl) 2 f_Plan_lack) :=
  fn_ok (N := ["self", "vector", "found", "one", "top"]) (k := 0) (g := g_Plan_lack) T.F_Plan_lack sc_Plan_lack fun cdv A outer s H vs E hr => (bj_cons (sj_set (i := 2) sc_Plan_lack.nd rfl (.inl rfl) (ej_neg (oj_cons (lj_ex (ej_callB (cr_sum rfl) pr_sum (by rfl) T.z_sum (by decide +kernel) (oj_cons (lj_ex (ej_lc rfl sc_Plan_lack.nd (ij_seq (lj_va (pv 1))) (blkOk_by (own := [("one", 3)]) (by kernel_rfl)) (fun _ _ _ _ _ => (gj_name (i := 3) sc_Plan_lack.nd rfl (.inl rfl))) (fun _ _ _ _ _ => (fj_one (tj_lt (oj_cons (lj_va (pv 3)) (oj_cons (lj_ex ej_int) oj_nil))))) (fun _ _ _ _ _ => (ej_var (pv 3))) (by decide))) oj_nil))) oj_nil)))
    (bj_one (sj_ret (ej_add (oj_cons (lj_va (pv 2)) (oj_cons (lj_ex (ej_callB (cr_sum rfl) pr_sum (by rfl) T.z_sum (by decide +kernel) (oj_cons (lj_ex (ej_lc rfl sc_Plan_lack.nd (ij_zip (by rfl) T.z_zip (lj_va (pv 1)) (lj_ex (ej_fld (c := "Plan") T.cls_Plan (T.na_Plan _ (by decide)) (oj_cons (lj_va (pv 0)) oj_nil)))) (blkOk_by (own := [("one", 3), ("top", 4)]) (by kernel_rfl)) (fun _ _ _ _ _ => (gj_tup (is := [3, 4]) rfl (pgs_cons (pg_name (i := 3) sc_Plan_lack.nd rfl (.inl rfl)) (pgs_cons (pg_name (i := 4) sc_Plan_lack.nd rfl (.inl rfl)) pgs_nil)) rfl)) (fun _ _ _ _ _ => (fj_one (wj_and (tj_notN (oj_cons (lj_va (pv 4)) (oj_cons (lj_ex ej_non) oj_nil))) (wj_and1 (tj_gt (oj_cons (lj_va (pv 3)) (oj_cons (lj_va (pv 4)) oj_nil))))).tj)) (fun _ _ _ _ _ => (ej_sub (oj_cons (lj_va (pv 3)) (oj_cons (lj_va (pv 4)) oj_nil)))) (by decide))) oj_nil))) oj_nil))))))
noncomputable def g_Plan_wide : Ss := (sRet (xPrim [.ex (xPrim [.va 0] (pFld "Plan" "kept_costs"))] pLen))
noncomputable def f_Plan_wide : Fn := bodyF 1 g_Plan_wide
theorem ok_Plan_wide (T : Tx K mg cl) : FnOk P w K mg base (L2.CX P w) 1 T.a_Plan_wide T.fd_Plan_wide ["self"] (spF (gk K cl) 1 f_Plan_wide) :=
  fn_ok (N := ["self"]) (k := 0) (g := g_Plan_wide) T.F_Plan_wide sc_Plan_wide fun cdv A outer s H vs E hr => (bj_one (sj_ret (ej_callB call_len_seq pr_len (by rfl) T.z_len (by decide +kernel) (oj_cons (lj_ex (ej_fld (c := "Plan") T.cls_Plan (T.na_Plan _ (by decide)) (oj_cons (lj_va (pv 0)) oj_nil))) oj_nil))))
noncomputable def b_Plan_has_0 : Sb := (bOr (bNot (bTru [.ex (xCall f_is_row [.va 1, .ex (xMeth "Plan" "wide" 0 (permF [.arg 0] [0] f_Plan_wide) [])])])) (bT (xPrim [.ex (xMeth "Plan" "lack" 0 (permF [.arg 0, .arg 1] [0, 1] f_Plan_lack) [.va 1]), .ex (xC (.int 0))] pGt)))
noncomputable def g_Plan_has : Ss := (sSeq (sIf b_Plan_has_0 (sRet (xC (.bl false))) sNil)
    (sRet (xCall f_meets [.ex (xPrim [.va 0] (pFld "Plan" "kept_rows")), .ex (xPrim [.va 0] (pFld "Plan" "kept_side")), .va 1])))
noncomputable def f_Plan_has : Fn := bodyF 2 g_Plan_has
theorem ok_Plan_has (T : Tx K mg cl) : FnOk P w K mg base (L2.CX P w) 3 T.a_Plan_has T.fd_Plan_has ["self", "thing"] (spF (gk K cl) 2 f_Plan_has) :=
  fn_ok (N := ["self", "thing"]) (k := 2) (g := g_Plan_has) T.F_Plan_has sc_Plan_has fun cdv A outer s H vs E hr => (bj_cons (sj_if (wj_or (tj_not (tj_tru (oj_cons (lj_ex (ej_call (ok_is_row T) (hr.mono (by first | decide | omega)) (by rfl) T.m_is_row T.F_is_row.kp T.b_is_row (takes_of rfl rfl rfl rfl) (kj_cons (lj_va (pv 1)) (kj_cons (lj_ex (ej_methK0 (c := "Plan") (sel := [.arg 0]) (inv := [0]) (pv 0) T.cls_Plan T.mt_Plan_wide (ok_Plan_wide T) (hr.mono (by first | decide | omega)) T.kb_Plan_wide_1_ (takes_of rfl rfl rfl rfl) kj_nil (by decide))) kj_nil)) rfl)) oj_nil))) (wj_or1 (tj_gt (oj_cons (lj_ex (ej_methK (c := "Plan") (sel := [.arg 0, .arg 1]) (inv := [0, 1]) (pv 0) T.cls_Plan T.mt_Plan_lack (ok_Plan_lack T) (hr.mono (by first | decide | omega)) T.kb_Plan_lack_2_ (takes_of rfl rfl rfl rfl) (.cons rfl .nil) (kj_cons (lj_va (pv 1)) kj_nil) (by decide))) (oj_cons (lj_ex ej_int) oj_nil))))).tj (bj_one (sj_ret ej_bl)) bj_nil)
    (bj_one (sj_ret (ej_call (ok_meets T) (hr.mono (by first | decide | omega)) (by rfl) T.m_meets T.F_meets.kp T.b_meets (takes_of rfl rfl rfl rfl) (kj_cons (lj_ex (ej_fld (c := "Plan") T.cls_Plan (T.na_Plan _ (by decide)) (oj_cons (lj_va (pv 0)) oj_nil))) (kj_cons (lj_ex (ej_fld (c := "Plan") T.cls_Plan (T.na_Plan _ (by decide)) (oj_cons (lj_va (pv 0)) oj_nil))) (kj_cons (lj_va (pv 1)) kj_nil))) rfl))))
noncomputable def g_Plan_worth : Ss := (sRet (xCall f_dot [.ex (xPrim [.va 0] (pFld "Plan" "kept_costs")), .va 1]))
noncomputable def f_Plan_worth : Fn := bodyF 2 g_Plan_worth
theorem ok_Plan_worth (T : Tx K mg cl) : FnOk P w K mg base (L2.CX P w) 2 T.a_Plan_worth T.fd_Plan_worth ["self", "vector"] (spF (gk K cl) 2 f_Plan_worth) :=
  fn_ok (N := ["self", "vector"]) (k := 1) (g := g_Plan_worth) T.F_Plan_worth sc_Plan_worth fun cdv A outer s H vs E hr => (bj_one (sj_ret (ej_call (ok_dot T) (hr.mono (by first | decide | omega)) (by rfl) T.m_dot T.F_dot.kp T.b_dot (takes_of rfl rfl rfl rfl) (kj_cons (lj_ex (ej_fld (c := "Plan") T.cls_Plan (T.na_Plan _ (by decide)) (oj_cons (lj_va (pv 0)) oj_nil))) (kj_cons (lj_va (pv 1)) kj_nil)) rfl)))
noncomputable def l__law_lack_0 : Ss := (sSeq (sIf (bT (xPrim [.va 3, .ex (xC (.int 0))] pLt)) (sSet 2 (xPrim [.va 2, .va 3] pSub)) sNil)
    (sIf (bAnd (bT (xPrim [.va 4, .ex (xC .non)] pNotN)) (bT (xPrim [.va 3, .va 4] pGt))) (sSet 2 (xPrim [.ex (xPrim [.va 2, .va 3] pAdd), .va 4] pSub)) sNil))
noncomputable def g__law_lack : Ss := (sSeq (sSet 2 (xC (.int 0)))
    (sSeq (sFor (srcZip (.ex (xVar 0)) (.ex (xVar 1))) (stT [3, 4]) l__law_lack_0)
    (sRetV 2)))
noncomputable def f__law_lack : Fn := bodyF 5 g__law_lack
theorem ok__law_lack (T : Tx K mg cl) : FnOk P w K mg base (L2.CX P w) 1 T.a__law_lack T.fd__law_lack ["_law_vector", "_law_caps"] (spF (gk K cl) 2 f__law_lack) :=
  fn_ok (N := ["_law_vector", "_law_caps", "_law_found", "_law_one", "_law_top"]) (k := 0) (g := g__law_lack) T.F__law_lack sc__law_lack fun cdv A outer s H vs E hr => (bj_cons (sj_set (i := 2) sc__law_lack.nd rfl (.inl rfl) ej_int)
    (bj_cons (sj_for (passes_of rfl) rfl (ij_zip (by rfl) T.z_zip (lj_ex (ej_var (pv 0))) (lj_ex (ej_var (pv 1)))) (gj_tup (is := [3, 4]) rfl (pgs_cons (pg_name (i := 3) sc__law_lack.nd rfl (.inl rfl)) (pgs_cons (pg_name (i := 4) sc__law_lack.nd rfl (.inl rfl)) pgs_nil)) rfl) (bj_cons (sj_if (tj_lt (oj_cons (lj_va (pv 3)) (oj_cons (lj_ex ej_int) oj_nil))) (bj_one (sj_set (i := 2) sc__law_lack.nd rfl (.inl rfl) (ej_sub (oj_cons (lj_va (pv 2)) (oj_cons (lj_va (pv 3)) oj_nil))))) bj_nil)
    (bj_one (sj_if (wj_and (tj_notN (oj_cons (lj_va (pv 4)) (oj_cons (lj_ex ej_non) oj_nil))) (wj_and1 (tj_gt (oj_cons (lj_va (pv 3)) (oj_cons (lj_va (pv 4)) oj_nil))))).tj (bj_one (sj_set (i := 2) sc__law_lack.nd rfl (.inl rfl) (ej_sub (oj_cons (lj_ex (ej_add (oj_cons (lj_va (pv 2)) (oj_cons (lj_va (pv 3)) oj_nil)))) (oj_cons (lj_va (pv 4)) oj_nil))))) bj_nil))))
    (bj_one (sj_retV (pv 2)))))
noncomputable def b__law_vector_right_0 : Sb := (bOr (bT (xPrim [.ex (xMeth "Plan" "worth" 0 (permF [.arg 0, .arg 1] [0, 1] f_Plan_worth) [.va 1]), .ex (xCall f__law_dot [.va 6, .va 1])] pNe)) (bT (xPrim [.ex (xMeth "Plan" "lack" 0 (permF [.arg 0, .arg 1] [0, 1] f_Plan_lack) [.va 1]), .ex (xCall f__law_lack [.va 1, .va 8])] pNe)))
noncomputable def c__law_vector_right_0 : Sx := (xLc (con (.va 5)) (stN 9) bYes (xCall f__law_dot [.va 9, .va 1]) [9])
noncomputable def g__law_vector_right : Ss := (sSeq (sTup [5, 6, 7, 8] (xVar 2))
    (sSeq (sIf b__law_vector_right_0 (sRet (xC (.bl false))) sNil)
    (sSeq (sSet 3 (xAnd (xPrim [.ex (xCall f__law_lack [.va 1, .va 8]), .ex (xC (.int 0))] pEq) (xPrim [.ex c__law_vector_right_0, .ex (xPrim [.va 7] pList)] pEq)))
    (sSeq (sSet 4 (xMeth "Plan" "has" 0 (permF [.arg 0, .arg 1] [0, 1] f_Plan_has) [.va 1]))
    (sRet (xAnd (xPrim [.va 4] (pIsi .bool)) (xPrim [.va 4, .va 3] pEq)))))))
noncomputable def f__law_vector_right : Fn := bodyF 10 g__law_vector_right
theorem ok__law_vector_right (T : Tx K mg cl) : FnOk P w K mg base (L2.CX P w) 4 T.a__law_vector_right T.fd__law_vector_right ["_law_plan", "_law_vector", "_law_parts"] (spF (gk K cl) 3 f__law_vector_right) :=
  fn_ok (N := ["_law_plan", "_law_vector", "_law_parts", "_law_due", "_law_found", "_law_rows", "_law_fees", "_law_aim", "_law_caps", "_law_row"]) (k := 3) (g := g__law_vector_right) T.F__law_vector_right sc__law_vector_right fun cdv A outer s H vs E hr => (bj_cons (sj_tup (is := [5, 6, 7, 8]) rfl (pgs_cons (pg_name (i := 5) sc__law_vector_right.nd rfl (.inl rfl)) (pgs_cons (pg_name (i := 6) sc__law_vector_right.nd rfl (.inl rfl)) (pgs_cons (pg_name (i := 7) sc__law_vector_right.nd rfl (.inl rfl)) (pgs_cons (pg_name (i := 8) sc__law_vector_right.nd rfl (.inl rfl)) pgs_nil)))) (ej_var (pv 2)) rfl)
    (bj_cons (sj_if (wj_or (tj_ne hr.units (oj_cons (lj_ex (ej_methK (c := "Plan") (sel := [.arg 0, .arg 1]) (inv := [0, 1]) (pv 0) T.cls_Plan T.mt_Plan_worth (ok_Plan_worth T) (hr.mono (by first | decide | omega)) T.kb_Plan_worth_2_ (takes_of rfl rfl rfl rfl) (.cons rfl .nil) (kj_cons (lj_va (pv 1)) kj_nil) (by decide))) (oj_cons (lj_ex (ej_call (ok__law_dot T) (hr.mono (by first | decide | omega)) (by rfl) T.m__law_dot T.F__law_dot.kp T.b__law_dot (takes_of rfl rfl rfl rfl) (kj_cons (lj_va (pv 6)) (kj_cons (lj_va (pv 1)) kj_nil)) rfl)) oj_nil))) (wj_or1 (tj_ne hr.units (oj_cons (lj_ex (ej_methK (c := "Plan") (sel := [.arg 0, .arg 1]) (inv := [0, 1]) (pv 0) T.cls_Plan T.mt_Plan_lack (ok_Plan_lack T) (hr.mono (by first | decide | omega)) T.kb_Plan_lack_2_ (takes_of rfl rfl rfl rfl) (.cons rfl .nil) (kj_cons (lj_va (pv 1)) kj_nil) (by decide))) (oj_cons (lj_ex (ej_call (ok__law_lack T) (hr.mono (by first | decide | omega)) (by rfl) T.m__law_lack T.F__law_lack.kp T.b__law_lack (takes_of rfl rfl rfl rfl) (kj_cons (lj_va (pv 1)) (kj_cons (lj_va (pv 8)) kj_nil)) rfl)) oj_nil))))).tj (bj_one (sj_ret ej_bl)) bj_nil)
    (bj_cons (sj_set (i := 3) sc__law_vector_right.nd rfl (.inl rfl) (ej_and (ej_eq hr.units (oj_cons (lj_ex (ej_call (ok__law_lack T) (hr.mono (by first | decide | omega)) (by rfl) T.m__law_lack T.F__law_lack.kp T.b__law_lack (takes_of rfl rfl rfl rfl) (kj_cons (lj_va (pv 1)) (kj_cons (lj_va (pv 8)) kj_nil)) rfl)) (oj_cons (lj_ex ej_int) oj_nil))) (ej_one (ej_eq hr.units (oj_cons (lj_ex (ej_lc rfl sc__law_vector_right.nd (ij_seq (lj_va (pv 5))) (blkOk_by (own := [("_law_row", 9)]) (by kernel_rfl)) (fun _ _ _ _ _ => (gj_name (i := 9) sc__law_vector_right.nd rfl (.inl rfl))) (fun _ _ _ _ _ => fj_nil) (fun _ _ _ _ _ => (ej_call (ok__law_dot T) (hr.mono (by first | decide | omega)) (by rfl) T.m__law_dot T.F__law_dot.kp T.b__law_dot takes0 (kj_cons (lj_va (pv 9)) (kj_cons (lj_va (pv 1)) kj_nil)) rfl)) (by decide))) (oj_cons (lj_ex (ej_callTy call_list_of pr_list (by rfl) T.z_list (by decide +kernel) (oj_cons (lj_va (pv 7)) oj_nil))) oj_nil))))))
    (bj_cons (sj_set (i := 4) sc__law_vector_right.nd rfl (.inl rfl) (ej_methK (c := "Plan") (sel := [.arg 0, .arg 1]) (inv := [0, 1]) (pv 0) T.cls_Plan T.mt_Plan_has (ok_Plan_has T) (hr.mono (by first | decide | omega)) T.kb_Plan_has_2_ (takes_of rfl rfl rfl rfl) (.cons rfl .nil) (kj_cons (lj_va (pv 1)) kj_nil) (by decide)))
    (bj_one (sj_ret (ej_and (ej_isi (t := .bool) T.z_isinstance (by rfl) (oj_cons (lj_va (pv 4)) oj_nil) (pe_bltn (v := .ty "bool") (by rfl) T.z_bool (by decide +kernel) rfl)) (ej_one (ej_eq hr.units (oj_cons (lj_va (pv 4)) (oj_cons (lj_va (pv 3)) oj_nil)))))))))))
noncomputable def c__law_odd_right_0 : Sx := (xLc (con (.va 2)) (stN 3) (bT (xPrim [.ex (xMeth "Plan" "has" 0 (permF [.arg 0, .arg 1] [0, 1] f_Plan_has) [.va 3]), .ex (xC (.bl false))] (pIsBl true))) (xVar 3) [3])
noncomputable def g__law_odd_right : Ss := (sSeq (sSet 2 (xLst [(xC .non), (xPrim [.ex (xTup [(xC (.int 0))]), .ex (xPrim [.va 1, .ex (xC (.int 1))] pAdd)] pMul), (xPrim [.ex (xLst [(xC (.int 0))]), .va 1] pMul), (xPrim [.ex (xTup [(xC (.bl true))]), .va 1] pMul), (xPrim [.ex (xTup [(xC (.str "0"))]), .va 1] pMul), (xC (.int 0)), (xC (.str "way"))]))
    (sRet (xPrim [.ex c__law_odd_right_0, .ex (xLst [])] pEq)))
noncomputable def f__law_odd_right : Fn := bodyF 4 g__law_odd_right
theorem ok__law_odd_right (T : Tx K mg cl) : FnOk P w K mg base (L2.CX P w) 4 T.a__law_odd_right T.fd__law_odd_right ["_law_plan", "_law_width"] (spF (gk K cl) 2 f__law_odd_right) :=
  fn_ok (N := ["_law_plan", "_law_width", "_law_some", "_law_thing"]) (k := 3) (g := g__law_odd_right) T.F__law_odd_right sc__law_odd_right fun cdv A outer s H vs E hr => (bj_cons (sj_set (i := 2) sc__law_odd_right.nd rfl (.inl rfl) (ej_lst (mj_cons ej_non (mj_cons (ej_mul (oj_cons (lj_ex (ej_tup (mj_cons ej_int mj_nil))) (oj_cons (lj_ex (ej_add (oj_cons (lj_va (pv 1)) (oj_cons (lj_ex ej_int) oj_nil)))) oj_nil))) (mj_cons (ej_mul (oj_cons (lj_ex (ej_lst (mj_cons ej_int mj_nil))) (oj_cons (lj_va (pv 1)) oj_nil))) (mj_cons (ej_mul (oj_cons (lj_ex (ej_tup (mj_cons ej_bl mj_nil))) (oj_cons (lj_va (pv 1)) oj_nil))) (mj_cons (ej_mul (oj_cons (lj_ex (ej_tup (mj_cons ej_str mj_nil))) (oj_cons (lj_va (pv 1)) oj_nil))) (mj_cons ej_int (mj_cons ej_str mj_nil)))))))))
    (bj_one (sj_ret (ej_eq hr.units (oj_cons (lj_ex (ej_lc rfl sc__law_odd_right.nd (ij_seq (lj_va (pv 2))) (blkOk_by (own := [("_law_thing", 3)]) (by kernel_rfl)) (fun _ _ _ _ _ => (gj_name (i := 3) sc__law_odd_right.nd rfl (.inl rfl))) (fun _ _ _ _ _ => (fj_one (tj_notBl (oj_cons (lj_ex (ej_methK (c := "Plan") (sel := [.arg 0, .arg 1]) (inv := [0, 1]) (pv 0) T.cls_Plan T.mt_Plan_has (ok_Plan_has T) (hr.mono (by first | decide | omega)) T.kb_Plan_has_2_ takes0 (.cons rfl .nil) (kj_cons (lj_va (pv 3)) kj_nil) (by decide))) (oj_cons (lj_ex ej_bl) oj_nil))))) (fun _ _ _ _ _ => (ej_var (pv 3))) (by decide))) (oj_cons (lj_ex (ej_lst mj_nil)) oj_nil))))))
noncomputable def c__law_right_0 : Sx := (xLc (srcRng1 [.va 1]) (stN 12) bYes (xPrim [.ex (xCall f__law_draw [.va 0, .ex (xC (.int 7))]), .ex (xC (.int 3))] pSub) [12])
noncomputable def c__law_right_1 : Sx := (xLc (srcRng1 [.ex (xCall f__law_draw [.va 0, .ex (xC (.int 4))])]) (stN 11) bYes (xPrim [.ex c__law_right_0] pTuple) [11])
noncomputable def c__law_right_2 : Sx := (xLc (srcRng1 [.va 1]) (stN 12) bYes (xPrim [.ex (xCall f__law_draw [.va 0, .ex (xPrim [.ex (xC (.int 2)), .ex (xPrim [.ex (xC (.int 10)), .ex (xC (.int 9))] pPow)] pMul)]), .ex (xPrim [.ex (xC (.int 10)), .ex (xC (.int 9))] pPow)] pSub) [12])
noncomputable def c__law_right_3 : Sx := (xLc (srcRng1 [.va 1]) (stN 12) bYes (xCall f__law_draw [.va 0, .ex (xC (.int 4))]) [12])
noncomputable def c__law_right_4 : Sx := (xLc (con (.va 2)) (stN 13) bYes (xCall f__law_dot [.va 13, .va 4]) [13])
noncomputable def c__law_right_5 : Sx := (xLc (srcRng1 [.va 1]) (stN 12) bYes (xPrim [.ex (xLst [(xC .non), (xCall f__law_draw [.va 0, .ex (xC (.int 6))])]), .ex (xCall f__law_draw [.va 0, .ex (xC (.int 2))])] pIx) [12])
noncomputable def b__law_right_0 : Sb := (bOr (bT (xPrim [.ex (xMeth "Plan" "rows" 10 (permF [.arg 0] [0] f_Plan_rows) []), .va 2] pNe)) (bOr (bT (xPrim [.ex (xMeth "Plan" "costs" 10 (permF [.arg 0] [0] f_Plan_costs) []), .va 3] pNe)) (bOr (bT (xPrim [.ex (xMeth "Plan" "side" 10 (permF [.arg 0] [0] f_Plan_side) []), .va 5] pNe)) (bT (xPrim [.ex (xMeth "Plan" "tops" 10 (permF [.arg 0] [0] f_Plan_tops) []), .va 6] pNe)))))
noncomputable def c__law_right_6 : Sx := (xLc (srcRng1 [.va 1]) (stN 12) bYes (xPrim [.ex (xCall f__law_draw [.va 0, .ex (xC (.int 9))]), .ex (xC (.int 3))] pSub) [12])
noncomputable def b__law_right_1 : Sb := (bNot (bTru [.ex (xCall f__law_vector_right [.va 10, .va 8, .ex (xTup [(xVar 2), (xVar 3), (xVar 5), (xVar 6)])])]))
noncomputable def l__law_right_7 : Ss := (sIf b__law_right_1 (sRet (xC (.bl false))) sNil)
noncomputable def b__law_right_2 : Sb := (bOr (bT (xPrim [.ex (xMeth "Plan" "wide" 10 (permF [.arg 0] [0] f_Plan_wide) []), .va 1] pNe)) (bNot (bTru [.ex (xCall f__law_odd_right [.va 10, .va 1])])))
noncomputable def b__law_right_3 : Sb := (bNot (bTru [.ex (xCall f__law_changed_right [.va 0, .va 10, .ex (xTup [(xVar 2), (xVar 3), (xVar 5), (xVar 6)])])]))
noncomputable def b__law_right_4 : Sb := (bT (xPrim [.ex (xCall (eqF "Plan" f_Plan___eq__) [.va 9, .va 10]), .ex (xAnd (xPrim [.ex (xPrim [.va 2] pRevA), .va 2] pEq) (xPrim [.ex (xPrim [.va 5] pRevA), .va 5] pEq))] pNe))
noncomputable def g__law_right : Ss := (sSeq (sSet 1 (xPrim [.ex (xC (.int 1)), .ex (xCall f__law_draw [.va 0, .ex (xC (.int 6))])] pAdd))
    (sSeq (sSet 2 c__law_right_1)
    (sSeq (sSet 3 (xPrim [.ex c__law_right_2] pTuple))
    (sSeq (sSet 4 (xPrim [.ex c__law_right_3] pTuple))
    (sSeq (sSet 5 (xPrim [.ex c__law_right_4] pTuple))
    (sSeq (sSet 6 (xPrim [.ex c__law_right_5] pTuple))
    (sSeq (sSet 7 (xPrim [.va 2] pList))
    (sSeq (sIf (bT (xPrim [.ex (xCall f__law_draw [.va 0, .ex (xC (.int 3))]), .ex (xC (.int 0))] pEq)) (sSeq (sSet 6 (xPrim [.ex (xTup [(xC .non)]), .va 1] pMul))
    (sSet 10 (xCall (permF [.arg 0, .arg 1, .arg 2, .dfN] [0, 1, 2] fB_Plan_init) [.va 7, .ex (xVar 3), .ex (xVar 5)]))) (sSet 10 (xCall (permF [.arg 0, .arg 1, .arg 2, .arg 3] [0, 1, 2, 3] fB_Plan_init) [.va 7, .ex (xVar 3), .ex (xVar 5), .ex (xVar 6)])))
    (sSeq (sApp 7 (xC .non))
    (sSeq (sAppT (xMeth "Plan" "rows" 10 (permF [.arg 0] [0] f_Plan_rows) []))
    (sSeq (sIf b__law_right_0 (sRet (xC (.bl false))) sNil)
    (sSeq (sFor (con (.ex (xLst [(xVar 4), (xPrim [.ex c__law_right_6] pTuple), (xPrim [.ex (xTup [(xC (.int 0))]), .va 1] pMul), (xPrim [.ex (xTup [(xPrim [.ex (xC (.int 1))] pNeg)]), .va 1] pMul)]))) (stN 8) l__law_right_7)
    (sSeq (sIf b__law_right_2 (sRet (xC (.bl false))) sNil)
    (sSeq (sIf b__law_right_3 (sRet (xC (.bl false))) sNil)
    (sSeq (sSet 9 (xMake "Plan" f_Plan_init [.arg 1, .arg 2, .arg 3, .arg 4] [.ex (xPrim [.va 2] pRevA), .ex (xVar 3), .ex (xPrim [.va 5] pRevA), .ex (xVar 6)]))
    (sSeq (sIf b__law_right_4 (sRet (xC (.bl false))) sNil)
    (sRet (xAnd (xCall (eqF "Plan" f_Plan___eq__) [.va 10, .ex (xMake "Plan" f_Plan_init [.arg 1, .arg 2, .arg 3, .arg 4] [.ex (xVar 2), .ex (xVar 3), .ex (xVar 5), .ex (xVar 6)])]) (xCall (neF "Plan" f_Plan___eq__) [.va 10, .ex (xTup [(xVar 2), (xVar 3), (xVar 5), (xVar 6)])])))))))))))))))))))
noncomputable def f__law_right : Fn := bodyF 14 g__law_right
theorem ok__law_right (T : Tx K mg cl) : FnOk P w K mg base (L2.CX P w) 7 T.a__law_right T.fd__law_right ["_law_well"] (spF (gk K cl) 1 f__law_right) :=
  fn_ok (N := ["_law_well", "_law_width", "_law_rows", "_law_fees", "_law_way", "_law_aim", "_law_caps", "_law_handed", "_law_vector", "_law_far", "_law_plan", "_law_j", "_law_k", "_law_row"]) (k := 6) (g := g__law_right) T.F__law_right sc__law_right fun cdv A outer s H vs E hr => (bj_cons (sj_set (i := 1) sc__law_right.nd rfl (.inr rfl) (ej_add (oj_cons (lj_ex ej_int) (oj_cons (lj_ex (ej_call (ok__law_draw T) (hr.mono (by first | decide | omega)) (by rfl) T.m__law_draw T.F__law_draw.kp T.b__law_draw (takes_of rfl rfl rfl rfl) (kj_cons (lj_va (pv 0)) (kj_cons (lj_ex ej_int) kj_nil)) rfl)) oj_nil))))
    (bj_cons (sj_setLc (i := 2) rfl sc__law_right.nd rfl rfl (sw_true rfl rfl rfl (by decide +kernel)) (ij_rng1 (by rfl) T.z_range (oj_cons (lj_ex (ej_call (ok__law_draw T) (hr.mono (by first | decide | omega)) (by rfl) T.m__law_draw T.F__law_draw.kp T.b__law_draw (takes_of rfl rfl rfl rfl) (kj_cons (lj_va (pv 0)) (kj_cons (lj_ex ej_int) kj_nil)) rfl)) oj_nil)) (blkOk_by (own := [("_law_j", 11)]) (by kernel_rfl)) (fun _ _ _ _ _ => (gj_name (i := 11) sc__law_right.nd rfl (.inl rfl))) (fun _ _ _ _ _ => fj_nil) (fun _ _ _ _ _ => (ej_callTy call_tuple_of pr_tuple (by rfl) T.z_tuple (by decide +kernel) (oj_cons (lj_ex (ej_lc rfl sc__law_right.nd (ij_rng1 (by rfl) T.z_range (oj_cons (lj_va (pv 1)) oj_nil)) (blkOk_by (own := [("_law_k", 12)]) (by kernel_rfl)) (fun _ _ _ _ _ => (gj_name (i := 12) sc__law_right.nd rfl (.inl rfl))) (fun _ _ _ _ _ => fj_nil) (fun _ _ _ _ _ => (ej_sub (oj_cons (lj_ex (ej_call (ok__law_draw T) (hr.mono (by first | decide | omega)) (by rfl) T.m__law_draw T.F__law_draw.kp T.b__law_draw takes0 (kj_cons (lj_va (pv 0)) (kj_cons (lj_ex ej_int) kj_nil)) rfl)) (oj_cons (lj_ex ej_int) oj_nil)))) (by decide))) oj_nil))) (by decide))
    (bj_cons (sj_set (i := 3) sc__law_right.nd rfl (.inl rfl) (ej_callTy call_tuple_of pr_tuple (by rfl) T.z_tuple (by decide +kernel) (oj_cons (lj_ex (ej_lc rfl sc__law_right.nd (ij_rng1 (by rfl) T.z_range (oj_cons (lj_va (pv 1)) oj_nil)) (blkOk_by (own := [("_law_k", 12)]) (by kernel_rfl)) (fun _ _ _ _ _ => (gj_name (i := 12) sc__law_right.nd rfl (.inl rfl))) (fun _ _ _ _ _ => fj_nil) (fun _ _ _ _ _ => (ej_sub (oj_cons (lj_ex (ej_call (ok__law_draw T) (hr.mono (by first | decide | omega)) (by rfl) T.m__law_draw T.F__law_draw.kp T.b__law_draw takes0 (kj_cons (lj_va (pv 0)) (kj_cons (lj_ex (ej_mul (oj_cons (lj_ex ej_int) (oj_cons (lj_ex (ej_pow (oj_cons (lj_ex ej_int) (oj_cons (lj_ex ej_int) oj_nil)))) oj_nil)))) kj_nil)) rfl)) (oj_cons (lj_ex (ej_pow (oj_cons (lj_ex ej_int) (oj_cons (lj_ex ej_int) oj_nil)))) oj_nil)))) (by decide))) oj_nil)))
    (bj_cons (sj_set (i := 4) sc__law_right.nd rfl (.inr rfl) (ej_callTy call_tuple_of pr_tuple (by rfl) T.z_tuple (by decide +kernel) (oj_cons (lj_ex (ej_lc rfl sc__law_right.nd (ij_rng1 (by rfl) T.z_range (oj_cons (lj_va (pv 1)) oj_nil)) (blkOk_by (own := [("_law_k", 12)]) (by kernel_rfl)) (fun _ _ _ _ _ => (gj_name (i := 12) sc__law_right.nd rfl (.inl rfl))) (fun _ _ _ _ _ => fj_nil) (fun _ _ _ _ _ => (ej_call (ok__law_draw T) (hr.mono (by first | decide | omega)) (by rfl) T.m__law_draw T.F__law_draw.kp T.b__law_draw takes0 (kj_cons (lj_va (pv 0)) (kj_cons (lj_ex ej_int) kj_nil)) rfl)) (by decide))) oj_nil)))
    (bj_cons (sj_set (i := 5) sc__law_right.nd rfl (.inl rfl) (ej_callTy call_tuple_of pr_tuple (by rfl) T.z_tuple (by decide +kernel) (oj_cons (lj_ex (ej_lc rfl sc__law_right.nd (ij_seq (lj_va (pv 2))) (blkOk_by (own := [("_law_row", 13)]) (by kernel_rfl)) (fun _ _ _ _ _ => (gj_name (i := 13) sc__law_right.nd rfl (.inl rfl))) (fun _ _ _ _ _ => fj_nil) (fun _ _ _ _ _ => (ej_call (ok__law_dot T) (hr.mono (by first | decide | omega)) (by rfl) T.m__law_dot T.F__law_dot.kp T.b__law_dot takes0 (kj_cons (lj_va (pv 13)) (kj_cons (lj_va (pv 4)) kj_nil)) rfl)) (by decide))) oj_nil)))
    (bj_cons (sj_set (i := 6) sc__law_right.nd rfl (.inl rfl) (ej_callTy call_tuple_of pr_tuple (by rfl) T.z_tuple (by decide +kernel) (oj_cons (lj_ex (ej_lc rfl sc__law_right.nd (ij_rng1 (by rfl) T.z_range (oj_cons (lj_va (pv 1)) oj_nil)) (blkOk_by (own := [("_law_k", 12)]) (by kernel_rfl)) (fun _ _ _ _ _ => (gj_name (i := 12) sc__law_right.nd rfl (.inl rfl))) (fun _ _ _ _ _ => fj_nil) (fun _ _ _ _ _ => (ej_sbs (oj_cons (lj_ex (ej_lst (mj_cons ej_non (mj_cons (ej_call (ok__law_draw T) (hr.mono (by first | decide | omega)) (by rfl) T.m__law_draw T.F__law_draw.kp T.b__law_draw takes0 (kj_cons (lj_va (pv 0)) (kj_cons (lj_ex ej_int) kj_nil)) rfl) mj_nil)))) (oj_cons (lj_ex (ej_call (ok__law_draw T) (hr.mono (by first | decide | omega)) (by rfl) T.m__law_draw T.F__law_draw.kp T.b__law_draw takes0 (kj_cons (lj_va (pv 0)) (kj_cons (lj_ex ej_int) kj_nil)) rfl)) oj_nil)))) (by decide))) oj_nil)))
    (bj_cons (sj_set (i := 7) sc__law_right.nd rfl (.inl rfl) (ej_callTy call_list_of pr_list (by rfl) T.z_list (by decide +kernel) (oj_cons (lj_va (pv 2)) oj_nil)))
    (bj_cons (sj_if (tj_eq hr.units (oj_cons (lj_ex (ej_call (ok__law_draw T) (hr.mono (by first | decide | omega)) (by rfl) T.m__law_draw T.F__law_draw.kp T.b__law_draw (takes_of rfl rfl rfl rfl) (kj_cons (lj_va (pv 0)) (kj_cons (lj_ex ej_int) kj_nil)) rfl)) (oj_cons (lj_ex ej_int) oj_nil))) (bj_cons (sj_set (i := 6) sc__law_right.nd rfl (.inl rfl) (ej_mul (oj_cons (lj_ex (ej_tup (mj_cons ej_non mj_nil))) (oj_cons (lj_va (pv 1)) oj_nil))))
    (bj_one (sj_set (i := 10) sc__law_right.nd rfl (.inl rfl) (ej_makeB (c := "Plan") (sel := [.arg 0, .arg 1, .arg 2, .dfN]) (inv := [0, 1, 2]) T.mk_Plan (okB_Plan_init T) (hr.mono (by first | decide | omega)) (by rfl) T.mc_Plan T.kb_Plan_init_2_costs_side (takes_of rfl rfl rfl rfl) (.cons rfl .nil) (kj_cons (lj_va (pv 7)) (kj_cons (lj_ex (ej_var (pv 3))) (kj_cons (lj_ex (ej_var (pv 5))) kj_nil))) (by decide))))) (bj_one (sj_set (i := 10) sc__law_right.nd rfl (.inl rfl) (ej_makeB (c := "Plan") (sel := [.arg 0, .arg 1, .arg 2, .arg 3]) (inv := [0, 1, 2, 3]) T.mk_Plan (okB_Plan_init T) (hr.mono (by first | decide | omega)) (by rfl) T.mc_Plan T.kb_Plan_init_2_costs_side_tops (takes_of rfl rfl rfl rfl) (.cons rfl .nil) (kj_cons (lj_va (pv 7)) (kj_cons (lj_ex (ej_var (pv 3))) (kj_cons (lj_ex (ej_var (pv 5))) (kj_cons (lj_ex (ej_var (pv 6))) kj_nil)))) (by decide)))))
    (bj_cons (sj_app (pv 7) ej_non)
    (bj_cons (sj_appT (ej_methK0 (c := "Plan") (sel := [.arg 0]) (inv := [0]) (pv 10) T.cls_Plan T.mt_Plan_rows (ok_Plan_rows T) (hr.mono (by first | decide | omega)) T.kb_Plan_rows_1_ (takes_of rfl rfl rfl rfl) kj_nil (by decide)))
    (bj_cons (sj_if (wj_or (tj_ne hr.units (oj_cons (lj_ex (ej_methK0 (c := "Plan") (sel := [.arg 0]) (inv := [0]) (pv 10) T.cls_Plan T.mt_Plan_rows (ok_Plan_rows T) (hr.mono (by first | decide | omega)) T.kb_Plan_rows_1_ (takes_of rfl rfl rfl rfl) kj_nil (by decide))) (oj_cons (lj_va (pv 2)) oj_nil))) (wj_or (tj_ne hr.units (oj_cons (lj_ex (ej_methK0 (c := "Plan") (sel := [.arg 0]) (inv := [0]) (pv 10) T.cls_Plan T.mt_Plan_costs (ok_Plan_costs T) (hr.mono (by first | decide | omega)) T.kb_Plan_costs_1_ (takes_of rfl rfl rfl rfl) kj_nil (by decide))) (oj_cons (lj_va (pv 3)) oj_nil))) (wj_or (tj_ne hr.units (oj_cons (lj_ex (ej_methK0 (c := "Plan") (sel := [.arg 0]) (inv := [0]) (pv 10) T.cls_Plan T.mt_Plan_side (ok_Plan_side T) (hr.mono (by first | decide | omega)) T.kb_Plan_side_1_ (takes_of rfl rfl rfl rfl) kj_nil (by decide))) (oj_cons (lj_va (pv 5)) oj_nil))) (wj_or1 (tj_ne hr.units (oj_cons (lj_ex (ej_methK0 (c := "Plan") (sel := [.arg 0]) (inv := [0]) (pv 10) T.cls_Plan T.mt_Plan_tops (ok_Plan_tops T) (hr.mono (by first | decide | omega)) T.kb_Plan_tops_1_ (takes_of rfl rfl rfl rfl) kj_nil (by decide))) (oj_cons (lj_va (pv 6)) oj_nil))))))).tj (bj_one (sj_ret ej_bl)) bj_nil)
    (bj_cons (sj_for (passes_of rfl) rfl (ij_seq (lj_ex (ej_lst (mj_cons (ej_var (pv 4)) (mj_cons (ej_callTy call_tuple_of pr_tuple (by rfl) T.z_tuple (by decide +kernel) (oj_cons (lj_ex (ej_lc rfl sc__law_right.nd (ij_rng1 (by rfl) T.z_range (oj_cons (lj_va (pv 1)) oj_nil)) (blkOk_by (own := [("_law_k", 12)]) (by kernel_rfl)) (fun _ _ _ _ _ => (gj_name (i := 12) sc__law_right.nd rfl (.inl rfl))) (fun _ _ _ _ _ => fj_nil) (fun _ _ _ _ _ => (ej_sub (oj_cons (lj_ex (ej_call (ok__law_draw T) (hr.mono (by first | decide | omega)) (by rfl) T.m__law_draw T.F__law_draw.kp T.b__law_draw takes0 (kj_cons (lj_va (pv 0)) (kj_cons (lj_ex ej_int) kj_nil)) rfl)) (oj_cons (lj_ex ej_int) oj_nil)))) (by decide))) oj_nil)) (mj_cons (ej_mul (oj_cons (lj_ex (ej_tup (mj_cons ej_int mj_nil))) (oj_cons (lj_va (pv 1)) oj_nil))) (mj_cons (ej_mul (oj_cons (lj_ex (ej_tup (mj_cons (ej_neg (oj_cons (lj_ex ej_int) oj_nil)) mj_nil))) (oj_cons (lj_va (pv 1)) oj_nil))) mj_nil))))))) (gj_name (i := 8) sc__law_right.nd rfl (.inl rfl)) (bj_one (sj_if (tj_not (tj_tru (oj_cons (lj_ex (ej_call (ok__law_vector_right T) (hr.mono (by first | decide | omega)) (by rfl) T.m__law_vector_right T.F__law_vector_right.kp T.b__law_vector_right (takes_of rfl rfl rfl rfl) (kj_cons (lj_va (pv 10)) (kj_cons (lj_va (pv 8)) (kj_cons (lj_ex (ej_tup (mj_cons (ej_var (pv 2)) (mj_cons (ej_var (pv 3)) (mj_cons (ej_var (pv 5)) (mj_cons (ej_var (pv 6)) mj_nil)))))) kj_nil))) rfl)) oj_nil))) (bj_one (sj_ret ej_bl)) bj_nil)))
    (bj_cons (sj_if (wj_or (tj_ne hr.units (oj_cons (lj_ex (ej_methK0 (c := "Plan") (sel := [.arg 0]) (inv := [0]) (pv 10) T.cls_Plan T.mt_Plan_wide (ok_Plan_wide T) (hr.mono (by first | decide | omega)) T.kb_Plan_wide_1_ (takes_of rfl rfl rfl rfl) kj_nil (by decide))) (oj_cons (lj_va (pv 1)) oj_nil))) (wj_or1 (tj_not (tj_tru (oj_cons (lj_ex (ej_call (ok__law_odd_right T) (hr.mono (by first | decide | omega)) (by rfl) T.m__law_odd_right T.F__law_odd_right.kp T.b__law_odd_right (takes_of rfl rfl rfl rfl) (kj_cons (lj_va (pv 10)) (kj_cons (lj_va (pv 1)) kj_nil)) rfl)) oj_nil))))).tj (bj_one (sj_ret ej_bl)) bj_nil)
    (bj_cons (sj_if (tj_not (tj_tru (oj_cons (lj_ex (ej_call (ok__law_changed_right T) (hr.mono (by first | decide | omega)) (by rfl) T.m__law_changed_right T.F__law_changed_right.kp T.b__law_changed_right (takes_of rfl rfl rfl rfl) (kj_cons (lj_va (pv 0)) (kj_cons (lj_va (pv 10)) (kj_cons (lj_ex (ej_tup (mj_cons (ej_var (pv 2)) (mj_cons (ej_var (pv 3)) (mj_cons (ej_var (pv 5)) (mj_cons (ej_var (pv 6)) mj_nil)))))) kj_nil))) rfl)) oj_nil))) (bj_one (sj_ret ej_bl)) bj_nil)
    (bj_cons (sj_set (i := 9) sc__law_right.nd rfl (.inl rfl) (ej_make (c := "Plan") (sel := [.arg 1, .arg 2, .arg 3, .arg 4]) T.mk_Plan (ok_Plan_init T) (hr.mono (by first | decide | omega)) (by rfl) T.mc_Plan T.kb_Plan_init_2_costs_side_tops (takes_of rfl rfl rfl rfl) (.cons rfl .nil) (kj_cons (lj_ex (ej_revA (oj_cons (lj_va (pv 2)) oj_nil))) (kj_cons (lj_ex (ej_var (pv 3))) (kj_cons (lj_ex (ej_revA (oj_cons (lj_va (pv 5)) oj_nil))) (kj_cons (lj_ex (ej_var (pv 6))) kj_nil)))) (by decide)))
    (bj_cons (sj_if (tj_ne hr.units (oj_cons (lj_ex (ej_eqO (c := "Plan") T.mt_Plan___eq__ (ok_Plan___eq__ T) (hr.mono (by first | decide | omega)) T.b_Plan___eq__ (takes_of rfl rfl rfl rfl) (kj_cons (lj_va (pv 9)) (kj_cons (lj_va (pv 10)) kj_nil)) rfl)) (oj_cons (lj_ex (ej_and (ej_eq hr.units (oj_cons (lj_ex (ej_revA (oj_cons (lj_va (pv 2)) oj_nil))) (oj_cons (lj_va (pv 2)) oj_nil))) (ej_one (ej_eq hr.units (oj_cons (lj_ex (ej_revA (oj_cons (lj_va (pv 5)) oj_nil))) (oj_cons (lj_va (pv 5)) oj_nil)))))) oj_nil))) (bj_one (sj_ret ej_bl)) bj_nil)
    (bj_one (sj_ret (ej_and (ej_eqO (c := "Plan") T.mt_Plan___eq__ (ok_Plan___eq__ T) (hr.mono (by first | decide | omega)) T.b_Plan___eq__ (takes_of rfl rfl rfl rfl) (kj_cons (lj_va (pv 10)) (kj_cons (lj_ex (ej_make (c := "Plan") (sel := [.arg 1, .arg 2, .arg 3, .arg 4]) T.mk_Plan (ok_Plan_init T) (hr.mono (by first | decide | omega)) (by rfl) T.mc_Plan T.kb_Plan_init_2_costs_side_tops (takes_of rfl rfl rfl rfl) (.cons rfl .nil) (kj_cons (lj_ex (ej_var (pv 2))) (kj_cons (lj_ex (ej_var (pv 3))) (kj_cons (lj_ex (ej_var (pv 5))) (kj_cons (lj_ex (ej_var (pv 6))) kj_nil)))) (by decide))) kj_nil)) rfl) (ej_one (ej_neO (c := "Plan") T.nc_Plan T.mt_Plan___eq__ (ok_Plan___eq__ T) (hr.mono (by first | decide | omega)) T.b_Plan___eq__ (takes_of rfl rfl rfl rfl) (kj_cons (lj_va (pv 10)) (kj_cons (lj_ex (ej_tup (mj_cons (ej_var (pv 2)) (mj_cons (ej_var (pv 3)) (mj_cons (ej_var (pv 5)) (mj_cons (ej_var (pv 6)) mj_nil)))))) kj_nil)) rfl)))))))))))))))))))))
noncomputable def b_law_0 : Sb := (bNot (bTru [.ex (xCallT f__law_right (xLst [(xPrim [.va 2, .ex (xPrim [.ex (xPrim [.va 2, .ex (xPrim [.ex (xC (.int 10)), .ex (xC (.int 18))] pPow)] pGe)] pInt)] pMul), (xPrim [.ex (xPrim [.va 2, .ex (xC (.int 2147483647))] pMod), .ex (xPrim [.ex (xC (.int 7919)), .va 1] pMul)] pAdd), (xC (.int 0))]))]))
noncomputable def l_law_0 : Ss := (sIf b_law_0 (sRet (xC (.bl false))) sNil)
noncomputable def g_law : Ss := (sSeq (sFor (srcEnum (.ex (xPrim [.ex (xPrim [.va 0, .ex (xLst [(xC (.int 0))])] pAdd), .ex (xC (.int 6))] pSlHi))) (stT [1, 2]) l_law_0)
    (sRet (xC (.bl true))))
noncomputable def f_law : Fn := bodyF 3 g_law
theorem ok_law (T : Tx K mg cl) : FnOk P w K mg base (L2.CX P w) 8 T.a_law T.fd_law ["_law_script"] (spF (gk K cl) 1 f_law) :=
  fn_ok (N := ["_law_script", "_law_k", "_law_cell"]) (k := 7) (g := g_law) T.F_law sc_law fun cdv A outer s H vs E hr => (bj_cons (sj_for (passes_of rfl) rfl (ij_enum (by rfl) T.z_enumerate (lj_ex (ej_slHi (oj_cons (lj_ex (ej_add (oj_cons (lj_va (pv 0)) (oj_cons (lj_ex (ej_lst (mj_cons ej_int mj_nil))) oj_nil)))) (oj_cons (lj_ex ej_int) oj_nil))))) (gj_tup (is := [1, 2]) rfl (pgs_cons (pg_name (i := 1) sc_law.nd rfl (.inl rfl)) (pgs_cons (pg_name (i := 2) sc_law.nd rfl (.inl rfl)) pgs_nil)) rfl) (bj_one (sj_if (tj_not (tj_tru (oj_cons (lj_ex (ej_callT (ok__law_right T) (hr.mono (by decide)) (by rfl) T.m__law_right T.F__law_right.kp T.b__law_right (takes_of rfl rfl rfl rfl) (ej_lst (mj_cons (ej_mul (oj_cons (lj_va (pv 2)) (oj_cons (lj_ex (ej_callTy call_int1 pr_int (by rfl) T.z_int (by decide +kernel) (oj_cons (lj_ex (ej_ge (oj_cons (lj_va (pv 2)) (oj_cons (lj_ex (ej_pow (oj_cons (lj_ex ej_int) (oj_cons (lj_ex ej_int) oj_nil)))) oj_nil)))) oj_nil))) oj_nil))) (mj_cons (ej_add (oj_cons (lj_ex (ej_mod (oj_cons (lj_va (pv 2)) (oj_cons (lj_ex ej_int) oj_nil)))) (oj_cons (lj_ex (ej_mul (oj_cons (lj_ex ej_int) (oj_cons (lj_va (pv 1)) oj_nil)))) oj_nil))) (mj_cons ej_int mj_nil)))))) oj_nil))) (bj_one (sj_ret ej_bl)) bj_nil)))
    (bj_one (sj_ret ej_bl)))
end
end Lw
end

section
namespace Lw
open PySem PySem.Spec PyProof.Rows L2 Wm
structure Wl where
  a : Int
  b : Int
  c : Int
def wl (w : Wl) : List D := [.int w.a, .int w.b, .int w.c]
def n1 (w : Wl) : Int := ((w.b + 104729 * (w.c + 1) + 1) * 48271).fmod 2147483647
def n2 (w : Wl) : Int := (n1 w * ((n1 w).fdiv 1009 + 69621)).fmod 2147483647
def dr (w : Wl) (m : Int) : Int := if 0 < w.a then w.a.fmod m else ((n2 w * ((n2 w).fdiv 2003 + 40692)).fmod 2147483399).fmod m
def dw (w : Wl) (m : Int) : Wl := if 0 < w.a then ⟨w.a.fdiv m, w.b, w.c⟩ else ⟨w.a, w.b, w.c + 1⟩
theorem fmod_bd (x m : Int) (h : 0 < m) : 0 ≤ x.fmod m ∧ x.fmod m < m := ⟨Int.fmod_nonneg_of_pos x h, Int.fmod_lt_of_pos x h⟩
theorem dr_bd (w : Wl) (m : Int) (h : 0 < m) : 0 ≤ dr w m ∧ dr w m < m := by
  unfold dr
  split
  · exact fmod_bd _ _ h
  · exact fmod_bd _ _ h
theorem draw_ev (w : Wl) (m : Int) (hm : 0 < m) (hm2 : m ≤ 2000000000) : f__law_draw [.byr (wl w), .sh (.int m)] = .ok (.sh (.int (dr w m)), [.byr (wl (dw w m)), .no]) := by
  obtain ⟨a, b, c⟩ := w
  have h0 : m ≠ 0 := by omega
  have hd : ∀ i, CDv i m := fun i => cdv_small h0 (by omega)
  by_cases ha : 0 < a
  · simp [f__law_draw, g__law_draw, wl, dr, dw, ha, h0, hd]
  · have k1 : ∀ x, IntMulOk 104729 x := fun x => mul_okL (by decide)
    have k2 : ∀ x, IntMulOk x 48271 := fun x => mul_okR (by decide)
    have k3 : ∀ x : Int, IntMulOk (x.fmod 2147483647) ((x.fmod 2147483647).fdiv 1009 + 69621) := fun x => mul_okL (by have := fmod_bd x 2147483647 (by decide); omega)
    have k4 : ∀ x : Int, IntMulOk (x.fmod 2147483647) ((x.fmod 2147483647).fdiv 2003 + 40692) := fun x => mul_okL (by have := fmod_bd x 2147483647 (by decide); omega)
    have k5 : ∀ x, CDv x 1009 := fun x => cdv_small (by decide) (by decide)
    have k6 : ∀ x, CDv x 2003 := fun x => cdv_small (by decide) (by decide)
    simp [f__law_draw, g__law_draw, wl, dr, dw, ha, h0, pMul_int, k1, k2, k3, k4, k5, k6, n1, n2]
/-! ### rows -/
abbrev tI (r : List Int) : D := .tup (r.map D.int)
theorem sz {m : Nat} (h : m ≤ 100000) : m ≤ sizeLine := by rw [szl]; omega
theorem szlt {m : Nat} (h : m ≤ 100000) : m < sizeLine := by rw [szl]; omega
theorem rgk {m : Nat} (h : m ≤ 100000) : rngOk (m : Int) := rngOk_nat m (by omega)
theorem okNs_ints (n : Nat) : ∀ r : List Int, okNs n (r.map D.int) = true
  | [] => by simp
  | x :: r => by simp [okNs_ints n r]
theorem eqDs_ints : ∀ r s : List Int, eqDs (r.map D.int) (s.map D.int) = (r == s)
  | [], [] => rfl
  | [], y :: s => rfl
  | x :: r, [] => rfl
  | x :: r, y :: s => by
    simp only [List.map_cons, eqDs_cons, eqD_int, eqDs_ints r s]
    rfl
def isWh : D → Bool
  | .int _ => true
  | _ => false
/-- of a kind that isinstance tells of -/
def okT : D → Bool
  | .ins _ _ => false
  | .scr _ => false
  | _ => true
theorem whole_ev (d : D) (h : okT d = true) : f_is_whole [.sh d] = .ok (.sh (.bl (isWh d)), [.no]) := by
  cases d <;> first | (cases h; done) | simp [f_is_whole, g_is_whole, isB, isWh]
def isRow (d : D) (n : Int) : Bool := match d with
  | .tup ds => decide ((ds.length : Int) = n) && ds.all isWh
  | _ => false
def okR (d : D) : Bool := match d with
  | .tup ds => ds.all okT
  | d => okT d
theorem isRow_tI {d : D} {n : Int} (h : isRow d n = true) : ∃ r, d = tI r ∧ (r.length : Int) = n := by
  cases d with
  | tup ds =>
    simp only [isRow, Bool.and_eq_true, decide_eq_true_eq] at h
    refine ⟨ds.map fun | .int i => i | _ => 0, ?_, by rw [List.length_map]; exact h.1⟩
    congr 1
    have h2 := h.2
    clear h
    induction ds with
    | nil => rfl
    | cons d ds ih =>
      simp only [List.all_cons, Bool.and_eq_true] at h2
      rw [List.map_cons, List.map_cons, ← ih h2.2]
      cases d with
      | int i => rfl
      | _ => cases h2.1
  | _ => cases h
theorem isRow_of (r : List Int) : isRow (tI r) r.length = true := by
  simp only [isRow, List.length_map, decide_true, Bool.true_and]
  rw [List.all_map, List.all_eq_true]
  intro x _
  rfl
theorem row_ev (d : D) (n : Int) (h : okR d = true) : f_is_row [.sh d, .sh (.int n)] = .ok (.sh (.bl (isRow d n)), [.no, .no]) := by
  cases d with
  | tup ds =>
    by_cases hn : (ds.length : Int) = n
    · simp [f_is_row, g_is_row, isB, hn, isRow, c_is_row_0]
      rw [lc_map (f := fun d => D.bl (isWh d))]
      · have e1 : (ds.map fun d => D.bl (isWh d)).all okB = true := by
          rw [List.all_map, List.all_eq_true]; intro x _; rfl
        have e2 : ((ds.map fun d => D.bl (isWh d)).map trB).all id = ds.all isWh := by
          rw [List.map_map, List.all_map]; rfl
        simp only [lcBack_ok, bind_ok, frz_own, ops_nil, pAnyK_lst, e1, e2, if_true]
        simp
      · intro d hd k
        simp [whole_ev d (List.all_eq_true.mp h d hd)]
    · simp [f_is_row, g_is_row, isB, hn, isRow]
  | ins c fs => cases h
  | scr ns => cases h
  | _ => simp [f_is_row, g_is_row, isB, isRow]
section
variable {S : Type} {m : Itm} {st : Tg} {test : Sb} {elt : Sx} {vs : List Nat}
/-- each turn gives a number and goes on -/
theorem lc_ints {P : Int → Prop} (R : S → List SD) : ∀ {ds : List D}, (∀ s, ∀ d ∈ ds, ∃ x s', P x ∧ ∀ k, lcTg m test elt vs k (st d (R s)) = (k (R s')).bind fun q => .ok (D.int x :: q.1, q.2)) → ∀ s, ∃ (r : List Int) (s' : S), lcL m st test elt vs ds (R s) = .ok (r.map D.int, R s') ∧ r.length = ds.length ∧ ∀ x ∈ r, P x
  | [], _, s => ⟨[], s, rfl, rfl, fun x hx => by cases hx⟩
  | d :: ds, h, s => by
    obtain ⟨x, s1, hp, e⟩ := h s d (by simp)
    obtain ⟨r, s2, e2, hl, hr⟩ := lc_ints R (ds := ds) (fun s d hd => h s d (List.mem_cons_of_mem _ hd)) s1
    refine ⟨x :: r, s2, ?_, by simp [hl], fun y hy => ?_⟩
    · rw [lcL_cons, e, e2]
      rfl
    · rcases List.mem_cons.mp hy with rfl | hy
      · exact hp
      · exact hr y hy
/-- each turn gives a row -/
theorem lc_rows {P : List Int → Prop} (R : S → List SD) : ∀ {ds : List D}, (∀ s, ∀ d ∈ ds, ∃ x s', P x ∧ ∀ k, lcTg m test elt vs k (st d (R s)) = (k (R s')).bind fun q => .ok (tI x :: q.1, q.2)) → ∀ s, ∃ (r : List (List Int)) (s' : S), lcL m st test elt vs ds (R s) = .ok (r.map tI, R s') ∧ r.length = ds.length ∧ ∀ x ∈ r, P x
  | [], _, s => ⟨[], s, rfl, rfl, fun x hx => by cases hx⟩
  | d :: ds, h, s => by
    obtain ⟨x, s1, hp, e⟩ := h s d (by simp)
    obtain ⟨r, s2, e2, hl, hr⟩ := lc_rows R (ds := ds) (fun s d hd => h s d (List.mem_cons_of_mem _ hd)) s1
    refine ⟨x :: r, s2, ?_, by simp [hl], fun y hy => ?_⟩
    · rw [lcL_cons, e, e2]
      rfl
    · rcases List.mem_cons.mp hy with rfl | hy
      · exact hp
      · exact hr y hy
end
end Lw
end

section
namespace Lw
open PySem PySem.Spec PyProof.Rows L2 Wm
def isTop : D → Bool
  | .non => true
  | .int i => decide (0 ≤ i)
  | _ => false
theorem tops_ev (d : D) (n : Nat) (h : okR d = true) : f_are_tops [.sh d, .sh (.int n)] = .ok (.sh (.bl (match d with | .tup cs => decide (cs.length = n) && cs.all isTop | _ => false)), [.no, .no]) := by
  cases d with
  | tup ds =>
    by_cases hn : ds.length = n
    · subst hn
      simp [f_are_tops, g_are_tops, b_are_tops_0, isB, c_are_tops_0]
      rw [lc_map (f := fun d => D.bl (isTop d))]
      · have e1 : (ds.map fun d => D.bl (isTop d)).all okB = true := by
          rw [List.all_map, List.all_eq_true]; intro x _; rfl
        have e2 : ((ds.map fun d => D.bl (isTop d)).map trB).all id = ds.all isTop := by
          rw [List.map_map, List.all_map]; rfl
        simp only [lcBack_ok, bind_ok, frz_own, ops_nil, pAnyK_lst, e1, e2, if_true]
        simp
      · intro d hd k
        have := List.all_eq_true.mp h d hd
        cases d <;> first | (cases this; done) | (have hw := whole_ev _ this; simp [hw, isWh, isTop, pIsN])
    · have hn' : ¬ ((ds.length : Int) = n) := by omega
      simp [f_are_tops, g_are_tops, b_are_tops_0, isB, hn, hn']
  | ins c fs => cases h
  | scr ns => cases h
  | _ => simp [f_are_tops, g_are_tops, b_are_tops_0, isB]
def okL : D → Bool
  | .lst xs => xs.all okR
  | d => okT d
def costsOk : D → Bool
  | .tup ds => decide (1 ≤ ds.length) && decide (ds.length ≤ 6) && ds.all isWh
  | _ => false
def rowsOk (d : D) (n : Nat) : Bool := match d with
  | .lst xs => decide (xs.length ≤ 3) && xs.all (isRow · n)
  | _ => false
def topsOk (d : D) (n : Nat) : Bool := match d with
  | .non => true
  | .tup cs => decide (cs.length = n) && cs.all isTop
  | _ => false
def dLen : D → Nat
  | .tup ds => ds.length
  | .lst ds => ds.length
  | _ => 0
theorem dLen_tup (ds : List D) : dLen (.tup ds) = ds.length := rfl
theorem dLen_lst (ds : List D) : dLen (.lst ds) = ds.length := rfl
def dueV (rows fees aim caps : D) : Option Str :=
  bif costsOk fees then (bif rowsOk rows (dLen fees) then (bif isRow aim (dLen rows) then (bif topsOk caps (dLen fees) then none else some "tops") else some "side") else some "rows") else some "costs"
theorem costs_row (ds : List D) : isRow (.tup ds) ds.length = ds.all isWh := by simp [isRow]
theorem allrow_ev {m : Itm} {elt : Sx} {vs : List Nat} {st : Tg} {ρ : List SD} {xs : List D} {n : Int} (h : ∀ d ∈ xs, ∀ k, lcTg m bYes elt vs k (st d ρ) = (k ρ).bind fun q => .ok (D.bl (isRow d n) :: q.1, q.2)) : lcL m st bYes elt vs xs ρ = .ok (xs.map fun d => D.bl (isRow d n), ρ) := lc_map h
theorem all_bl {f : D → Bool} (xs : List D) : pAll [.lst (xs.map fun d => D.bl (f d))] = .ok (.sh (.bl (xs.all f))) := by
  have e1 : (xs.map fun d => D.bl (f d)).all okB = true := by
    rw [List.all_map, List.all_eq_true]; intro x _; rfl
  have e2 : ((xs.map fun d => D.bl (f d)).map trB).all id = xs.all f := by
    rw [List.map_map, List.all_map]; rfl
  simp only [pAnyK_lst, e1, e2, if_true]
theorem it0 (rows fees aim caps : D) (h1 : okR fees = true) (x5 x6 : SD) : b_Plan_init_0 [.gv, .sh rows, .sh fees, .sh aim, .sh caps, x5, x6] = .ok (!costsOk fees, [.gv, .sh rows, .sh fees, .sh aim, .sh caps, x5, x6]) := by
  cases fees with
  | tup ds =>
    have e1 := row_ev (.tup ds) ds.length h1
    rw [costs_row] at e1
    by_cases c1 : 1 ≤ ds.length
    · have c1' : (1 : Int) ≤ ds.length := by omega
      by_cases c2 : ds.length ≤ 6
      · have c2' : (ds.length : Int) ≤ 6 := by omega
        simp [b_Plan_init_0, isB, e1, costsOk, c1, c2, c1', c2']
      · have c2' : ¬ (ds.length : Int) ≤ 6 := by omega
        simp [b_Plan_init_0, isB, e1, costsOk, c1, c2, c1', c2']
    · have c1' : ¬ (1 : Int) ≤ ds.length := by omega
      simp [b_Plan_init_0, isB, e1, costsOk, c1, c1']
  | ins c fs => cases h1
  | scr ns => cases h1
  | _ => simp [b_Plan_init_0, isB, costsOk]
theorem it1 (rows fees aim caps : D) (n : Nat) (h0 : okL rows = true) : b_Plan_init_1 [.gv, .sh rows, .sh fees, .sh aim, .sh caps, .sh (.int n), .no] = .ok (!rowsOk rows n, [.gv, .sh rows, .sh fees, .sh aim, .sh caps, .sh (.int n), .no]) := by
  cases rows with
  | lst xs =>
    by_cases c : xs.length ≤ 3
    · have c' : ¬ (3 < (xs.length : Int)) := by omega
      simp [b_Plan_init_1, isB, c', c_Plan_init_0, rowsOk, c]
      rw [allrow_ev (n := n)]
      · simp [-pAnyK_lst, all_bl]
      · intro d hd k
        simp [row_ev d n (List.all_eq_true.mp h0 d hd)]
    · have c' : 3 < (xs.length : Int) := by omega
      simp [b_Plan_init_1, isB, c', rowsOk, c]
  | ins c fs => cases h0
  | scr ns => cases h0
  | _ => simp [b_Plan_init_1, isB, rowsOk]
theorem it2 (rows fees aim caps : D) (n : Nat) (h3 : okR caps = true) (x6 : SD) : b_Plan_init_2 [.gv, .sh rows, .sh fees, .sh aim, .sh caps, .sh (.int n), x6] = .ok (!topsOk caps n, [.gv, .sh rows, .sh fees, .sh aim, .sh caps, .sh (.int n), x6]) := by
  have e := tops_ev caps n h3
  cases caps with
  | ins c fs => cases h3
  | scr ns => cases h3
  | _ => simp [b_Plan_init_2, e, topsOk, pNotN]
def topsT (caps : D) (n : Nat) : D := match caps with
  | .non => .tup (List.replicate n .non)
  | d => d
def asTup : D → D
  | .lst xs => .tup xs
  | d => d
abbrev planF (rows fees aim caps : D) : List (Str × D) := [("kept_rows", asTup rows), ("kept_costs", fees), ("kept_side", aim), ("kept_tops", topsT caps (dLen fees))]
theorem init_ok (rows fees aim caps : D) (h0 : okL rows = true) (h1 : okR fees = true) (h2 : okR aim = true) (h3 : okR caps = true) (hd : dueV rows fees aim caps = none) : ∃ ρ, f_Plan_init [rows, fees, aim, caps] = .ok (planF rows fees aim caps, ρ) := by
  unfold dueV at hd
  have s1 : (1 : Nat) ≤ sizeLine := by decide
  cases hc : costsOk fees with
  | false => rw [hc] at hd; cases hd
  | true =>
    rw [hc] at hd
    cases fees with
    | tup ds =>
      simp only [dLen_tup, dLen_lst, cond_true] at hd
      have hn6 : ds.length ≤ 6 := by
        simp only [costsOk, Bool.and_eq_true, decide_eq_true_eq] at hc
        exact hc.1.2
      cases hr : rowsOk rows ds.length with
      | false => rw [hr] at hd; cases hd
      | true =>
        rw [hr] at hd
        cases rows with
        | lst xs =>
          simp only [dLen_tup, dLen_lst, cond_true] at hd
          have ea := row_ev aim xs.length h2
          cases ha : isRow aim xs.length with
          | false => rw [ha] at hd; cases hd
          | true =>
            rw [ha] at ea hd
            simp only [cond_true] at hd
            cases ht : topsOk caps ds.length with
            | false => rw [ht] at hd; cases hd
            | true =>
              have em := pMul_rep [D.non] ds.length (by omega) (by simp)
              cases caps with
              | ins c fs => cases h3
              | scr ns => cases h3
              | non => exact ⟨_, by simp [f_Plan_init, g_Plan_init, it0, h1, hc, it1, h0, hr, ea, it2, h3, ht, pIsN, planF, asTup, topsT, dLen, s1, em]; rfl⟩
              | _ => exact ⟨_, by simp [f_Plan_init, g_Plan_init, it0, h1, hc, it1, h0, hr, ea, it2, h3, ht, pIsN, planF, asTup, topsT, dLen]; rfl⟩
        | _ => cases hr
    | _ => cases hc
@[simp] theorem pList_tup (xs : List D) : pList [.tup xs] = .ok (.own xs) := (rfl)
theorem at_mem (xs : List D) (i : Int) (h0 : 0 ≤ i) (h1 : i < xs.length) : ∃ x ∈ xs, atI xs i = some x := by
  have hl : i.toNat < xs.length := by omega
  refine ⟨xs[i.toNat], List.getElem_mem hl, ?_⟩
  exact atI_at _ _ _ h0 (List.getElem?_eq_getElem hl)
theorem seq_nx {g h : Ss} {ρ ρ' : List SD} (e : g ρ = .ok (.nx ρ')) : sSeq g h ρ = h ρ' := by rw [sSeq_ap, e]; rfl
theorem okR_tup {ds : List D} (h : ∀ d ∈ ds, okT d = true) : okR (.tup ds) = true := List.all_eq_true.mpr h
theorem ints_okT (r : List Int) : ∀ d ∈ r.map D.int, okT d = true := fun d hd => by
  obtain ⟨i, _, rfl⟩ := List.mem_map.mp hd; rfl
end Lw
end

section
namespace Lw
open PySem PySem.Spec PyProof.Rows L2 Wm
theorem ok_tI (n : Nat) (r : List Int) : okN (n + 1) (tI r) = true := okNs_ints n r
theorem okNs_rows (n : Nat) : ∀ rs : List (List Int), okNs (n + 1) (rs.map tI) = true
  | [] => by simp
  | r :: rs => by
    rw [List.map_cons, okNs_cons, okNs_rows n rs, ok_tI]
    rfl
theorem eqDs_rows : ∀ rs ss : List (List Int), eqDs (rs.map tI) (ss.map tI) = (rs == ss)
  | [], [] => rfl
  | [], y :: s => rfl
  | x :: r, [] => rfl
  | x :: r, y :: s => by
    simp only [List.map_cons, eqDs_cons, eqDs_rows r s]
    show (eqDs (x.map D.int) (y.map D.int) && _) = _
    rw [eqDs_ints]
    rfl
/-! ### tops -/
abbrev cD : Option Int → D
  | none => .non
  | some i => .int i
abbrev tC (cs : List (Option Int)) : D := .tup (cs.map cD)
theorem okNs_tops (n : Nat) : ∀ cs : List (Option Int), okNs n (cs.map cD) = true
  | [] => by simp
  | none :: cs => by simp [okNs_tops n cs]
  | some i :: cs => by simp [okNs_tops n cs]
theorem eqD_cD : ∀ x y : Option Int, eqD (cD x) (cD y) = (x == y)
  | none, none => rfl
  | none, some _ => rfl
  | some _, none => rfl
  | some i, some j => by
    show eqD (.int i) (.int j) = _
    rw [eqD_int]
    rfl
theorem eqDs_tops : ∀ cs ds : List (Option Int), eqDs (cs.map cD) (ds.map cD) = (cs == ds)
  | [], [] => rfl
  | [], y :: s => rfl
  | x :: r, [] => rfl
  | x :: r, y :: s => by
    simp only [List.map_cons, eqDs_cons, eqDs_tops r s, eqD_cD]
    rfl
/-! ### plans -/
abbrev flds (rs : List (List Int)) (fees aim : List Int) (cs : List (Option Int)) : List (Str × D) := [("kept_rows", .tup (rs.map tI)), ("kept_costs", tI fees), ("kept_side", tI aim), ("kept_tops", tC cs)]
abbrev planD (rs : List (List Int)) (fees aim : List Int) (cs : List (Option Int)) : D := .ins "Plan" (flds rs fees aim cs)
structure Good (n : Nat) (rs : List (List Int)) (fees aim : List Int) (cs : List (Option Int)) : Prop where
  n1 : 1 ≤ n
  n6 : n ≤ 6
  m3 : rs.length ≤ 3
  rw : ∀ r ∈ rs, r.length = n
  fe : fees.length = n
  ai : aim.length = rs.length
  cl : cs.length = n
  c0 : ∀ i, some i ∈ cs → 0 ≤ i
section
variable {n : Nat} {rs : List (List Int)} {fees aim : List Int} {cs : List (Option Int)}
theorem okL_rows (rs : List (List Int)) : okL (.lst (rs.map tI)) = true := List.all_eq_true.mpr fun d hd => by obtain ⟨i, _, rfl⟩ := List.mem_map.mp hd; exact okR_tup (ints_okT i)
theorem okR_tI (r : List Int) : okR (tI r) = true := okR_tup (ints_okT r)
theorem okR_tC (cs : List (Option Int)) : okR (tC cs) = true := okR_tup fun d hd => by
  obtain ⟨i, _, rfl⟩ := List.mem_map.mp hd
  cases i <;> rfl
theorem Good.cost (g : Good n rs fees aim cs) : costsOk (tI fees) = true := by
  simp only [costsOk, List.length_map, g.fe, g.n1, g.n6, decide_true, Bool.true_and]
  rw [List.all_map, List.all_eq_true]; intro x _; rfl
theorem Good.rowsK (g : Good n rs fees aim cs) : rowsOk (.lst (rs.map tI)) n = true := by
  simp only [rowsOk, List.length_map]
  rw [decide_eq_true g.m3, Bool.true_and, List.all_map, List.all_eq_true]; intro x hx
  show isRow (tI x) n = true
  rw [← g.rw x hx]; exact isRow_of x
theorem Good.side (g : Good n rs fees aim cs) : isRow (tI aim) (rs.length : Nat) = true := by rw [← g.ai]; exact isRow_of aim
theorem Good.topsK (g : Good n rs fees aim cs) : topsOk (tC cs) n = true := by
  simp only [topsOk, List.length_map, g.cl, decide_true, Bool.true_and]
  rw [List.all_map, List.all_eq_true]; intro x hx
  cases x with
  | none => rfl
  | some i => simp [isTop, g.c0 i hx]
theorem Good.due (g : Good n rs fees aim cs) : dueV (.lst (rs.map tI)) (tI fees) (tI aim) (tC cs) = none := by
  unfold dueV
  rw [g.cost, dLen_tup, dLen_lst, List.length_map, List.length_map, g.fe, g.rowsK, g.side, g.topsK]
  rfl
theorem Good.due0 (g : Good n rs fees aim cs) : dueV (.lst (rs.map tI)) (tI fees) (tI aim) .non = none := by
  unfold dueV
  rw [g.cost, dLen_tup, dLen_lst, List.length_map, List.length_map, g.fe, g.rowsK, g.side]
  rfl
theorem init_ev (g : Good n rs fees aim cs) : ∃ ρ, f_Plan_init [.lst (rs.map tI), tI fees, tI aim, tC cs] = .ok (flds rs fees aim cs, ρ) := by
  obtain ⟨ρ, e⟩ := init_ok _ _ _ _ (okL_rows rs) (okR_tI fees) (okR_tI aim) (okR_tC cs) g.due
  exact ⟨ρ, e⟩
/-! ### made of a list that is lent -/
theorem jt0 (x1 : SD) (fees aim caps : D) (h1 : okR fees = true) (x5 x6 : SD) : b_Plan_init_0 [.gv, x1, .sh fees, .sh aim, .sh caps, x5, x6] = .ok (!costsOk fees, [.gv, x1, .sh fees, .sh aim, .sh caps, x5, x6]) := by
  cases fees with
  | tup ds =>
    have e1 := row_ev (.tup ds) ds.length h1
    rw [costs_row] at e1
    by_cases c1 : 1 ≤ ds.length
    · have c1' : (1 : Int) ≤ ds.length := by omega
      by_cases c2 : ds.length ≤ 6
      · have c2' : (ds.length : Int) ≤ 6 := by omega
        simp [b_Plan_init_0, isB, e1, costsOk, c1, c2, c1', c2']
      · have c2' : ¬ (ds.length : Int) ≤ 6 := by omega
        simp [b_Plan_init_0, isB, e1, costsOk, c1, c2, c1', c2']
    · have c1' : ¬ (1 : Int) ≤ ds.length := by omega
      simp [b_Plan_init_0, isB, e1, costsOk, c1, c1']
  | ins c fs => cases h1
  | scr ns => cases h1
  | _ => simp [b_Plan_init_0, isB, costsOk]
theorem jt1 (xs : List D) (fees aim caps : D) (n : Nat) (h0 : okL (.lst xs) = true) : b_Plan_init_1 [.gv, .byr xs, .sh fees, .sh aim, .sh caps, .sh (.int n), .no] = .ok (!rowsOk (.lst xs) n, [.gv, .byr xs, .sh fees, .sh aim, .sh caps, .sh (.int n), .no]) := by
  by_cases c : xs.length ≤ 3
  · have c' : ¬ (3 < (xs.length : Int)) := by omega
    simp [b_Plan_init_1, isB, c', c_Plan_init_0, rowsOk, c]
    rw [allrow_ev (n := n)]
    · simp [-pAnyK_lst, all_bl]
    · intro d hd k
      simp [row_ev d n (List.all_eq_true.mp h0 d hd)]
  · have c' : 3 < (xs.length : Int) := by omega
    simp [b_Plan_init_1, isB, c', rowsOk, c]
theorem jt2 (x1 : SD) (fees aim caps : D) (n : Nat) (h3 : okR caps = true) (x6 : SD) : b_Plan_init_2 [.gv, x1, .sh fees, .sh aim, .sh caps, .sh (.int n), x6] = .ok (!topsOk caps n, [.gv, x1, .sh fees, .sh aim, .sh caps, .sh (.int n), x6]) := by
  have e := tops_ev caps n h3
  cases caps with
  | ins c fs => cases h3
  | scr ns => cases h3
  | _ => simp [b_Plan_init_2, e, topsOk, pNotN]
theorem initB_ev (g : Good n rs fees aim cs) : fB_Plan_init [.byr (rs.map tI), .sh (tI fees), .sh (tI aim), .sh (tC cs)] = .ok (.sh (planD rs fees aim cs), [.byr (rs.map tI), .no, .no, .no]) := by
  have ea := row_ev (tI aim) rs.length (okR_tI aim)
  rw [g.side] at ea
  have j0 := jt0 (.byr (rs.map tI)) (tI fees) (tI aim) (tC cs) (okR_tI fees)
  have j1 := jt1 (rs.map tI) (tI fees) (tI aim) (tC cs) n (okL_rows rs)
  have j2 := jt2 (.byr (rs.map tI)) (tI fees) (tI aim) (tC cs) n (okR_tC cs)
  rw [g.cost] at j0
  rw [g.rowsK] at j1
  rw [g.topsK] at j2
  have hf := g.fe
  simp [fB_Plan_init, bodyM, g_Plan_init, j0, j1, j2, ea, hf, pIsN]
theorem initB0_ev (g : Good n rs fees aim cs) (hc : cs = List.replicate n none) : fB_Plan_init [.byr (rs.map tI), .sh (tI fees), .sh (tI aim), .sh .non] = .ok (.sh (planD rs fees aim cs), [.byr (rs.map tI), .no, .no, .no]) := by
  have ea := row_ev (tI aim) rs.length (okR_tI aim)
  rw [g.side] at ea
  have j0 := jt0 (.byr (rs.map tI)) (tI fees) (tI aim) .non (okR_tI fees)
  have j1 := jt1 (rs.map tI) (tI fees) (tI aim) .non n (okL_rows rs)
  have j2 := jt2 (.byr (rs.map tI)) (tI fees) (tI aim) .non n rfl
  rw [g.cost] at j0
  rw [g.rowsK] at j1
  have hf := g.fe
  have hn6 := g.n6
  have em := pMul_rep [D.non] n (by omega) (by simp)
  have s1 : (1 : Nat) ≤ sizeLine := by decide
  subst hc
  simp [fB_Plan_init, bodyM, g_Plan_init, j0, j1, j2, ea, hf, pIsN, topsOk, s1, em]
end
end Lw
end

section
namespace Lw
open PySem PySem.Spec PyProof.Rows L2 Wm
def dotL (xs ys : List Int) : Int := ((xs.zip ys).map fun p => p.1 * p.2).sum
def Sm (xs : List Int) : Prop := ∀ x ∈ xs, x.natAbs < 2 ^ 64
theorem sum_ints (xs : List Int) : pSum [.lst (xs.map D.int)] = .ok (.sh (.int xs.sum)) := by
  show (match asInts (xs.map D.int) with | some ns => Rs.ok (SD.sh (D.int ns.sum)) | none => Rs.bad) = _
  rw [asInts_map]
theorem dotlc {m : Itm} {s0 s1 : SD} (xs ys : List Int) (h : Sm xs) (hm : m.keep [s0, s1, .no, .no]) : lcL m (stT [2, 3]) bYes (xPrim [.va 2, .va 3] pMul) [2, 3] ((xs.zip ys).map fun p => D.tup [.int p.1, .int p.2]) [s0, s1, .no, .no] = .ok (((xs.zip ys).map fun p => p.1 * p.2).map D.int, [s0, s1, .no, .no]) := by
  rw [List.map_map]
  exact lc_mapL fun p hp k => by
    have m1 : IntMulOk p.1 p.2 := mul_okL (h _ (List.of_mem_zip hp).1)
    simp [pMul_int, m1, hm]
theorem dot_ev (xs ys : List Int) (h : Sm xs) : f_dot [.sh (tI xs), .sh (tI ys)] = .ok (.sh (.int (dotL xs ys)), [.no, .no]) := by
  have e0 := zip_ints xs ys
  have := dotlc (m := ⟨(xs.zip ys).map fun p => D.tup [.int p.1, .int p.2], []⟩) (s0 := .sh (tI xs)) (s1 := .sh (tI ys)) xs ys h (by simp)
  have ep := sum_ints ((xs.zip ys).map fun p => p.1 * p.2)
  simp only [List.map_map] at this ep
  simp [f_dot, g_dot, c_dot_0, e0, this, ep, dotL]
theorem ldot_ev (xs ys : List Int) (h : Sm xs) : f__law_dot [.sh (tI xs), .sh (tI ys)] = .ok (.sh (.int (dotL xs ys)), [.no, .no]) := by
  have e0 := zip_ints xs ys
  have := dotlc (m := ⟨(xs.zip ys).map fun p => D.tup [.int p.1, .int p.2], []⟩) (s0 := .sh (tI xs)) (s1 := .sh (tI ys)) xs ys h (by simp)
  have ep := sum_ints ((xs.zip ys).map fun p => p.1 * p.2)
  simp only [List.map_map] at this ep
  simp [f__law_dot, g__law_dot, c__law_dot_0, e0, this, ep, dotL]
/-! ### what is lacking -/
def over : Int × Option Int → Bool
  | (x, some t) => decide (t < x)
  | _ => false
def ovr : Int × Option Int → Int
  | (x, some t) => x - t
  | _ => 0
def lackL (v : List Int) (cs : List (Option Int)) : Int := -(v.filter (· < 0)).sum + (((v.zip cs).filter over).map ovr).sum
def stepL (a : Int) (p : Int × Option Int) : Int := (if p.1 < 0 then a - p.1 else a) + (if over p then ovr p else 0)
theorem fold_lack : ∀ (v : List Int) (cs : List (Option Int)), v.length = cs.length → ∀ a, (v.zip cs).foldl stepL a = a + lackL v cs
  | [], [], _, a => by simp [lackL]
  | x :: v, c :: cs, h, a => by
    have ih := fold_lack v cs (by simpa using h) (stepL a (x, c))
    rw [List.zip_cons_cons, List.foldl_cons, ih]
    have e1 : (((x :: v).filter (· < 0)).sum : Int) = (if x < 0 then x else 0) + (v.filter (· < 0)).sum := by
      by_cases hx : x < 0 <;> simp [hx]
    have e2 : ((((x, c) :: v.zip cs).filter over).map ovr).sum = (if over (x, c) then ovr (x, c) else 0) + (((v.zip cs).filter over).map ovr).sum := by
      by_cases hx : over (x, c) = true
      · simp [hx]
      · simp [hx]
    unfold lackL
    rw [List.zip_cons_cons, e1, e2]
    unfold stepL
    split <;> omega
theorem neg_sum : ∀ v : List Int, (v.filter (· < 0)).sum ≤ 0
  | [] => by simp
  | x :: v => by
    have := neg_sum v
    by_cases hx : x < 0
    · simp [hx]; omega
    · simp [hx]; exact this
theorem ovr_sum : ∀ v : List (Int × Option Int), 0 ≤ ((v.filter over).map ovr).sum
  | [] => by simp
  | (x, none) :: v => by
    have := ovr_sum v
    have : over (x, none) = false := rfl
    simp [this]; exact ovr_sum v
  | (x, some t) :: v => by
    have := ovr_sum v
    by_cases hx : t < x
    · have : over (x, some t) = true := by simp [over, hx]
      simp [this, ovr]; omega
    · have : over (x, some t) = false := by simp [over, hx]
      simp [this]; exact ovr_sum v
theorem lack_nn (v : List Int) (cs : List (Option Int)) : 0 ≤ lackL v cs := by
  unfold lackL
  have := neg_sum v
  have := ovr_sum (v.zip cs)
  omega
theorem zip_tops (v : List Int) (cs : List (Option Int)) : zipD (v.map D.int) (cs.map cD) = (v.zip cs).map fun p => D.tup [.int p.1, cD p.2] := by
  induction v generalizing cs with
  | nil => cases cs <;> rfl
  | cons x v ih =>
    cases cs with
    | nil => rfl
    | cons c cs =>
      simp only [List.map_cons, List.zip_cons_cons]
      rw [← ih]
      rfl
theorem lack_ev (rs : List (List Int)) (fees aim : List Int) (cs : List (Option Int)) (v : List Int) : f_Plan_lack [.sh (planD rs fees aim cs), .sh (tI v)] = .ok (.sh (.int (lackL v cs)), [.no, .no]) := by
  have e0 := zip_tops v cs
  have k0 := lc_filterL (m := ⟨v.map D.int, []⟩) (st := stN 3) (test := bT (xPrim [.va 3, .ex (xC (.int 0))] pLt)) (elt := xVar 3) (vs := [3]) (ρ := [.sh (planD rs fees aim cs), .sh (tI v), .no, .no, .no]) (p := fun x => decide (x < 0)) (f := D.int) (g := D.int) (xs := v) (by
    intro x hx k
    by_cases c : x < 0 <;> simp [c])
  have k1 : ∀ i : Int, lcL ⟨(v.zip cs).map fun p => D.tup [.int p.1, cD p.2], []⟩ (stT [3, 4]) (bAnd (bT (xPrim [.va 4, .ex (xC .non)] pNotN)) (bT (xPrim [.va 3, .va 4] pGt))) (xPrim [.va 3, .va 4] pSub) [3, 4] ((v.zip cs).map fun p => D.tup [.int p.1, cD p.2]) [.sh (planD rs fees aim cs), .sh (tI v), .sh (.int i), .no, .no] = .ok (((v.zip cs).filter over).map fun p => D.int (ovr p), [.sh (planD rs fees aim cs), .sh (tI v), .sh (.int i), .no, .no]) := fun i => lc_filterL (by
    rintro ⟨x, c⟩ hx k
    cases c with
    | none => simp [over, pNotN]
    | some t => by_cases c : t < x <;> simp [over, ovr, pNotN, c])
  have s0 := sum_ints (v.filter (· < 0))
  have s1 := sum_ints (((v.zip cs).filter over).map ovr)
  rw [List.map_map] at s1
  have s1 : pSum [.lst (((v.zip cs).filter over).map fun p => D.int (ovr p))] = .ok (.sh (.int (((v.zip cs).filter over).map ovr).sum)) := s1
  simp [f_Plan_lack, g_Plan_lack, c_Plan_lack_0, c_Plan_lack_1, k0, k1, s0, s1, e0, lackL]
theorem llack_ev (cs : List (Option Int)) (v : List Int) (h : v.length = cs.length) : f__law_lack [.sh (tI v), .sh (tC cs)] = .ok (.sh (.int (lackL v cs)), [.no, .no]) := by
  have e0 := zip_tops v cs
  obtain ⟨ρ, ⟨y3, y4, rfl⟩, e⟩ := for_fold (st := stT [3, 4]) (body := l__law_lack_0) (g := fun (p : Int × Option Int) => D.tup [.int p.1, cD p.2]) (xs := v.zip cs) (fun (a : Int) ρ => ∃ y3 y4, ρ = [.sh (tI v), .sh (tC cs), .sh (.int a), y3, y4]) stepL (by
    rintro ⟨x, c⟩ hx a _ ⟨y3, y4, rfl⟩
    refine ⟨_, ⟨.sh (.int x), .sh (cD c), rfl⟩, fun k => ?_⟩
    cases c with
    | none => by_cases hx : x < 0 <;> simp [l__law_lack_0, stepL, over, pNotN, hx]
    | some t =>
      by_cases hx : x < 0
      · by_cases ht : t < x
        · simp [l__law_lack_0, stepL, over, ovr, pNotN, hx, ht]; rw [show a - x + (x - t) = a - t by omega]
        · simp [l__law_lack_0, stepL, over, ovr, pNotN, hx, ht]
      · by_cases ht : t < x
        · simp [l__law_lack_0, stepL, over, ovr, pNotN, hx, ht]; rw [show a + (x - t) = a + x - t by omega]
        · simp [l__law_lack_0, stepL, over, ovr, pNotN, hx, ht]) (s := 0) (ρ := [.sh (tI v), .sh (tC cs), .sh (.int 0), .no, .no]) ⟨.no, .no, rfl⟩
  rw [fold_lack v cs h, Int.zero_add] at e
  simp [f__law_lack, g__law_lack, e0, e]
end Lw
end

section
namespace Lw
open PySem PySem.Spec PyProof.Rows L2 Wm
section
variable {n : Nat} {rs : List (List Int)} {fees aim : List Int} {cs : List (Option Int)}
theorem dots_eq (rs : List (List Int)) (aim v : List Int) : eqDs (rs.map fun r => D.int (dotL r v)) (aim.map D.int) = ((rs.map fun r => dotL r v) == aim) := by
  rw [← eqDs_ints, List.map_map]
  rfl
theorem dots_ok (m : Nat) (rs : List (List Int)) (v : List Int) : okNs m (rs.map fun r => D.int (dotL r v)) = true := by
  have := okNs_ints m (rs.map fun r => dotL r v)
  rwa [List.map_map] at this
theorem meets_ev (rs : List (List Int)) (aim v : List Int) (h : ∀ r ∈ rs, Sm r) : f_meets [.sh (.tup (rs.map tI)), .sh (tI aim), .sh (tI v)] = .ok (.sh (.bl ((rs.map fun r => dotL r v) == aim)), [.no, .no, .no]) := by
  have k0 : lcL ⟨rs.map tI, []⟩ (stN 3) bYes (xCall f_dot [.va 3, .va 2]) [3] (rs.map tI) [.sh (.tup (rs.map tI)), .sh (tI aim), .sh (tI v), .no] = .ok (rs.map fun r => D.int (dotL r v), [.sh (.tup (rs.map tI)), .sh (tI aim), .sh (tI v), .no]) := lc_mapL fun r hr k => by
    simp [dot_ev r v (h r hr)]
  have o1 : okD (.lst (rs.map fun r => D.int (dotL r v))) = true := dots_ok 59 rs v
  have o2 : okD (.lst (aim.map D.int)) = true := okNs_ints 59 aim
  simp [f_meets, g_meets, c_meets_0, k0, o1, o2, dots_eq]
def hasB (rs : List (List Int)) (aim : List Int) (cs : List (Option Int)) (v : List Int) : Bool := decide (lackL v cs = 0) && ((rs.map fun r => dotL r v) == aim)
theorem wide_ev (g : Good n rs fees aim cs) : f_Plan_wide [.sh (planD rs fees aim cs)] = .ok (.sh (.int n), [.no]) := by
  have hf := g.fe
  simp [f_Plan_wide, g_Plan_wide, hf]
theorem has_ev (g : Good n rs fees aim cs) (v : List Int) (hv : v.length = n) (h : ∀ r ∈ rs, Sm r) : f_Plan_has [.sh (planD rs fees aim cs), .sh (tI v)] = .ok (.sh (.bl (hasB rs aim cs v)), [.no, .no]) := by
  have e1 := row_ev (tI v) n (okR_tI v)
  have e2 : isRow (tI v) n = true := by rw [← hv]; exact isRow_of v
  rw [e2] at e1
  have e3 := lack_ev rs fees aim cs v
  have e4 := meets_ev rs aim v h
  have e5 := wide_ev g
  have nn := lack_nn v cs
  by_cases c : lackL v cs = 0
  · simp [f_Plan_has, g_Plan_has, b_Plan_has_0, e1, e3, e4, e5, c, hasB]
  · have c' : 0 < lackL v cs := by omega
    simp [f_Plan_has, g_Plan_has, b_Plan_has_0, e1, e3, e5, c, c', hasB]
theorem has_no (g : Good n rs fees aim cs) (d : D) (h1 : okR d = true) (h2 : isRow d n = false) : f_Plan_has [.sh (planD rs fees aim cs), .sh d] = .ok (.sh (.bl false), [.no, .no]) := by
  have e1 := row_ev d n h1
  rw [h2] at e1
  have e5 := wide_ev g
  simp [f_Plan_has, g_Plan_has, b_Plan_has_0, e1, e5]
theorem worth_ev (rs : List (List Int)) (fees aim : List Int) (cs : List (Option Int)) (v : List Int) (h : Sm fees) : f_Plan_worth [.sh (planD rs fees aim cs), .sh (tI v)] = .ok (.sh (.int (dotL fees v)), [.no, .no]) := by
  have e := dot_ev fees v h
  simp [f_Plan_worth, g_Plan_worth, e]
abbrev parts (rs : List (List Int)) (fees aim : List Int) (cs : List (Option Int)) : D := .tup [.lst (rs.map tI), tI fees, tI aim, tC cs]
theorem vector_ev (g : Good n rs fees aim cs) (v : List Int) (hv : v.length = n) (h : ∀ r ∈ rs, Sm r) (hf : Sm fees) : f__law_vector_right [.sh (planD rs fees aim cs), .sh (tI v), .sh (parts rs fees aim cs)] = .ok (.sh (.bl true), [.no, .no, .no]) := by
  have e1 := worth_ev rs fees aim cs v hf
  have e2 := ldot_ev fees v hf
  have e3 := lack_ev rs fees aim cs v
  have e4 := llack_ev cs v (by rw [hv, g.cl])
  have e5 := has_ev g v hv h
  have k0 : ∀ x3 x4 : SD, lcL ⟨rs.map tI, []⟩ (stN 9) bYes (xCall f__law_dot [.va 9, .va 1]) [9] (rs.map tI) [.sh (planD rs fees aim cs), .sh (tI v), .sh (parts rs fees aim cs), x3, x4, .sh (.lst (rs.map tI)), .sh (tI fees), .sh (tI aim), .sh (tC cs), .no] = .ok (rs.map fun r => D.int (dotL r v), [.sh (planD rs fees aim cs), .sh (tI v), .sh (parts rs fees aim cs), x3, x4, .sh (.lst (rs.map tI)), .sh (tI fees), .sh (tI aim), .sh (tC cs), .no]) := fun x3 x4 => lc_mapL fun r hr k => by
    simp [ldot_ev r v (h r hr)]
  have o1 : okD (.lst (rs.map fun r => D.int (dotL r v))) = true := dots_ok 59 rs v
  have o2 : okD (.lst (aim.map D.int)) = true := okNs_ints 59 aim
  by_cases c : lackL v cs = 0
  · simp [f__law_vector_right, g__law_vector_right, b__law_vector_right_0, c__law_vector_right_0, e1, e2, e3, e4, e5, c, k0, o1, o2, dots_eq, hasB, isB]
  · simp [f__law_vector_right, g__law_vector_right, b__law_vector_right_0, c__law_vector_right_0, e1, e2, e3, e4, e5, c, k0, o1, o2, dots_eq, hasB, isB]
theorem odd_ev (g : Good n rs fees aim cs) : f__law_odd_right [.sh (planD rs fees aim cs), .sh (.int n)] = .ok (.sh (.bl true), [.no, .no]) := by
  have n1 := g.n1
  have n6 := g.n6
  have q1 := pMul_tup1 (D.int 0) (n + 1) (by omega)
  rw [show ((n + 1 : Nat) : Int) = (n : Int) + 1 by omega] at q1
  have q3 := pMul_tup1 (D.bl true) n (by omega)
  have q4 := pMul_tup1 (D.str "0") n (by omega)
  have q2 := pMul_lst1 (D.int 0) n (by omega)
  have s1 : (1 : Nat) ≤ sizeLine := by decide
  have s7 : (7 : Nat) ≤ sizeLine := by decide
  have kk : ∀ x ∈ [D.non, D.tup (List.replicate (n + 1) (.int 0)), D.lst (List.replicate n (.int 0)), D.tup (List.replicate n (.bl true)), D.tup (List.replicate n (.str "0")), D.int 0, D.str "way"], f_Plan_has [.sh (planD rs fees aim cs), .sh x] = .ok (.sh (.bl false), [.no, .no]) := by
    intro x hx
    refine has_no g x ?_ ?_
    · simp only [List.mem_cons, List.not_mem_nil, or_false] at hx
      rcases hx with rfl | rfl | rfl | rfl | rfl | rfl | rfl
      · rfl
      · exact okR_tup fun d hd => by rw [(List.mem_replicate.mp hd).2]; rfl
      · rfl
      · exact okR_tup fun d hd => by rw [(List.mem_replicate.mp hd).2]; rfl
      · exact okR_tup fun d hd => by rw [(List.mem_replicate.mp hd).2]; rfl
      · rfl
      · rfl
    · obtain ⟨m, rfl⟩ : ∃ m, n = m + 1 := ⟨n - 1, by omega⟩
      simp only [List.mem_cons, List.not_mem_nil, or_false] at hx
      rcases hx with rfl | rfl | rfl | rfl | rfl | rfl | rfl
      · rfl
      · simp [isRow]; omega
      · rfl
      · simp [isRow, List.replicate_succ, isWh]
      · simp [isRow, List.replicate_succ, isWh]
      · rfl
      · rfl
  simp only [List.forall_mem_cons, List.not_mem_nil, false_implies, implies_true, and_true] at kk
  obtain ⟨h1, h2, h3, h4, h5, h6, h7⟩ := kk
  simp [f__law_odd_right, g__law_odd_right, c__law_odd_right_0, q1, q2, q3, q4, s1, s7, h1, h2, h3, h4, h5, h6, h7, pIsBl]
end
end Lw
end

section
namespace Lw
open PySem PySem.Spec PyProof.Rows L2 Wm
section
variable {n : Nat} {rs : List (List Int)} {fees aim : List Int} {cs : List (Option Int)}
abbrev toldD (rs : List (List Int)) (fees aim : List Int) (cs : List (Option Int)) : D := .tup [.tup (rs.map tI), tI fees, tI aim, tC cs]
theorem told_ok (rs : List (List Int)) (fees aim : List Int) (cs : List (Option Int)) : okD (toldD rs fees aim cs) = true := by
  show okNs 59 [.tup (rs.map tI), tI fees, tI aim, tC cs] = true
  have h1 : okN 59 (.tup (rs.map tI)) = true := okNs_rows 57 rs
  have h2 : okN 59 (tI fees) = true := ok_tI 58 fees
  have h3 : okN 59 (tI aim) = true := ok_tI 58 aim
  have h4 : okN 59 (tC cs) = true := okNs_tops 58 cs
  simp only [okNs_cons, okNs_nil, h1, h2, h3, h4, Bool.and_self]
def eqP (rs : List (List Int)) (fees aim : List Int) (cs : List (Option Int)) (rs' : List (List Int)) (fees' aim' : List Int) (cs' : List (Option Int)) : Bool := (rs == rs') && ((fees == fees') && ((aim == aim') && (cs == cs')))
theorem told_eq (rs : List (List Int)) (fees aim : List Int) (cs : List (Option Int)) (rs' : List (List Int)) (fees' aim' : List Int) (cs' : List (Option Int)) : eqD (toldD rs fees aim cs) (toldD rs' fees' aim' cs') = eqP rs fees aim cs rs' fees' aim' cs' := by
  show (eqDs (rs.map tI) (rs'.map tI) && (eqDs (fees.map D.int) (fees'.map D.int) && (eqDs (aim.map D.int) (aim'.map D.int) && (eqDs (cs.map cD) (cs'.map cD) && true)))) = _
  rw [eqDs_rows, eqDs_ints, eqDs_ints, eqDs_tops, Bool.and_true]
  rfl
theorem eqP_refl (rs : List (List Int)) (fees aim : List Int) (cs : List (Option Int)) : eqP rs fees aim cs rs fees aim cs = true := by simp [eqP]
theorem planeq_ev (rs : List (List Int)) (fees aim : List Int) (cs : List (Option Int)) (rs' : List (List Int)) (fees' aim' : List Int) (cs' : List (Option Int)) : f_Plan___eq__ [.sh (planD rs fees aim cs), .sh (planD rs' fees' aim' cs')] = .ok (.sh (.bl (eqP rs fees aim cs rs' fees' aim' cs')), [.no, .no]) := by
  have o1 := told_ok rs fees aim cs
  have o2 := told_ok rs' fees' aim' cs'
  have eq := told_eq rs fees aim cs rs' fees' aim' cs'
  have s4 : (4 : Nat) ≤ sizeLine := by decide
  simp only [toldD] at o1 o2 eq
  simp [-eqD_tup, f_Plan___eq__, g_Plan___eq__, f_Plan_told, g_Plan_told, o1, o2, eq, s4]
theorem planne_ev (rs : List (List Int)) (fees aim : List Int) (cs : List (Option Int)) (ds : List D) : f_Plan___eq__ [.sh (planD rs fees aim cs), .sh (.tup ds)] = .ok (.sh (.bl false), [.no, .no]) := by
  simp [f_Plan___eq__, g_Plan___eq__]
abbrev oI : Option (List Int) → D
  | none => .non
  | some r => tI r
abbrev oC : Option (List (Option Int)) → D
  | none => .non
  | some r => tC r
theorem changed_ev (c s : Option (List Int)) (t : Option (List (Option Int))) (g : Good n rs (c.getD fees) (s.getD aim) (t.getD cs)) : f_Plan_changed [.sh (planD rs fees aim cs), .sh (oI c), .sh (oI s), .sh (oC t)] = .ok (.sh (planD rs (c.getD fees) (s.getD aim) (t.getD cs)), [.no, .no, .no, .no]) := by
  obtain ⟨ρ, e⟩ := init_ev g
  cases c <;> cases s <;> cases t <;> simp only [Option.getD] at e <;> simp [f_Plan_changed, g_Plan_changed, pIsN, e]
theorem rows_ev (rs : List (List Int)) (fees aim : List Int) (cs : List (Option Int)) : f_Plan_rows [.sh (planD rs fees aim cs)] = .ok (.own (rs.map tI), [.no]) := by simp [f_Plan_rows, g_Plan_rows]
theorem costs_ev (rs : List (List Int)) (fees aim : List Int) (cs : List (Option Int)) : f_Plan_costs [.sh (planD rs fees aim cs)] = .ok (.sh (tI fees), [.no]) := by simp [f_Plan_costs, g_Plan_costs]
theorem side_ev (rs : List (List Int)) (fees aim : List Int) (cs : List (Option Int)) : f_Plan_side [.sh (planD rs fees aim cs)] = .ok (.sh (tI aim), [.no]) := by simp [f_Plan_side, g_Plan_side]
theorem toppl_ev (rs : List (List Int)) (fees aim : List Int) (cs : List (Option Int)) : f_Plan_tops [.sh (planD rs fees aim cs)] = .ok (.sh (tC cs), [.no]) := by simp [f_Plan_tops, g_Plan_tops]
end
end Lw
end

section
namespace Lw
open PySem PySem.Spec PyProof.Rows L2 Wm
section
variable {S α : Type} {m : Itm} {st : Tg} {test : Sb} {elt : Sx} {vs : List Nat}
theorem lc_any (g : α → D) {P : α → Prop} (R : S → List SD) : ∀ {ds : List D}, (∀ s, ∀ d ∈ ds, ∃ x s', P x ∧ ∀ k, lcTg m test elt vs k (st d (R s)) = (k (R s')).bind fun q => .ok (g x :: q.1, q.2)) → ∀ s, ∃ (r : List α) (s' : S), lcL m st test elt vs ds (R s) = .ok (r.map g, R s') ∧ r.length = ds.length ∧ ∀ x ∈ r, P x
  | [], _, s => ⟨[], s, rfl, rfl, fun x hx => by cases hx⟩
  | d :: ds, h, s => by
    obtain ⟨x, s1, hp, e⟩ := h s d (by simp)
    obtain ⟨r, s2, e2, hl, hr⟩ := lc_any g R (ds := ds) (fun s d hd => h s d (List.mem_cons_of_mem _ hd)) s1
    refine ⟨x :: r, s2, ?_, by simp [hl], fun y hy => ?_⟩
    · rw [lcL_cons, e, e2]
      rfl
    · rcases List.mem_cons.mp hy with rfl | hy
      · exact hp
      · exact hr y hy
end
/-- None or a number drawn -/
theorem cap_at (a b : Int) (hb : 0 ≤ b ∧ b < 2) : ∃ o : Option Int, atI [D.non, D.int a] b = some (cD o) ∧ (o = none ∨ o = some a) := by
  obtain ⟨x, hx, e⟩ := at_mem [D.non, D.int a] b hb.1 hb.2
  simp only [List.mem_cons, List.not_mem_nil, or_false] at hx
  rcases hx with rfl | rfl
  · exact ⟨none, e, .inl rfl⟩
  · exact ⟨some a, e, .inr rfl⟩
section
variable {n : Nat} {rs : List (List Int)} {fees aim : List Int} {cs : List (Option Int)}
abbrev cst (w : Wl) (n : Nat) (rs : List (List Int)) (fees aim : List Int) (cs : List (Option Int)) (x4 x5 x6 x7 : SD) : List SD := [.byr (wl w), .sh (planD rs fees aim cs), .sh (parts rs fees aim cs), .sh (.int n), x4, x5, x6, x7, .sh (.lst (rs.map tI)), .sh (tI fees), .sh (tI aim), .sh (tC cs), .no, .no]
theorem others_draw (w : Wl) (n : Nat) (rs : List (List Int)) (fees aim : List Int) (cs : List (Option Int)) (hn : n ≤ 100) : ∃ (r : List Int) (w' : Wl), c__law_changed_right_0 (cst w n rs fees aim cs .no .no .no .no) = .ok (.own (r.map D.int), cst w' n rs fees aim cs .no .no .no .no) ∧ r.length = n := by
  have hr : rngOk (n : Int) := rgk (by omega)
  have hs : n ≤ sizeLine := sz (by omega)
  obtain ⟨r, w', e, hl, hp⟩ := lc_any (m := ⟨(List.range n).map fun (k : Nat) => D.int k, []⟩) (st := stN 12) (test := bYes) (elt := xPrim [.ex (xCall f__law_draw [.va 0, .ex (xC (.int 9))]), .ex (xC (.int 4))] pSub) (vs := [12]) (ds := (List.range n).map fun (k : Nat) => D.int k) D.int (P := fun _ => True) (fun w => cst w n rs fees aim cs .no .no .no .no) (by
    intro s d _
    have ed := draw_ev s 9 (by omega) (by omega)
    refine ⟨dr s 9 - 4, dw s 9, trivial, fun k => ?_⟩
    simp [ed]) w
  refine ⟨r, w', ?_, by simpa using hl⟩
  simp [c__law_changed_right_0, hr, hs, e]
theorem far_draw (w : Wl) (n : Nat) (rs : List (List Int)) (fees aim : List Int) (cs : List (Option Int)) (x4 : D) : ∃ (r : List Int) (w' : Wl), c__law_changed_right_1 (cst w n rs fees aim cs (.sh x4) .no .no .no) = .ok (.own (r.map D.int), cst w' n rs fees aim cs (.sh x4) .no .no .no) ∧ r.length = rs.length := by
  obtain ⟨r, w', e, hl, hp⟩ := lc_any (m := ⟨rs.map tI, []⟩) (st := stN 13) (test := bYes) (elt := xPrim [.ex (xCall f__law_draw [.va 0, .ex (xC (.int 9))]), .ex (xC (.int 4))] pSub) (vs := [13]) (ds := rs.map tI) D.int (P := fun _ => True) (fun w => cst w n rs fees aim cs (.sh x4) .no .no .no) (by
    intro s d _
    have ed := draw_ev s 9 (by omega) (by omega)
    refine ⟨dr s 9 - 4, dw s 9, trivial, fun k => ?_⟩
    simp [ed]) w
  refine ⟨r, w', ?_, by simpa using hl⟩
  simp [c__law_changed_right_1, e]
theorem limits_draw (w : Wl) (n : Nat) (rs : List (List Int)) (fees aim : List Int) (cs : List (Option Int)) (x4 x5 : D) (hn : n ≤ 100) : ∃ (r : List (Option Int)) (w' : Wl), c__law_changed_right_2 (cst w n rs fees aim cs (.sh x4) (.sh x5) .no .no) = .ok (.own (r.map cD), cst w' n rs fees aim cs (.sh x4) (.sh x5) .no .no) ∧ r.length = n ∧ ∀ i, some i ∈ r → 0 ≤ i := by
  have hr : rngOk (n : Int) := rgk (by omega)
  have hs : n ≤ sizeLine := sz (by omega)
  have s2 : (2 : Nat) ≤ sizeLine := by decide
  obtain ⟨r, w', e, hl, hp⟩ := lc_any (m := ⟨(List.range n).map fun (k : Nat) => D.int k, []⟩) (st := stN 12) (test := bYes) (elt := xPrim [.ex (xLst [(xC .non), (xCall f__law_draw [.va 0, .ex (xC (.int 9))])]), .ex (xCall f__law_draw [.va 0, .ex (xC (.int 2))])] pIx) (vs := [12]) (ds := (List.range n).map fun (k : Nat) => D.int k) cD (P := fun o => ∀ i, o = some i → 0 ≤ i) (fun w => cst w n rs fees aim cs (.sh x4) (.sh x5) .no .no) (by
    intro s d _
    have ed := draw_ev s 9 (by omega) (by omega)
    have ed2 := draw_ev (dw s 9) 2 (by omega) (by omega)
    have hb := dr_bd s 9 (by omega)
    obtain ⟨o, eo, ho⟩ := cap_at (dr s 9) (dr (dw s 9) 2) (dr_bd _ 2 (by omega))
    refine ⟨o, dw (dw s 9) 2, fun i hi => ?_, fun k => ?_⟩
    · rcases ho with rfl | rfl
      · cases hi
      · cases hi; exact hb.1
    · simp [ed, ed2, s2, eo]) w
  refine ⟨r, w', ?_, by simpa using hl, fun i hi => hp (some i) hi i rfl⟩
  simp [c__law_changed_right_2, hr, hs, e]
theorem eqD_self_rows (rs : List (List Int)) : eqDs (rs.map tI) (rs.map tI) = true := by rw [eqDs_rows]; simp
theorem eqD_self_ints (rs : List Int) : eqDs (rs.map D.int) (rs.map D.int) = true := by rw [eqDs_ints]; simp
theorem eqD_self_tops (rs : List (Option Int)) : eqDs (rs.map cD) (rs.map cD) = true := by rw [eqDs_tops]; simp
theorem okd_rows (rs : List (List Int)) : okNs 59 (rs.map tI) = true := okNs_rows 58 rs
theorem okd_ints (rs : List Int) : okNs 59 (rs.map D.int) = true := okNs_ints 59 rs
theorem okd_tops (rs : List (Option Int)) : okNs 59 (rs.map cD) = true := okNs_tops 59 rs
theorem changedr_ev (w : Wl) (g : Good n rs fees aim cs) : ∃ w', f__law_changed_right [.byr (wl w), .sh (planD rs fees aim cs), .sh (parts rs fees aim cs)] = .ok (.sh (.bl true), [.byr (wl w'), .no, .no]) := by
  obtain ⟨ot, w1, e1, l1⟩ := others_draw w n rs fees aim cs (by have := g.n6; omega)
  obtain ⟨fa, w2, e2, l2⟩ := far_draw w1 n rs fees aim cs (tI ot)
  obtain ⟨li, w3, e3, l3, p3⟩ := limits_draw w2 n rs fees aim cs (tI ot) (tI fa) (by have := g.n6; omega)
  have g1 : Good n rs ot aim cs := { g with fe := l1 }
  have g2 : Good n rs fees fa cs := { g with ai := l2 }
  have g3 : Good n rs fees aim li := { g with cl := l3, c0 := p3 }
  have g4 : Good n rs ot fa li := { g with fe := l1, ai := l2, cl := l3, c0 := p3 }
  have c1 := changed_ev (fees := fees) (aim := aim) (cs := cs) (some ot) none none g1
  have c2 := changed_ev (fees := fees) (aim := aim) (cs := cs) none (some fa) none g2
  have c3 := changed_ev (fees := fees) (aim := aim) (cs := cs) none none (some li) g3
  have c4 := changed_ev (fees := fees) (aim := aim) (cs := cs) (some ot) (some fa) (some li) g4
  have c0 := changed_ev (fees := fees) (aim := aim) (cs := cs) none none none g
  simp only [Option.getD, oI, oC] at c0 c1 c2 c3 c4
  obtain ⟨ρ1, i1⟩ := init_ev g1
  obtain ⟨ρ2, i2⟩ := init_ev g2
  obtain ⟨ρ3, i3⟩ := init_ev g3
  have b0 : b__law_changed_right_0 (cst w3 n rs fees aim cs (.sh (tI ot)) (.sh (tI fa)) (.sh (tC li)) .no) = .ok (false, cst w3 n rs fees aim cs (.sh (tI ot)) (.sh (tI fa)) (.sh (tC li)) .no) := by
    simp [b__law_changed_right_0, c1, i1, planeq_ev, eqP_refl]
  have b1 : b__law_changed_right_1 (cst w3 n rs fees aim cs (.sh (tI ot)) (.sh (tI fa)) (.sh (tC li)) .no) = .ok (false, cst w3 n rs fees aim cs (.sh (tI ot)) (.sh (tI fa)) (.sh (tC li)) .no) := by
    simp [b__law_changed_right_1, c2, i2, planeq_ev, eqP_refl]
  have b2 : b__law_changed_right_2 (cst w3 n rs fees aim cs (.sh (tI ot)) (.sh (tI fa)) (.sh (tC li)) .no) = .ok (false, cst w3 n rs fees aim cs (.sh (tI ot)) (.sh (tI fa)) (.sh (tC li)) .no) := by
    simp [b__law_changed_right_2, c3, i3, c0, planeq_ev, eqP_refl]
  have b3 : b__law_changed_right_3 (cst w3 n rs fees aim cs (.sh (tI ot)) (.sh (tI fa)) (.sh (tC li)) (.sh (planD rs ot fa li))) = .ok (false, cst w3 n rs fees aim cs (.sh (tI ot)) (.sh (tI fa)) (.sh (tC li)) (.sh (planD rs ot fa li))) := by
    simp [b__law_changed_right_3, rows_ev, costs_ev, side_ev, toppl_ev, okd_rows, okd_ints, okd_tops, eqD_self_rows, eqD_self_ints, eqD_self_tops]
  have ee : eqP rs ot aim cs rs fees aim cs = (ot == fees) := by simp [eqP]
  have et : eqDs (ot.map D.int) (fees.map D.int) = (ot == fees) := eqDs_ints ot fees
  have hf := g.fe
  refine ⟨w3, ?_⟩
  simp [f__law_changed_right, g__law_changed_right, hf, e1, e2, e3, b0, b1, b2, c4, b3, c1, planeq_ev, ee, et, okd_ints]
end
end Lw
end

section
namespace Lw
open PySem PySem.Spec PyProof.Rows L2 Wm
abbrev rst (w : Wl) (n : Int) (x2 x3 x4 x5 x6 x7 x8 x9 x10 x11 : SD) : List SD := [.byr (wl w), .sh (.int n), x2, x3, x4, x5, x6, x7, x8, x9, x10, x11, .no, .no]
theorem row_draw (w : Wl) (n : Nat) (x11 : SD) (hn : n ≤ 100) : ∃ (r : List Int) (w' : Wl), c__law_right_0 (rst w n .no .no .no .no .no .no .no .no .no x11) = .ok (.own (r.map D.int), rst w' n .no .no .no .no .no .no .no .no .no x11) ∧ r.length = n ∧ Sm r := by
  have hr : rngOk (n : Int) := rgk (by omega)
  have hs : n ≤ sizeLine := sz (by omega)
  obtain ⟨r, w', e, hl, hp⟩ := lc_any (m := ⟨(List.range n).map fun (k : Nat) => D.int k, []⟩) (st := stN 12) (test := bYes) (elt := xPrim [.ex (xCall f__law_draw [.va 0, .ex (xC (.int 7))]), .ex (xC (.int 3))] pSub) (vs := [12]) (ds := (List.range n).map fun (k : Nat) => D.int k) D.int (P := fun x => x.natAbs < 2 ^ 64) (fun w => rst w n .no .no .no .no .no .no .no .no .no x11) (by
    intro s d _
    have hb := dr_bd s 7 (by omega)
    have ed := draw_ev s 7 (by omega) (by omega)
    refine ⟨dr s 7 - 3, dw s 7, by omega, fun k => ?_⟩
    simp [ed]) w
  refine ⟨r, w', ?_, by simpa using hl, hp⟩
  simp [c__law_right_0, hr, hs, e]
theorem rows_draw (w : Wl) (n : Nat) (hn : n ≤ 100) : ∃ (rs : List (List Int)) (w' : Wl), c__law_right_1 (rst w n .no .no .no .no .no .no .no .no .no .no) = .ok (.own (rs.map tI), rst w' n .no .no .no .no .no .no .no .no .no .no) ∧ rs.length ≤ 3 ∧ ∀ r ∈ rs, r.length = n ∧ Sm r := by
  have hd := dr_bd w 4 (by omega)
  have ed := draw_ev w 4 (by omega) (by omega)
  obtain ⟨m, hm⟩ : ∃ m : Nat, dr w 4 = (m : Int) := ⟨(dr w 4).toNat, by omega⟩
  have hr : rngOk (m : Int) := rgk (by omega)
  have hs : m ≤ sizeLine := sz (by omega)
  obtain ⟨rs, w', e, hl, hp⟩ := lc_any (m := ⟨(List.range m).map fun (k : Nat) => D.int k, []⟩) (st := stN 11) (test := bYes) (elt := xPrim [.ex c__law_right_0] pTuple) (vs := [11]) (ds := (List.range m).map fun (k : Nat) => D.int k) tI (P := fun r => r.length = n ∧ Sm r) (fun w => rst w n .no .no .no .no .no .no .no .no .no .no) (by
    intro s d _
    obtain ⟨r, w1, e1, h1⟩ := row_draw s n (.sh d) hn
    refine ⟨r, w1, h1, fun k => ?_⟩
    simp [e1]) (dw w 4)
  refine ⟨rs, w', ?_, by have : rs.length = m := by simpa using hl
                         omega, hp⟩
  rw [hm] at ed
  simp [c__law_right_1, ed, hr, hs, e]
theorem fees_draw (w : Wl) (n : Nat) (x2 : SD) (hn : n ≤ 100) : ∃ (r : List Int) (w' : Wl), c__law_right_2 (rst w n x2 .no .no .no .no .no .no .no .no .no) = .ok (.own (r.map D.int), rst w' n x2 .no .no .no .no .no .no .no .no .no) ∧ r.length = n ∧ Sm r := by
  have hr : rngOk (n : Int) := rgk (by omega)
  have hs : n ≤ sizeLine := sz (by omega)
  have hp9 : CPow 10 9 := by decide
  have m2 : ∀ x, IntMulOk 2 x := fun x => mul_okL (by decide)
  obtain ⟨r, w', e, hl, hp⟩ := lc_any (m := ⟨(List.range n).map fun (k : Nat) => D.int k, []⟩) (st := stN 12) (test := bYes) (elt := (xPrim [.ex (xCall f__law_draw [.va 0, .ex (xPrim [.ex (xC (.int 2)), .ex (xPrim [.ex (xC (.int 10)), .ex (xC (.int 9))] pPow)] pMul)]), .ex (xPrim [.ex (xC (.int 10)), .ex (xC (.int 9))] pPow)] pSub)) (vs := [12]) (ds := (List.range n).map fun (k : Nat) => D.int k) D.int (P := fun x => x.natAbs < 2 ^ 64) (fun w => rst w n x2 .no .no .no .no .no .no .no .no .no) (by
    intro s d _
    have hb := dr_bd s 2000000000 (by omega)
    have ed := draw_ev s 2000000000 (by omega) (by omega)
    refine ⟨dr s 2000000000 - 1000000000, dw s 2000000000, by omega, fun k => ?_⟩
    simp [ed, hp9, pMul_int, m2]) w
  refine ⟨r, w', ?_, by simpa using hl, hp⟩
  simp [c__law_right_2, hr, hs, e]
theorem way_draw (w : Wl) (n : Nat) (x2 x3 : SD) (hn : n ≤ 100) : ∃ (r : List Int) (w' : Wl), c__law_right_3 (rst w n x2 x3 .no .no .no .no .no .no .no .no) = .ok (.own (r.map D.int), rst w' n x2 x3 .no .no .no .no .no .no .no .no) ∧ r.length = n := by
  have hr : rngOk (n : Int) := rgk (by omega)
  have hs : n ≤ sizeLine := sz (by omega)
  obtain ⟨r, w', e, hl, hp⟩ := lc_any (m := ⟨(List.range n).map fun (k : Nat) => D.int k, []⟩) (st := stN 12) (test := bYes) (elt := (xCall f__law_draw [.va 0, .ex (xC (.int 4))])) (vs := [12]) (ds := (List.range n).map fun (k : Nat) => D.int k) D.int (P := fun x => True) (fun w => rst w n x2 x3 .no .no .no .no .no .no .no .no) (by
    intro s d _
    have ed := draw_ev s 4 (by omega) (by omega)
    refine ⟨dr s 4, dw s 4, trivial, fun k => ?_⟩
    simp [ed]) w
  refine ⟨r, w', ?_, by simpa using hl⟩
  simp [c__law_right_3, hr, hs, e]
theorem aim_ev (w : Wl) (n : Nat) (rs : List (List Int)) (way : List Int) (x3 : SD) (h : ∀ r ∈ rs, Sm r) : c__law_right_4 (rst w n (.own (rs.map tI)) x3 (.sh (tI way)) .no .no .no .no .no .no .no) = .ok (.own ((rs.map fun r => dotL r way).map D.int), rst w n (.own (rs.map tI)) x3 (.sh (tI way)) .no .no .no .no .no .no .no) := by
  have k0 : lcL ⟨rs.map tI, [(2, .own (rs.map tI))]⟩ (stN 13) bYes (xCall f__law_dot [.va 13, .va 4]) [13] (rs.map tI) (rst w n (.own (rs.map tI)) x3 (.sh (tI way)) .no .no .no .no .no .no .no) = .ok (rs.map fun r => D.int (dotL r way), rst w n (.own (rs.map tI)) x3 (.sh (tI way)) .no .no .no .no .no .no .no) := lc_mapL fun r hr k => by
    simp [ldot_ev r way (h r hr)]
  rw [List.map_map]
  simp [c__law_right_4, k0, Function.comp_def]
theorem caps_draw (w : Wl) (n : Nat) (x2 x3 x4 x5 : SD) (hn : n ≤ 100) : ∃ (r : List (Option Int)) (w' : Wl), c__law_right_5 (rst w n x2 x3 x4 x5 .no .no .no .no .no .no) = .ok (.own (r.map cD), rst w' n x2 x3 x4 x5 .no .no .no .no .no .no) ∧ r.length = n ∧ ∀ i, some i ∈ r → 0 ≤ i := by
  have hr : rngOk (n : Int) := rgk (by omega)
  have hs : n ≤ sizeLine := sz (by omega)
  have s2 : (2 : Nat) ≤ sizeLine := by decide
  obtain ⟨r, w', e, hl, hp⟩ := lc_any (m := ⟨(List.range n).map fun (k : Nat) => D.int k, []⟩) (st := stN 12) (test := bYes) (elt := xPrim [.ex (xLst [(xC .non), (xCall f__law_draw [.va 0, .ex (xC (.int 6))])]), .ex (xCall f__law_draw [.va 0, .ex (xC (.int 2))])] pIx) (vs := [12]) (ds := (List.range n).map fun (k : Nat) => D.int k) cD (P := fun o => ∀ i, o = some i → 0 ≤ i) (fun w => rst w n x2 x3 x4 x5 .no .no .no .no .no .no) (by
    intro s d _
    have ed := draw_ev s 6 (by omega) (by omega)
    have ed2 := draw_ev (dw s 6) 2 (by omega) (by omega)
    have hb := dr_bd s 6 (by omega)
    obtain ⟨o, eo, ho⟩ := cap_at (dr s 6) (dr (dw s 6) 2) (dr_bd _ 2 (by omega))
    refine ⟨o, dw (dw s 6) 2, fun i hi => ?_, fun k => ?_⟩
    · rcases ho with rfl | rfl
      · cases hi
      · cases hi; exact hb.1
    · simp [ed, ed2, s2, eo]) w
  refine ⟨r, w', ?_, by simpa using hl, fun i hi => hp (some i) hi i rfl⟩
  simp [c__law_right_5, hr, hs, e]
theorem vec_draw (w : Wl) (n : Nat) (x2 x3 x4 x5 x6 x7 x10 : SD) (hn : n ≤ 100) : ∃ (r : List Int) (w' : Wl), c__law_right_6 (rst w n x2 x3 x4 x5 x6 x7 .no .no x10 .no) = .ok (.own (r.map D.int), rst w' n x2 x3 x4 x5 x6 x7 .no .no x10 .no) ∧ r.length = n := by
  have hr : rngOk (n : Int) := rgk (by omega)
  have hs : n ≤ sizeLine := sz (by omega)
  obtain ⟨r, w', e, hl, hp⟩ := lc_any (m := ⟨(List.range n).map fun (k : Nat) => D.int k, []⟩) (st := stN 12) (test := bYes) (elt := (xPrim [.ex (xCall f__law_draw [.va 0, .ex (xC (.int 9))]), .ex (xC (.int 3))] pSub)) (vs := [12]) (ds := (List.range n).map fun (k : Nat) => D.int k) D.int (P := fun x => True) (fun w => rst w n x2 x3 x4 x5 x6 x7 .no .no x10 .no) (by
    intro s d _
    have ed := draw_ev s 9 (by omega) (by omega)
    refine ⟨dr s 9 - 3, dw s 9, trivial, fun k => ?_⟩
    simp [ed]) w
  refine ⟨r, w', ?_, by simpa using hl⟩
  simp [c__law_right_6, hr, hs, e]
end Lw
end

section
namespace Lw
open PySem PySem.Spec PyProof.Rows L2 Wm
noncomputable def tailS : Ss := (sSeq (sApp 7 (xC .non))
    (sSeq (sAppT (xMeth "Plan" "rows" 10 (permF [.arg 0] [0] f_Plan_rows) []))
    (sSeq (sIf b__law_right_0 (sRet (xC (.bl false))) sNil)
    (sSeq (sFor (con (.ex (xLst [(xVar 4), (xPrim [.ex c__law_right_6] pTuple), (xPrim [.ex (xTup [(xC (.int 0))]), .va 1] pMul), (xPrim [.ex (xTup [(xPrim [.ex (xC (.int 1))] pNeg)]), .va 1] pMul)]))) (stN 8) l__law_right_7)
    (sSeq (sIf b__law_right_2 (sRet (xC (.bl false))) sNil)
    (sSeq (sIf b__law_right_3 (sRet (xC (.bl false))) sNil)
    (sSeq (sSet 9 (xMake "Plan" f_Plan_init [.arg 1, .arg 2, .arg 3, .arg 4] [.ex (xPrim [.va 2] pRevA), .ex (xVar 3), .ex (xPrim [.va 5] pRevA), .ex (xVar 6)]))
    (sSeq (sIf b__law_right_4 (sRet (xC (.bl false))) sNil)
    (sRet (xAnd (xCall (eqF "Plan" f_Plan___eq__) [.va 10, .ex (xMake "Plan" f_Plan_init [.arg 1, .arg 2, .arg 3, .arg 4] [.ex (xVar 2), .ex (xVar 3), .ex (xVar 5), .ex (xVar 6)])]) (xCall (neF "Plan" f_Plan___eq__) [.va 10, .ex (xTup [(xVar 2), (xVar 3), (xVar 5), (xVar 6)])])))))))))))
section
variable {n : Nat} {rs : List (List Int)} {fees aim : List Int} {cs : List (Option Int)}
theorem Good.rev (g : Good n rs fees aim cs) : Good n rs.reverse fees aim.reverse cs := { g with m3 := by simpa using g.m3, rw := fun r hr => g.rw r (by simpa using hr), ai := by simpa using g.ai }
theorem vec_rep (g : Good n rs fees aim cs) (x : Int) (h : ∀ r ∈ rs, Sm r) (hf : Sm fees) : f__law_vector_right [.sh (planD rs fees aim cs), .sh (.tup (List.replicate n (.int x))), .sh (parts rs fees aim cs)] = .ok (.sh (.bl true), [.no, .no, .no]) := by
  have := vector_ev g (List.replicate n x) (by simp) h hf
  rw [show tI (List.replicate n x) = D.tup (List.replicate n (.int x)) by simp [tI]] at this
  exact this
theorem tail_ev (g : Good n rs fees aim cs) (w : Wl) (way : List Int) (hw : way.length = n) (h : ∀ r ∈ rs, Sm r) (hf : Sm fees) : ∃ w' x2 x3 x4 x5 x6 x7 x8 x9 x10 x11, tailS (rst w n (.own (rs.map tI)) (.sh (tI fees)) (.sh (tI way)) (.sh (tI aim)) (.sh (tC cs)) (.own (rs.map tI)) .no .no (.sh (planD rs fees aim cs)) .no) = .ok (.rt (.sh (.bl true)) (rst w' n x2 x3 x4 x5 x6 x7 x8 x9 x10 x11)) := by
  have n6 := g.n6
  have m3 := g.m3
  have sl : rs.length < sizeLine := szlt (by omega)
  have s1 : (1 : Nat) ≤ sizeLine := by decide
  have s4 : (4 : Nat) ≤ sizeLine := by decide
  obtain ⟨v, w1, e1, l1⟩ := vec_draw w n (.own (rs.map tI)) (.sh (tI fees)) (.sh (tI way)) (.sh (tI aim)) (.sh (tC cs)) (.own (rs.map tI ++ [.non])) (.sh (planD rs fees aim cs)) (by omega)
  have q1 := pMul_tup1 (D.int 0) n (by omega)
  have q2 := pMul_tup1 (D.int (-1)) n (by omega)
  have v1 := vector_ev g way hw h hf
  have v2 := vector_ev g v l1 h hf
  have v3 := vec_rep g 0 h hf
  have v4 := vec_rep g (-1) h hf
  have wd := wide_ev g
  have od := odd_ev g
  obtain ⟨w2, ch⟩ := changedr_ev w1 g
  obtain ⟨ρ1, i1⟩ := init_ev g.rev
  obtain ⟨ρ2, i2⟩ := init_ev g
  have ap : sAppT (xMeth "Plan" "rows" 10 (permF [.arg 0] [0] f_Plan_rows) []) (rst w n (.own (rs.map tI)) (.sh (tI fees)) (.sh (tI way)) (.sh (tI aim)) (.sh (tC cs)) (.own (rs.map tI ++ [.non])) .no .no (.sh (planD rs fees aim cs)) .no) = .ok (.nx (rst w n (.own (rs.map tI)) (.sh (tI fees)) (.sh (tI way)) (.sh (tI aim)) (.sh (tC cs)) (.own (rs.map tI ++ [.non])) .no .no (.sh (planD rs fees aim cs)) .no)) := by
    refine sAppT_own _ _ _ (rs.map tI) ?_ (by simpa using sl)
    simp [rows_ev]
  have b0 : b__law_right_0 (rst w n (.own (rs.map tI)) (.sh (tI fees)) (.sh (tI way)) (.sh (tI aim)) (.sh (tC cs)) (.own (rs.map tI ++ [.non])) .no .no (.sh (planD rs fees aim cs)) .no) = .ok (false, rst w n (.own (rs.map tI)) (.sh (tI fees)) (.sh (tI way)) (.sh (tI aim)) (.sh (tC cs)) (.own (rs.map tI ++ [.non])) .no .no (.sh (planD rs fees aim cs)) .no) := by
    simp [b__law_right_0, rows_ev, costs_ev, side_ev, toppl_ev, okd_rows, okd_ints, okd_tops, eqD_self_rows, eqD_self_ints, eqD_self_tops]
  have er : eqDs (rs.reverse.map tI) (rs.map tI) = (rs.reverse == rs) := eqDs_rows _ _
  have ea : eqDs (aim.reverse.map D.int) (aim.map D.int) = (aim.reverse == aim) := eqDs_ints _ _
  have ee : eqP rs.reverse fees aim.reverse cs rs fees aim cs = ((rs.reverse == rs) && (aim.reverse == aim)) := by simp [eqP]
  have b4 : ∀ (w : Wl) (x7 x8 : SD), b__law_right_4 (rst w n (.sh (.lst (rs.map tI))) (.sh (tI fees)) (.sh (tI way)) (.sh (tI aim)) (.sh (tC cs)) x7 x8 (.sh (planD rs.reverse fees aim.reverse cs)) (.sh (planD rs fees aim cs)) .no) = .ok (false, rst w n (.sh (.lst (rs.map tI))) (.sh (tI fees)) (.sh (tI way)) (.sh (tI aim)) (.sh (tC cs)) x7 x8 (.sh (planD rs.reverse fees aim.reverse cs)) (.sh (planD rs fees aim cs)) .no) := fun w x7 x8 => by
    cases hr : (rs.reverse == rs) with
    | true => 
      rw [hr] at er ee
      simp [-List.map_reverse, ← List.map_reverse, b__law_right_4, planeq_ev, ee, er, ea, okd_rows, okd_ints]
    | false => 
      rw [hr] at er ee
      simp [-List.map_reverse, ← List.map_reverse, b__law_right_4, planeq_ev, ee, er, ea, okd_rows, okd_ints]
  refine ⟨w2, .sh (.lst (rs.map tI)), .sh (tI fees), .sh (tI way), .sh (tI aim), .sh (tC cs), .own (rs.map tI ++ [.non]), .sh (.tup (List.replicate n (.int (-1)))), .sh (planD rs.reverse fees aim.reverse cs), .sh (planD rs fees aim cs), .no, ?_⟩
  unfold tailS
  rw [seq_nx (ρ' := rst w n (.own (rs.map tI)) (.sh (tI fees)) (.sh (tI way)) (.sh (tI aim)) (.sh (tC cs)) (.own (rs.map tI ++ [.non])) .no .no (.sh (planD rs fees aim cs)) .no) (by simp [sl]), seq_nx ap, seq_nx (ρ' := rst w n (.own (rs.map tI)) (.sh (tI fees)) (.sh (tI way)) (.sh (tI aim)) (.sh (tC cs)) (.own (rs.map tI ++ [.non])) .no .no (.sh (planD rs fees aim cs)) .no) (by simp [b0])]
  rw [seq_nx (ρ' := rst w1 n (.sh (.lst (rs.map tI))) (.sh (tI fees)) (.sh (tI way)) (.sh (tI aim)) (.sh (tC cs)) (.own (rs.map tI ++ [.non])) (.sh (.tup (List.replicate n (.int (-1))))) .no (.sh (planD rs fees aim cs)) .no) (by
    simp [e1, q1, q2, s1, s4, l__law_right_7, b__law_right_1, v1, v2, v3, v4])]
  rw [seq_nx (ρ' := rst w1 n (.sh (.lst (rs.map tI))) (.sh (tI fees)) (.sh (tI way)) (.sh (tI aim)) (.sh (tC cs)) (.own (rs.map tI ++ [.non])) (.sh (.tup (List.replicate n (.int (-1))))) .no (.sh (planD rs fees aim cs)) .no) (by
    simp [b__law_right_2, wd, od])]
  rw [seq_nx (ρ' := rst w2 n (.sh (.lst (rs.map tI))) (.sh (tI fees)) (.sh (tI way)) (.sh (tI aim)) (.sh (tC cs)) (.own (rs.map tI ++ [.non])) (.sh (.tup (List.replicate n (.int (-1))))) .no (.sh (planD rs fees aim cs)) .no) (by
    simp [b__law_right_3, ch, s4])]
  rw [seq_nx (ρ' := rst w2 n (.sh (.lst (rs.map tI))) (.sh (tI fees)) (.sh (tI way)) (.sh (tI aim)) (.sh (tC cs)) (.own (rs.map tI ++ [.non])) (.sh (.tup (List.replicate n (.int (-1))))) (.sh (planD rs.reverse fees aim.reverse cs)) (.sh (planD rs fees aim cs)) .no) (by
    simp [-List.map_reverse, ← List.map_reverse, i1])]
  rw [seq_nx (ρ' := rst w2 n (.sh (.lst (rs.map tI))) (.sh (tI fees)) (.sh (tI way)) (.sh (tI aim)) (.sh (tC cs)) (.own (rs.map tI ++ [.non])) (.sh (.tup (List.replicate n (.int (-1))))) (.sh (planD rs.reverse fees aim.reverse cs)) (.sh (planD rs fees aim cs)) .no) (by
    simp [b4])]
  simp [i2, planeq_ev, eqP_refl, planne_ev, s4]
end
end Lw
end

section
namespace Lw
open PySem PySem.Spec PyProof.Rows L2 Wm
theorem right_eq : g__law_right = (sSeq (sSet 1 (xPrim [.ex (xC (.int 1)), .ex (xCall f__law_draw [.va 0, .ex (xC (.int 6))])] pAdd))
    (sSeq (sSet 2 c__law_right_1)
    (sSeq (sSet 3 (xPrim [.ex c__law_right_2] pTuple))
    (sSeq (sSet 4 (xPrim [.ex c__law_right_3] pTuple))
    (sSeq (sSet 5 (xPrim [.ex c__law_right_4] pTuple))
    (sSeq (sSet 6 (xPrim [.ex c__law_right_5] pTuple))
    (sSeq (sSet 7 (xPrim [.va 2] pList))
    (sSeq (sIf (bT (xPrim [.ex (xCall f__law_draw [.va 0, .ex (xC (.int 3))]), .ex (xC (.int 0))] pEq)) (sSeq (sSet 6 (xPrim [.ex (xTup [(xC .non)]), .va 1] pMul))
    (sSet 10 (xCall (permF [.arg 0, .arg 1, .arg 2, .dfN] [0, 1, 2] fB_Plan_init) [.va 7, .ex (xVar 3), .ex (xVar 5)]))) (sSet 10 (xCall (permF [.arg 0, .arg 1, .arg 2, .arg 3] [0, 1, 2, 3] fB_Plan_init) [.va 7, .ex (xVar 3), .ex (xVar 5), .ex (xVar 6)])))
    tailS)))))))) := (rfl)
def TrF (r : Rs (SD × List SD)) : Prop := ∃ w', r = .ok (.sh (.bl true), [.byr (wl w')])
theorem right_ev (w : Wl) : TrF (f__law_right [.byr (wl w)]) := by
  have hd := dr_bd w 6 (by omega)
  have ed := draw_ev w 6 (by omega) (by omega)
  obtain ⟨n, hn⟩ : ∃ n : Nat, 1 + dr w 6 = (n : Int) := ⟨(1 + dr w 6).toNat, by omega⟩
  have n1 : 1 ≤ n := by omega
  have n6 : n ≤ 6 := by omega
  obtain ⟨rs, w1, e1, m3, hr⟩ := rows_draw (dw w 6) n (by omega)
  obtain ⟨fees, w2, e2, lf, hf⟩ := fees_draw w1 n (.own (rs.map tI)) (by omega)
  obtain ⟨way, w3, e3, lw⟩ := way_draw w2 n (.own (rs.map tI)) (.sh (tI fees)) (by omega)
  have e4 := aim_ev w3 n rs way (.sh (tI fees)) fun r h => (hr r h).2
  generalize ha : (rs.map fun r => dotL r way) = aim at e4
  have la : aim.length = rs.length := by rw [← ha]; simp
  obtain ⟨cs, w4, e5, lc, c0⟩ := caps_draw w3 n (.own (rs.map tI)) (.sh (tI fees)) (.sh (tI way)) (.sh (tI aim)) (by omega)
  have g : Good n rs fees aim cs := ⟨n1, n6, m3, fun r h => (hr r h).1, lf, la, lc, c0⟩
  have c00 : ∀ i, some i ∈ List.replicate n (none : Option Int) → 0 ≤ i := fun i hi => by
    have := (List.mem_replicate.mp hi).2
    cases this
  have g0 : Good n rs fees aim (List.replicate n none) := { g with cl := by simp, c0 := c00 }
  have ed3 := draw_ev w4 3 (by omega) (by omega)
  have q1 := pMul_tup1 D.non n (by omega)
  have s1 : (1 : Nat) ≤ sizeLine := by decide
  have bi := initB_ev g
  have b0 := initB0_ev g0 rfl
  obtain ⟨v1, a2, a3, a4, a5, a6, a7, a8, a9, a10, a11, t1⟩ := tail_ev g (dw w4 3) way lw (fun r h => (hr r h).2) hf
  obtain ⟨v0, z2, z3, z4, z5, z6, z7, z8, z9, z10, z11, t0⟩ := tail_ev g0 (dw w4 3) way lw (fun r h => (hr r h).2) hf
  have pre : ∀ (g : Ss), sSeq (sSet 1 (xPrim [.ex (xC (.int 1)), .ex (xCall f__law_draw [.va 0, .ex (xC (.int 6))])] pAdd))
    (sSeq (sSet 2 c__law_right_1)
    (sSeq (sSet 3 (xPrim [.ex c__law_right_2] pTuple))
    (sSeq (sSet 4 (xPrim [.ex c__law_right_3] pTuple))
    (sSeq (sSet 5 (xPrim [.ex c__law_right_4] pTuple))
    (sSeq (sSet 6 (xPrim [.ex c__law_right_5] pTuple))
    (sSeq (sSet 7 (xPrim [.va 2] pList)) g)))))) [.byr (wl w), .no, .no, .no, .no, .no, .no, .no, .no, .no, .no, .no, .no, .no] = g (rst w4 n (.own (rs.map tI)) (.sh (tI fees)) (.sh (tI way)) (.sh (tI aim)) (.sh (tC cs)) (.own (rs.map tI)) .no .no .no .no) := fun g => by
    rw [seq_nx (ρ' := rst (dw w 6) n .no .no .no .no .no .no .no .no .no .no) (by simp [ed, hn]), seq_nx (ρ' := rst w1 n (.own (rs.map tI)) .no .no .no .no .no .no .no .no .no) (by simp [e1]), seq_nx (ρ' := rst w2 n (.own (rs.map tI)) (.sh (tI fees)) .no .no .no .no .no .no .no .no) (by simp [e2]),
      seq_nx (ρ' := rst w3 n (.own (rs.map tI)) (.sh (tI fees)) (.sh (tI way)) .no .no .no .no .no .no .no) (by simp [e3]), seq_nx (ρ' := rst w3 n (.own (rs.map tI)) (.sh (tI fees)) (.sh (tI way)) (.sh (tI aim)) .no .no .no .no .no .no) (by simp [e4]),
      seq_nx (ρ' := rst w4 n (.own (rs.map tI)) (.sh (tI fees)) (.sh (tI way)) (.sh (tI aim)) (.sh (tC cs)) .no .no .no .no .no) (by simp [e5]), seq_nx (ρ' := rst w4 n (.own (rs.map tI)) (.sh (tI fees)) (.sh (tI way)) (.sh (tI aim)) (.sh (tC cs)) (.own (rs.map tI)) .no .no .no .no) (by simp)]
  by_cases c : dr w4 3 = 0
  · rw [c] at ed3
    refine ⟨v0, ?_⟩
    have : g__law_right [.byr (wl w), .no, .no, .no, .no, .no, .no, .no, .no, .no, .no, .no, .no, .no] = .ok (.rt (.sh (.bl true)) (rst v0 n z2 z3 z4 z5 z6 z7 z8 z9 z10 z11)) := by
      rw [right_eq, pre, seq_nx (ρ' := rst (dw w4 3) n (.own (rs.map tI)) (.sh (tI fees)) (.sh (tI way)) (.sh (tI aim)) (.sh (tC (List.replicate n none))) (.own (rs.map tI)) .no .no (.sh (planD rs fees aim (List.replicate n none))) .no) (by simp [ed3, q1, s1, b0]), t0]
    simp [f__law_right, this]
  · refine ⟨v1, ?_⟩
    have : g__law_right [.byr (wl w), .no, .no, .no, .no, .no, .no, .no, .no, .no, .no, .no, .no, .no] = .ok (.rt (.sh (.bl true)) (rst v1 n a2 a3 a4 a5 a6 a7 a8 a9 a10 a11)) := by
      rw [right_eq, pre, seq_nx (ρ' := rst (dw w4 3) n (.own (rs.map tI)) (.sh (tI fees)) (.sh (tI way)) (.sh (tI aim)) (.sh (tC cs)) (.own (rs.map tI)) .no .no (.sh (planD rs fees aim cs)) .no) (by simp [ed3, c, bi]), t1]
    simp [f__law_right, this]
abbrev fst' (ns : List Int) (x1 x2 : SD) : List SD := [.sh (.scr ns), x1, x2]
theorem cells_ev (ns : List Int) : ∀ (ds : List (Int × Nat)) (x1 x2 : SD), (∀ p ∈ ds, p.2 ≤ 100) → ∃ x1' x2', forL (stT [1, 2]) l_law_0 (ds.map fun (p : Int × Nat) => D.tup [.int (p.2 : Nat), .int p.1]) (fst' ns x1 x2) = .ok (.nx (fst' ns x1' x2'))
  | [], x1, x2, _ => ⟨x1, x2, rfl⟩
  | (c, i) :: ds, x1, x2, h => by
    obtain ⟨x1', x2', e⟩ := cells_ev ns ds (.sh (.int (i : Nat))) (.sh (.int c)) fun p hp => h p (List.mem_cons_of_mem _ hp)
    refine ⟨x1', x2', ?_⟩
    have hi := h (c, i) (by simp)
    have hi : i ≤ 100 := hi
    have hp : CPow 10 18 := by decide
    have k1 : IntMulOk c (if 1000000000000000000 ≤ c then 1 else 0) := mul_okR (by split <;> decide)
    have k2 : ∀ y, IntMulOk 7919 y := fun y => mul_okL (by decide)
    have hs3 : (3 : Nat) ≤ sizeLine := by decide
    obtain ⟨W, rv⟩ : ∃ W : Int → Int → Int → Wl, ∀ a b c, f__law_right [.byr [.int a, .int b, .int c]] = .ok (.sh (.bl true), [.byr (wl (W a b c))]) := ⟨fun a b c => Classical.choose (right_ev ⟨a, b, c⟩), fun a b c => Classical.choose_spec (right_ev ⟨a, b, c⟩)⟩
    rw [← e, List.map_cons, forL_cons]
    simp [l_law_0, b_law_0, hp, pMul_int, k1, k2, hs3, rv]
theorem law_true (ns : List Int) (hl : ns.length ≤ 63) : ∃ ρ, f_law [.sh (.scr ns)] = .ok (.sh (.bl true), ρ) := by
  have hs1 : (1 : Nat) ≤ sizeLine := by decide
  have hsn : ns.length + 1 ≤ sizeLine := sz (by omega)
  have hcut : pSlHi [.lst (ns.map D.int ++ [.int 0]), .int 6] = .ok (.own (((ns ++ [0]).take 6).map D.int)) := by
    rw [slHi_lst _ _ (by omega)]
    simp
  have hen : enumD (((ns ++ [0]).take 6).map D.int) = (((ns ++ [0]).take 6).zipIdx).map (fun (p : Int × Nat) => D.tup [.int (p.2 : Nat), .int p.1]) := enum_map _
  obtain ⟨x1, x2, e⟩ := cells_ev ns ((ns ++ [0]).take 6).zipIdx .no .no (fun p hp => by
    have := (List.mem_zipIdx_iff_getElem?.mp hp)
    have := (List.getElem?_eq_some_iff.mp this).1
    simp at this
    omega)
  refine ⟨[.no], ?_⟩
  simp [-List.map_take, f_law, g_law, hs1, hsn, hcut, hen, e]
end Lw
end

section
namespace Lw
open PySem PySem.Spec PyProof.Rows L2 Wm
theorem all_mk {P : Program} {w : World} {K : PySem.W.Frag} {h : Heap} {mg : Str → Option Value} {fa : Addr} (X : K.In h) (G : h.Ns mainGlobals mg) (hfa : mg "law" = some (.ref fa))
    {x0 : Addr} {oc0 kV0 dc0 pm0 cd0 ct0 : Value} {od0 an0 : Option Addr} {sl0 : Array (Option Value)}
    {x1 : Addr} {oc1 kV1 dc1 pm1 cd1 ct1 : Value} {od1 an1 : Option Addr} {sl1 : Array (Option Value)}
    {x2 : Addr} {oc2 kV2 dc2 pm2 cd2 ct2 : Value} {od2 an2 : Option Addr} {sl2 : Array (Option Value)}
    {x3 Dk3 : Addr} {oc3  dc3 pm3 cd3 ct3 : Value} {od3 an3 : Option Addr} {sl3 : Array (Option Value)}
    {CP0 : Addr}
    {x4 : Addr} {oc4 kV4 dc4 pm4 cd4 ct4 : Value} {od4 an4 : Option Addr} {sl4 : Array (Option Value)}
    {x5 : Addr} {oc5 kV5 dc5 pm5 cd5 ct5 : Value} {od5 an5 : Option Addr} {sl5 : Array (Option Value)}
    {x6 : Addr} {oc6 kV6 dc6 pm6 cd6 ct6 : Value} {od6 an6 : Option Addr} {sl6 : Array (Option Value)}
    {x7 Dk7 : Addr} {oc7  dc7 pm7 cd7 ct7 : Value} {od7 an7 : Option Addr} {sl7 : Array (Option Value)}
    {x8 : Addr} {oc8 kV8 dc8 pm8 cd8 ct8 : Value} {od8 an8 : Option Addr} {sl8 : Array (Option Value)}
    {x9 : Addr} {oc9 kV9 dc9 pm9 cd9 ct9 : Value} {od9 an9 : Option Addr} {sl9 : Array (Option Value)}
    {x10 : Addr} {oc10 kV10 dc10 pm10 cd10 ct10 : Value} {od10 an10 : Option Addr} {sl10 : Array (Option Value)}
    {x11 : Addr} {oc11 kV11 dc11 pm11 cd11 ct11 : Value} {od11 an11 : Option Addr} {sl11 : Array (Option Value)}
    {x12 : Addr} {oc12 kV12 dc12 pm12 cd12 ct12 : Value} {od12 an12 : Option Addr} {sl12 : Array (Option Value)}
    {x13 : Addr} {oc13 kV13 dc13 pm13 cd13 ct13 : Value} {od13 an13 : Option Addr} {sl13 : Array (Option Value)}
    {x14 : Addr} {oc14 kV14 dc14 pm14 cd14 ct14 : Value} {od14 an14 : Option Addr} {sl14 : Array (Option Value)}
    {x15 : Addr} {oc15 kV15 dc15 pm15 cd15 ct15 : Value} {od15 an15 : Option Addr} {sl15 : Array (Option Value)}
    {x16 : Addr} {oc16 kV16 dc16 pm16 cd16 ct16 : Value} {od16 an16 : Option Addr} {sl16 : Array (Option Value)}
    {x17 : Addr} {oc17 kV17 dc17 pm17 cd17 ct17 : Value} {od17 an17 : Option Addr} {sl17 : Array (Option Value)}
    {x18 : Addr} {oc18 kV18 dc18 pm18 cd18 ct18 : Value} {od18 an18 : Option Addr} {sl18 : Array (Option Value)}
    {x19 : Addr} {oc19 kV19 dc19 pm19 cd19 ct19 : Value} {od19 an19 : Option Addr} {sl19 : Array (Option Value)}
    {x20 : Addr} {oc20 kV20 dc20 pm20 cd20 ct20 : Value} {od20 an20 : Option Addr} {sl20 : Array (Option Value)}
    {x21 : Addr} {oc21 kV21 dc21 pm21 cd21 ct21 : Value} {od21 an21 : Option Addr} {sl21 : Array (Option Value)}
    {x22 : Addr} {oc22 kV22 dc22 pm22 cd22 ct22 : Value} {od22 an22 : Option Addr} {sl22 : Array (Option Value)}
    {x23 : Addr} {oc23 kV23 dc23 pm23 cd23 ct23 : Value} {od23 an23 : Option Addr} {sl23 : Array (Option Value)}
    {x24 : Addr} {oc24 kV24 dc24 pm24 cd24 ct24 : Value} {od24 an24 : Option Addr} {sl24 : Array (Option Value)}
    {CW : Addr}
    {C0 fI0 NN0 : Addr} {nm0 qq0 : Str} {bs0 sub0 : List Value} {sn0 : List Str} {ab0 : Bool} {col0 : Option Bool} {dd0 : Option Addr} {ma0 mb0 mc0 md0 me0 : Option Value} {ioc0 ikV0 idc0 ipm0 icd0 ict0 : Value} {iod0 ian0 : Option Addr} {isl0 : Array (Option Value)}
    {tg_MOST_ROWS : Tok}
    {tg_MOST_UNKNOWNS : Tok}
    (a0 : PySem.W.nsIn K mainGlobals "is_whole" = some (some (.ref x0)))
    (l0 : K.lookup x0 = some ⟨oc0, od0, .func (PySem.W.fnOf "is_whole" "is_whole" (defArgs s_is_whole) (defBody s_is_whole) (defScope s_is_whole) .none kV0 dc0 pm0 an0 cd0 ct0), sl0⟩)
    (c0 : PySem.W.codeIn K cd0 "is_whole" = true)
    (k0 : PySem.W.keepIn K (.ref x0) = true)
    (a1 : PySem.W.nsIn K mainGlobals "is_row" = some (some (.ref x1)))
    (l1 : K.lookup x1 = some ⟨oc1, od1, .func (PySem.W.fnOf "is_row" "is_row" (defArgs s_is_row) (defBody s_is_row) (defScope s_is_row) .none kV1 dc1 pm1 an1 cd1 ct1), sl1⟩)
    (c1 : PySem.W.codeIn K cd1 "is_row" = true)
    (k1 : PySem.W.keepIn K (.ref x1) = true)
    (a2 : PySem.W.nsIn K mainGlobals "are_tops" = some (some (.ref x2)))
    (l2 : K.lookup x2 = some ⟨oc2, od2, .func (PySem.W.fnOf "are_tops" "are_tops" (defArgs s_are_tops) (defBody s_are_tops) (defScope s_are_tops) .none kV2 dc2 pm2 an2 cd2 ct2), sl2⟩)
    (c2 : PySem.W.codeIn K cd2 "are_tops" = true)
    (k2 : PySem.W.keepIn K (.ref x2) = true)
    (aP0 : PySem.W.nsIn K mainGlobals "Plan" = some (some (.ref CP0)))
    (fm3 : PySem.W.findIn K (.ref CP0) "__init__" = some (some (.ref x3)))
    (ff3 : PySem.W.isFn K (.ref x3) = true)
    (mkc0 : PySem.W.makesIn K CP0 = true)
    (kP0 : PySem.W.keepIn K (.ref CP0) = true)
    (l3 : K.lookup x3 = some ⟨oc3, od3, .func (PySem.W.fnOf "__init__" "Plan.__init__" (defArgs s_Plan_init) (defBody s_Plan_init) (defScope s_Plan_init) .none (.ref Dk3) dc3 pm3 an3 cd3 ct3), sl3⟩)
    (c3 : PySem.W.codeIn K cd3 "Plan.__init__" = true)
    (k3 : PySem.W.keepIn K (.ref x3) = true)
    (d3_tops : PySem.W.nsIn K Dk3 "tops" = some (some .none))
    (a4 : PySem.W.nsIn K mainGlobals "_law_draw" = some (some (.ref x4)))
    (l4 : K.lookup x4 = some ⟨oc4, od4, .func (PySem.W.fnOf "_law_draw" "_law_draw" (defArgs s__law_draw) (defBody s__law_draw) (defScope s__law_draw) .none kV4 dc4 pm4 an4 cd4 ct4), sl4⟩)
    (c4 : PySem.W.codeIn K cd4 "_law_draw" = true)
    (k4 : PySem.W.keepIn K (.ref x4) = true)
    (fm5 : PySem.W.findIn K (.ref CP0) "told" = some (some (.ref x5)))
    (ff5 : PySem.W.isFn K (.ref x5) = true)
    (l5 : K.lookup x5 = some ⟨oc5, od5, .func (PySem.W.fnOf "told" "Plan.told" (defArgs s_Plan_told) (defBody s_Plan_told) (defScope s_Plan_told) .none kV5 dc5 pm5 an5 cd5 ct5), sl5⟩)
    (c5 : PySem.W.codeIn K cd5 "Plan.told" = true)
    (k5 : PySem.W.keepIn K (.ref x5) = true)
    (fm6 : PySem.W.findIn K (.ref CP0) "__eq__" = some (some (.ref x6)))
    (ff6 : PySem.W.isFn K (.ref x6) = true)
    (l6 : K.lookup x6 = some ⟨oc6, od6, .func (PySem.W.fnOf "__eq__" "Plan.__eq__" (defArgs s_Plan___eq__) (defBody s_Plan___eq__) (defScope s_Plan___eq__) .none kV6 dc6 pm6 an6 cd6 ct6), sl6⟩)
    (c6 : PySem.W.codeIn K cd6 "Plan.__eq__" = true)
    (k6 : PySem.W.keepIn K (.ref x6) = true)
    (fm7 : PySem.W.findIn K (.ref CP0) "changed" = some (some (.ref x7)))
    (ff7 : PySem.W.isFn K (.ref x7) = true)
    (l7 : K.lookup x7 = some ⟨oc7, od7, .func (PySem.W.fnOf "changed" "Plan.changed" (defArgs s_Plan_changed) (defBody s_Plan_changed) (defScope s_Plan_changed) .none (.ref Dk7) dc7 pm7 an7 cd7 ct7), sl7⟩)
    (c7 : PySem.W.codeIn K cd7 "Plan.changed" = true)
    (k7 : PySem.W.keepIn K (.ref x7) = true)
    (d7_costs : PySem.W.nsIn K Dk7 "costs" = some (some .none))
    (d7_side : PySem.W.nsIn K Dk7 "side" = some (some .none))
    (d7_tops : PySem.W.nsIn K Dk7 "tops" = some (some .none))
    (fm8 : PySem.W.findIn K (.ref CP0) "rows" = some (some (.ref x8)))
    (ff8 : PySem.W.isFn K (.ref x8) = true)
    (l8 : K.lookup x8 = some ⟨oc8, od8, .func (PySem.W.fnOf "rows" "Plan.rows" (defArgs s_Plan_rows) (defBody s_Plan_rows) (defScope s_Plan_rows) .none kV8 dc8 pm8 an8 cd8 ct8), sl8⟩)
    (c8 : PySem.W.codeIn K cd8 "Plan.rows" = true)
    (k8 : PySem.W.keepIn K (.ref x8) = true)
    (fm9 : PySem.W.findIn K (.ref CP0) "costs" = some (some (.ref x9)))
    (ff9 : PySem.W.isFn K (.ref x9) = true)
    (l9 : K.lookup x9 = some ⟨oc9, od9, .func (PySem.W.fnOf "costs" "Plan.costs" (defArgs s_Plan_costs) (defBody s_Plan_costs) (defScope s_Plan_costs) .none kV9 dc9 pm9 an9 cd9 ct9), sl9⟩)
    (c9 : PySem.W.codeIn K cd9 "Plan.costs" = true)
    (k9 : PySem.W.keepIn K (.ref x9) = true)
    (fm10 : PySem.W.findIn K (.ref CP0) "side" = some (some (.ref x10)))
    (ff10 : PySem.W.isFn K (.ref x10) = true)
    (l10 : K.lookup x10 = some ⟨oc10, od10, .func (PySem.W.fnOf "side" "Plan.side" (defArgs s_Plan_side) (defBody s_Plan_side) (defScope s_Plan_side) .none kV10 dc10 pm10 an10 cd10 ct10), sl10⟩)
    (c10 : PySem.W.codeIn K cd10 "Plan.side" = true)
    (k10 : PySem.W.keepIn K (.ref x10) = true)
    (fm11 : PySem.W.findIn K (.ref CP0) "tops" = some (some (.ref x11)))
    (ff11 : PySem.W.isFn K (.ref x11) = true)
    (l11 : K.lookup x11 = some ⟨oc11, od11, .func (PySem.W.fnOf "tops" "Plan.tops" (defArgs s_Plan_tops) (defBody s_Plan_tops) (defScope s_Plan_tops) .none kV11 dc11 pm11 an11 cd11 ct11), sl11⟩)
    (c11 : PySem.W.codeIn K cd11 "Plan.tops" = true)
    (k11 : PySem.W.keepIn K (.ref x11) = true)
    (a12 : PySem.W.nsIn K mainGlobals "_law_changed_right" = some (some (.ref x12)))
    (l12 : K.lookup x12 = some ⟨oc12, od12, .func (PySem.W.fnOf "_law_changed_right" "_law_changed_right" (defArgs s__law_changed_right) (defBody s__law_changed_right) (defScope s__law_changed_right) .none kV12 dc12 pm12 an12 cd12 ct12), sl12⟩)
    (c12 : PySem.W.codeIn K cd12 "_law_changed_right" = true)
    (k12 : PySem.W.keepIn K (.ref x12) = true)
    (a13 : PySem.W.nsIn K mainGlobals "_law_dot" = some (some (.ref x13)))
    (l13 : K.lookup x13 = some ⟨oc13, od13, .func (PySem.W.fnOf "_law_dot" "_law_dot" (defArgs s__law_dot) (defBody s__law_dot) (defScope s__law_dot) .none kV13 dc13 pm13 an13 cd13 ct13), sl13⟩)
    (c13 : PySem.W.codeIn K cd13 "_law_dot" = true)
    (k13 : PySem.W.keepIn K (.ref x13) = true)
    (a14 : PySem.W.nsIn K mainGlobals "dot" = some (some (.ref x14)))
    (l14 : K.lookup x14 = some ⟨oc14, od14, .func (PySem.W.fnOf "dot" "dot" (defArgs s_dot) (defBody s_dot) (defScope s_dot) .none kV14 dc14 pm14 an14 cd14 ct14), sl14⟩)
    (c14 : PySem.W.codeIn K cd14 "dot" = true)
    (k14 : PySem.W.keepIn K (.ref x14) = true)
    (a15 : PySem.W.nsIn K mainGlobals "meets" = some (some (.ref x15)))
    (l15 : K.lookup x15 = some ⟨oc15, od15, .func (PySem.W.fnOf "meets" "meets" (defArgs s_meets) (defBody s_meets) (defScope s_meets) .none kV15 dc15 pm15 an15 cd15 ct15), sl15⟩)
    (c15 : PySem.W.codeIn K cd15 "meets" = true)
    (k15 : PySem.W.keepIn K (.ref x15) = true)
    (fm16 : PySem.W.findIn K (.ref CP0) "lack" = some (some (.ref x16)))
    (ff16 : PySem.W.isFn K (.ref x16) = true)
    (l16 : K.lookup x16 = some ⟨oc16, od16, .func (PySem.W.fnOf "lack" "Plan.lack" (defArgs s_Plan_lack) (defBody s_Plan_lack) (defScope s_Plan_lack) .none kV16 dc16 pm16 an16 cd16 ct16), sl16⟩)
    (c16 : PySem.W.codeIn K cd16 "Plan.lack" = true)
    (k16 : PySem.W.keepIn K (.ref x16) = true)
    (fm17 : PySem.W.findIn K (.ref CP0) "wide" = some (some (.ref x17)))
    (ff17 : PySem.W.isFn K (.ref x17) = true)
    (l17 : K.lookup x17 = some ⟨oc17, od17, .func (PySem.W.fnOf "wide" "Plan.wide" (defArgs s_Plan_wide) (defBody s_Plan_wide) (defScope s_Plan_wide) .none kV17 dc17 pm17 an17 cd17 ct17), sl17⟩)
    (c17 : PySem.W.codeIn K cd17 "Plan.wide" = true)
    (k17 : PySem.W.keepIn K (.ref x17) = true)
    (fm18 : PySem.W.findIn K (.ref CP0) "has" = some (some (.ref x18)))
    (ff18 : PySem.W.isFn K (.ref x18) = true)
    (l18 : K.lookup x18 = some ⟨oc18, od18, .func (PySem.W.fnOf "has" "Plan.has" (defArgs s_Plan_has) (defBody s_Plan_has) (defScope s_Plan_has) .none kV18 dc18 pm18 an18 cd18 ct18), sl18⟩)
    (c18 : PySem.W.codeIn K cd18 "Plan.has" = true)
    (k18 : PySem.W.keepIn K (.ref x18) = true)
    (fm19 : PySem.W.findIn K (.ref CP0) "worth" = some (some (.ref x19)))
    (ff19 : PySem.W.isFn K (.ref x19) = true)
    (l19 : K.lookup x19 = some ⟨oc19, od19, .func (PySem.W.fnOf "worth" "Plan.worth" (defArgs s_Plan_worth) (defBody s_Plan_worth) (defScope s_Plan_worth) .none kV19 dc19 pm19 an19 cd19 ct19), sl19⟩)
    (c19 : PySem.W.codeIn K cd19 "Plan.worth" = true)
    (k19 : PySem.W.keepIn K (.ref x19) = true)
    (a20 : PySem.W.nsIn K mainGlobals "_law_lack" = some (some (.ref x20)))
    (l20 : K.lookup x20 = some ⟨oc20, od20, .func (PySem.W.fnOf "_law_lack" "_law_lack" (defArgs s__law_lack) (defBody s__law_lack) (defScope s__law_lack) .none kV20 dc20 pm20 an20 cd20 ct20), sl20⟩)
    (c20 : PySem.W.codeIn K cd20 "_law_lack" = true)
    (k20 : PySem.W.keepIn K (.ref x20) = true)
    (a21 : PySem.W.nsIn K mainGlobals "_law_vector_right" = some (some (.ref x21)))
    (l21 : K.lookup x21 = some ⟨oc21, od21, .func (PySem.W.fnOf "_law_vector_right" "_law_vector_right" (defArgs s__law_vector_right) (defBody s__law_vector_right) (defScope s__law_vector_right) .none kV21 dc21 pm21 an21 cd21 ct21), sl21⟩)
    (c21 : PySem.W.codeIn K cd21 "_law_vector_right" = true)
    (k21 : PySem.W.keepIn K (.ref x21) = true)
    (a22 : PySem.W.nsIn K mainGlobals "_law_odd_right" = some (some (.ref x22)))
    (l22 : K.lookup x22 = some ⟨oc22, od22, .func (PySem.W.fnOf "_law_odd_right" "_law_odd_right" (defArgs s__law_odd_right) (defBody s__law_odd_right) (defScope s__law_odd_right) .none kV22 dc22 pm22 an22 cd22 ct22), sl22⟩)
    (c22 : PySem.W.codeIn K cd22 "_law_odd_right" = true)
    (k22 : PySem.W.keepIn K (.ref x22) = true)
    (a23 : PySem.W.nsIn K mainGlobals "_law_right" = some (some (.ref x23)))
    (l23 : K.lookup x23 = some ⟨oc23, od23, .func (PySem.W.fnOf "_law_right" "_law_right" (defArgs s__law_right) (defBody s__law_right) (defScope s__law_right) .none kV23 dc23 pm23 an23 cd23 ct23), sl23⟩)
    (c23 : PySem.W.codeIn K cd23 "_law_right" = true)
    (k23 : PySem.W.keepIn K (.ref x23) = true)
    (a24 : PySem.W.nsIn K mainGlobals "law" = some (some (.ref x24)))
    (l24 : K.lookup x24 = some ⟨oc24, od24, .func (PySem.W.fnOf "law" "law" (defArgs s_law) (defBody s_law) (defScope s_law) .none kV24 dc24 pm24 an24 cd24 ct24), sl24⟩)
    (c24 : PySem.W.codeIn K cd24 "law" = true)
    (k24 : PySem.W.keepIn K (.ref x24) = true)
    (aW : PySem.W.nsIn K mainGlobals "WayError" = some (some (.ref CW)))
    (gaW : PySem.W.specialIn K (.ref CW) "__getattribute__" = some (some (.builtin "type.__getattribute__")))
    (rdW : PySem.W.readsIn K CW (.type "type") = true)
    (vVW : PySem.W.findCls K (.ref CW) (.type "type") "__init__" = some (.val (.builtin "ValueError.__init__")))
    (aC0 : PySem.W.nsIn K mainGlobals "NoPlan" = some (some (.ref C0)))
    (xL0 : K.lookup C0 = some (excClassObj nm0 qq0 C0 NN0 bs0 [.ref CW, .type "ValueError", .type "Exception", .type "BaseException", .type "object"] true sn0 sub0 ab0 col0 dd0 ma0 mb0 mc0 md0 me0 "ValueError.__new__"))
    (sa0 : PySem.W.findIn K (.ref C0) "__setattr__" = some (some (.builtin "object.__setattr__")))
    (ga0 : PySem.W.findIn K (.ref C0) "__getattribute__" = some (some (.builtin "BaseException.__getattribute__")))
    (gg0 : PySem.W.findIn K (.ref C0) "__getattr__" = some none)
    (nf0_what : PySem.W.findIn K (.ref C0) "what" = some none)
    (ii0 : PySem.W.findIn K (.ref C0) "__init__" = some (some (.ref fI0)))
    (ti0 : PySem.W.typeIn K (.ref fI0) = some (.type "function"))
    (li0 : K.lookup fI0 = some ⟨ioc0, iod0, .func (PySem.W.fnOf "__init__" "NoPlan.__init__" (defArgs s_NoPlan_init) (defBody s_NoPlan_init) (defScope s_NoPlan_init) .none ikV0 idc0 ipm0 ian0 icd0 ict0), isl0⟩)
    (ci0 : PySem.W.codeIn K icd0 "NoPlan.__init__" = true)
    (ki0 : PySem.W.keepIn K (.ref fI0) = true)
    (kC0 : PySem.W.keepIn K (.ref C0) = true)
    (eC0 : PySem.W.subIn K (.ref C0) (.type "BaseException") = some true)
    (tC0 : PySem.W.typeIn K (.ref C0) = some (.type "type"))
    (hC0 : PySem.W.hasDictIn K C0 = true)
    (iC0 : PySem.W.isClsIn K C0 = true)
    (pg0 : PySem.W.plainGet K CP0 Str.empty = true)
    (hdP0 : PySem.W.hasDictIn K CP0 = true)
    (po0 : PySem.W.plainOver K CP0 = true)
    (saP0 : PySem.W.findIn K (.ref CP0) "__setattr__" = some (some (.builtin "object.__setattr__")))
    (nP0_kept_rows : PySem.W.findIn K (.ref CP0) "kept_rows" = some none)
    (nP0_kept_costs : PySem.W.findIn K (.ref CP0) "kept_costs" = some none)
    (nP0_kept_side : PySem.W.findIn K (.ref CP0) "kept_side" = some none)
    (nP0_kept_tops : PySem.W.findIn K (.ref CP0) "kept_tops" = some none)
    (icl0 : PySem.W.findIn K (.ref CP0) "__class__" = some (some (.builtin "object.__class__")))
    (isp0 : PySem.W.specialIn K (.builtin "object.__class__") "__get__" = some (some (.builtin "getset_descriptor.__get__")))
    (itk0 : PySem.W.takesIn K (.builtin "object.__class__") = some true)
    (imr0 : PySem.W.mroIn K CP0 (.type "object") = some true)
    (ikt0 : PySem.W.kitOne K (.type "tuple") (.ref CP0) = some false)
    (nne0 : PySem.W.findIn K (.ref CP0) "__ne__" = some (some (.builtin "object.__ne__")))
    (nob0 : PySem.W.subIn K (.ref CP0) (.type "object") = some true)
    (nnt0 : PySem.W.subIn K (.type "tuple") (.ref CP0) = some false)
    (g_MOST_ROWS : PySem.W.nsIn K mainGlobals "MOST_ROWS" = some (some (.int 3 tg_MOST_ROWS)))
    (g_MOST_UNKNOWNS : PySem.W.nsIn K mainGlobals "MOST_UNKNOWNS" = some (some (.int 6 tg_MOST_UNKNOWNS)))
    (z_all : PySem.W.nsIn K mainGlobals "all" = some none)
    (z_bool : PySem.W.nsIn K mainGlobals "bool" = some none)
    (z_enumerate : PySem.W.nsIn K mainGlobals "enumerate" = some none)
    (z_int : PySem.W.nsIn K mainGlobals "int" = some none)
    (z_isinstance : PySem.W.nsIn K mainGlobals "isinstance" = some none)
    (z_len : PySem.W.nsIn K mainGlobals "len" = some none)
    (z_list : PySem.W.nsIn K mainGlobals "list" = some none)
    (z_range : PySem.W.nsIn K mainGlobals "range" = some none)
    (z_sum : PySem.W.nsIn K mainGlobals "sum" = some none)
    (z_tuple : PySem.W.nsIn K mainGlobals "tuple" = some none)
    (z_zip : PySem.W.nsIn K mainGlobals "zip" = some none) :
    ∃ fd : FuncData, (∀ (s : Shared) (v : Value), BindsTo s fd ⟨[v], []⟩ [("_law_script", v)]) ∧ ∀ base : Heap, K.In base → base.Ns mainGlobals mg → FnOk P w K mg base (L2.CX P w) 8 fa fd ["_law_script"] (spA K 1 f_law) := by
  have e := hfa.symm.trans (PySem.W.mg_of X G a24)
  cases e
  exact ⟨_, fun s v => .of_eq rfl, fun base _ _ => spA_ok (ok_law (cl := clOf [("NoPlan", C0), ("Plan", CP0)]) ⟨_, _, fun_mk (st := s_is_whole) l0 c0 k0, PySem.W.mg_of X G a0,
    (fun_mk (st := s_is_whole) l0 c0 k0).binds fun _ _ _ _ _ _ us hl => match us, hl with | [_], _ => rfl,
    _, _, fun_mk (st := s_is_row) l1 c1 k1, PySem.W.mg_of X G a1,
    (fun_mk (st := s_is_row) l1 c1 k1).binds fun _ _ _ _ _ _ us hl => match us, hl with | [_, _], _ => rfl,
    _, _, fun_mk (st := s_are_tops) l2 c2 k2, PySem.W.mg_of X G a2,
    (fun_mk (st := s_are_tops) l2 c2 k2).binds fun _ _ _ _ _ _ us hl => match us, hl with | [_, _], _ => rfl,
    _, _, fun_mk (st := s_Plan_init) l3 c3 k3, ⟨mkc0, fm3, ff3, kP0⟩,
    _, _, fun_mk (st := s__law_draw) l4 c4 k4, PySem.W.mg_of X G a4,
    (fun_mk (st := s__law_draw) l4 c4 k4).binds fun _ _ _ _ _ _ us hl => match us, hl with | [_, _], _ => rfl,
    _, _, fun_mk (st := s_Plan_told) l5 c5 k5, ⟨fm5, ff5, k5⟩,
    _, _, fun_mk (st := s_Plan___eq__) l6 c6 k6, ⟨fm6, ff6, k6⟩,
    (fun_mk (st := s_Plan___eq__) l6 c6 k6).binds fun _ _ _ _ _ _ us hl => match us, hl with | [_, _], _ => rfl,
    _, _, fun_mk (st := s_Plan_changed) l7 c7 k7, ⟨fm7, ff7, k7⟩,
    _, _, fun_mk (st := s_Plan_rows) l8 c8 k8, ⟨fm8, ff8, k8⟩,
    _, _, fun_mk (st := s_Plan_costs) l9 c9 k9, ⟨fm9, ff9, k9⟩,
    _, _, fun_mk (st := s_Plan_side) l10 c10 k10, ⟨fm10, ff10, k10⟩,
    _, _, fun_mk (st := s_Plan_tops) l11 c11 k11, ⟨fm11, ff11, k11⟩,
    _, _, fun_mk (st := s__law_changed_right) l12 c12 k12, PySem.W.mg_of X G a12,
    (fun_mk (st := s__law_changed_right) l12 c12 k12).binds fun _ _ _ _ _ _ us hl => match us, hl with | [_, _, _], _ => rfl,
    _, _, fun_mk (st := s__law_dot) l13 c13 k13, PySem.W.mg_of X G a13,
    (fun_mk (st := s__law_dot) l13 c13 k13).binds fun _ _ _ _ _ _ us hl => match us, hl with | [_, _], _ => rfl,
    _, _, fun_mk (st := s_dot) l14 c14 k14, PySem.W.mg_of X G a14,
    (fun_mk (st := s_dot) l14 c14 k14).binds fun _ _ _ _ _ _ us hl => match us, hl with | [_, _], _ => rfl,
    _, _, fun_mk (st := s_meets) l15 c15 k15, PySem.W.mg_of X G a15,
    (fun_mk (st := s_meets) l15 c15 k15).binds fun _ _ _ _ _ _ us hl => match us, hl with | [_, _, _], _ => rfl,
    _, _, fun_mk (st := s_Plan_lack) l16 c16 k16, ⟨fm16, ff16, k16⟩,
    _, _, fun_mk (st := s_Plan_wide) l17 c17 k17, ⟨fm17, ff17, k17⟩,
    _, _, fun_mk (st := s_Plan_has) l18 c18 k18, ⟨fm18, ff18, k18⟩,
    _, _, fun_mk (st := s_Plan_worth) l19 c19 k19, ⟨fm19, ff19, k19⟩,
    _, _, fun_mk (st := s__law_lack) l20 c20 k20, PySem.W.mg_of X G a20,
    (fun_mk (st := s__law_lack) l20 c20 k20).binds fun _ _ _ _ _ _ us hl => match us, hl with | [_, _], _ => rfl,
    _, _, fun_mk (st := s__law_vector_right) l21 c21 k21, PySem.W.mg_of X G a21,
    (fun_mk (st := s__law_vector_right) l21 c21 k21).binds fun _ _ _ _ _ _ us hl => match us, hl with | [_, _, _], _ => rfl,
    _, _, fun_mk (st := s__law_odd_right) l22 c22 k22, PySem.W.mg_of X G a22,
    (fun_mk (st := s__law_odd_right) l22 c22 k22).binds fun _ _ _ _ _ _ us hl => match us, hl with | [_, _], _ => rfl,
    _, _, fun_mk (st := s__law_right) l23 c23 k23, PySem.W.mg_of X G a23,
    (fun_mk (st := s__law_right) l23 c23 k23).binds fun _ _ _ _ _ _ us hl => match us, hl with | [_], _ => rfl,
    _, _, fun_mk (st := s_law) l24 c24 k24, PySem.W.mg_of X G a24,
    (fun_mk (st := s_law) l24 c24 k24).binds fun _ _ _ _ _ _ us hl => match us, hl with | [_], _ => rfl,
    kbs_mk (sel := [.arg 0]) [.inl 0] 0 [] ⟨rfl, trivial⟩ (fun q hq => by cases hq) (fun us ws h1 h2 => match us, ws, h1, h2 with | [u0], [], _, _ => rfl),
    kbs_mk (sel := [.arg 0, .arg 1, .arg 2, .arg 3, .arg 4]) [.inl 0, .inl 1, .inl 2, .inl 3, .inl 4] 0 [] ⟨rfl, ⟨rfl, ⟨rfl, ⟨rfl, ⟨rfl, trivial⟩⟩⟩⟩⟩ (fun q hq => by cases hq) (fun us ws h1 h2 => match us, ws, h1, h2 with | [u0, u1], [w0, w1, w2], _, _ => rfl),
    kbs_mk (sel := [.arg 0, .arg 1, .dfN, .dfN]) [.inl 0, .inl 1, .inr .none, .inr .none] Dk7 [("side", .none), ("tops", .none)] ⟨rfl, ⟨rfl, ⟨rfl, ⟨rfl, trivial⟩⟩⟩⟩ (fun q hq => by
      simp only [List.mem_cons, List.not_mem_nil, or_false] at hq
      rcases hq with rfl | rfl
      · exact d7_side
      · exact d7_tops) (fun us ws h1 h2 => match us, ws, h1, h2 with | [u0], [w0], _, _ => ⟨_, _, _, _, _, _, rfl, rfl, ⟨_, _, _, _, _, _, rfl, rfl, rfl⟩⟩),
    kbs_mk (sel := [.arg 0, .dfN, .arg 1, .dfN]) [.inl 0, .inr .none, .inl 1, .inr .none] Dk7 [("costs", .none), ("tops", .none)] ⟨rfl, ⟨rfl, ⟨rfl, ⟨rfl, trivial⟩⟩⟩⟩ (fun q hq => by
      simp only [List.mem_cons, List.not_mem_nil, or_false] at hq
      rcases hq with rfl | rfl
      · exact d7_costs
      · exact d7_tops) (fun us ws h1 h2 => match us, ws, h1, h2 with | [u0], [w0], _, _ => ⟨_, _, _, _, _, _, rfl, rfl, ⟨_, _, _, _, _, _, rfl, rfl, rfl⟩⟩),
    kbs_mk (sel := [.arg 0, .dfN, .dfN, .dfN]) [.inl 0, .inr .none, .inr .none, .inr .none] Dk7 [("costs", .none), ("side", .none), ("tops", .none)] ⟨rfl, ⟨rfl, ⟨rfl, ⟨rfl, trivial⟩⟩⟩⟩ (fun q hq => by
      simp only [List.mem_cons, List.not_mem_nil, or_false] at hq
      rcases hq with rfl | rfl | rfl
      · exact d7_costs
      · exact d7_side
      · exact d7_tops) (fun us ws h1 h2 => match us, ws, h1, h2 with | [u0], [], _, _ => ⟨_, _, _, _, _, _, rfl, rfl, ⟨_, _, _, _, _, _, rfl, rfl, ⟨_, _, _, _, _, _, rfl, rfl, rfl⟩⟩⟩),
    kbs_mk (sel := [.arg 0, .dfN, .dfN, .arg 1]) [.inl 0, .inr .none, .inr .none, .inl 1] Dk7 [("costs", .none), ("side", .none)] ⟨rfl, ⟨rfl, ⟨rfl, ⟨rfl, trivial⟩⟩⟩⟩ (fun q hq => by
      simp only [List.mem_cons, List.not_mem_nil, or_false] at hq
      rcases hq with rfl | rfl
      · exact d7_costs
      · exact d7_side) (fun us ws h1 h2 => match us, ws, h1, h2 with | [u0], [w0], _, _ => ⟨_, _, _, _, _, _, rfl, rfl, ⟨_, _, _, _, _, _, rfl, rfl, rfl⟩⟩),
    kbs_mk (sel := [.arg 0, .arg 1, .arg 2, .arg 3]) [.inl 0, .inl 1, .inl 2, .inl 3] 0 [] ⟨rfl, ⟨rfl, ⟨rfl, ⟨rfl, trivial⟩⟩⟩⟩ (fun q hq => by cases hq) (fun us ws h1 h2 => match us, ws, h1, h2 with | [u0], [w0, w1, w2], _, _ => rfl),
    kbs_mk (sel := [.arg 0]) [.inl 0] 0 [] ⟨rfl, trivial⟩ (fun q hq => by cases hq) (fun us ws h1 h2 => match us, ws, h1, h2 with | [u0], [], _, _ => rfl),
    kbs_mk (sel := [.arg 0]) [.inl 0] 0 [] ⟨rfl, trivial⟩ (fun q hq => by cases hq) (fun us ws h1 h2 => match us, ws, h1, h2 with | [u0], [], _, _ => rfl),
    kbs_mk (sel := [.arg 0]) [.inl 0] 0 [] ⟨rfl, trivial⟩ (fun q hq => by cases hq) (fun us ws h1 h2 => match us, ws, h1, h2 with | [u0], [], _, _ => rfl),
    kbs_mk (sel := [.arg 0]) [.inl 0] 0 [] ⟨rfl, trivial⟩ (fun q hq => by cases hq) (fun us ws h1 h2 => match us, ws, h1, h2 with | [u0], [], _, _ => rfl),
    kbs_mk (sel := [.arg 0, .arg 1]) [.inl 0, .inl 1] 0 [] ⟨rfl, ⟨rfl, trivial⟩⟩ (fun q hq => by cases hq) (fun us ws h1 h2 => match us, ws, h1, h2 with | [u0, u1], [], _, _ => rfl),
    kbs_mk (sel := [.arg 0]) [.inl 0] 0 [] ⟨rfl, trivial⟩ (fun q hq => by cases hq) (fun us ws h1 h2 => match us, ws, h1, h2 with | [u0], [], _, _ => rfl),
    kbs_mk (sel := [.arg 0, .arg 1]) [.inl 0, .inl 1] 0 [] ⟨rfl, ⟨rfl, trivial⟩⟩ (fun q hq => by cases hq) (fun us ws h1 h2 => match us, ws, h1, h2 with | [u0, u1], [], _, _ => rfl),
    kbs_mk (sel := [.arg 0, .arg 1]) [.inl 0, .inl 1] 0 [] ⟨rfl, ⟨rfl, trivial⟩⟩ (fun q hq => by cases hq) (fun us ws h1 h2 => match us, ws, h1, h2 with | [u0, u1], [], _, _ => rfl),
    kbs_mk (sel := [.arg 0, .arg 1, .arg 2, .arg 3, .dfN]) [.inl 0, .inl 1, .inl 2, .inl 3, .inr .none] Dk3 [("tops", .none)] ⟨rfl, ⟨rfl, ⟨rfl, ⟨rfl, ⟨rfl, trivial⟩⟩⟩⟩⟩ (fun q hq => by
      simp only [List.mem_cons, List.not_mem_nil, or_false] at hq
      rcases hq with rfl
      · exact d3_tops) (fun us ws h1 h2 => match us, ws, h1, h2 with | [u0, u1], [w0, w1], _, _ => ⟨_, _, _, _, _, _, rfl, rfl, rfl⟩),
    ⟨CW, .type "type", PySem.W.mg_of X G aW, gaW, rdW, vVW⟩,
    ⟨fI0, _, PySem.W.mg_of X G aC0, ⟨⟨_, _, _, _, _, _, _, _, _, _, _, _, _, _, _, xL0, rfl⟩, sa0, eC0, tC0, kC0⟩, fun f hf => by
      simp only [List.mem_cons, List.not_mem_nil, or_false] at hf
      rcases hf with rfl
      · exact nf0_what, ii0, ti0, fun_mk (st := s_NoPlan_init) li0 ci0 ki0, ⟨ga0, gg0, eC0, hC0⟩⟩,
    (fun_mk (st := s_NoPlan_init) li0 ci0 ki0).binds fun _ _ _ _ _ _ us hl => match us, hl with | [_, _], _ => rfl,
    PySem.W.mg_of X G aP0, ⟨pg0, hdP0, po0, saP0⟩, fun f hf => by
      simp only [List.mem_cons, List.not_mem_nil, or_false] at hf
      rcases hf with rfl | rfl | rfl | rfl
      · exact nP0_kept_rows
      · exact nP0_kept_costs
      · exact nP0_kept_side
      · exact nP0_kept_tops,
    ⟨⟨pg0, hdP0, po0, saP0⟩, icl0, isp0, itk0, imr0, ikt0⟩,
    ⟨nne0, nob0, nnt0⟩,
    trivial,
    fun _ => rfl,
    tg_MOST_ROWS, PySem.W.mg_of X G g_MOST_ROWS,
    tg_MOST_UNKNOWNS, PySem.W.mg_of X G g_MOST_UNKNOWNS,
    PySem.W.mg_none_of X G z_all,
    PySem.W.mg_none_of X G z_bool,
    PySem.W.mg_none_of X G z_enumerate,
    PySem.W.mg_none_of X G z_int,
    PySem.W.mg_none_of X G z_isinstance,
    PySem.W.mg_none_of X G z_len,
    PySem.W.mg_none_of X G z_list,
    PySem.W.mg_none_of X G z_range,
    PySem.W.mg_none_of X G z_sum,
    PySem.W.mg_none_of X G z_tuple,
    PySem.W.mg_none_of X G z_zip⟩)⟩
end Lw
open PySem PySem.W PyProof.Rows
set_option maxHeartbeats 0 in
theorem PySem.Challenge.cw_waymoves_k30_plans_told_holds : PySem.Challenge.rw_waymoves_k30_plans_told.Holds := by
  w_on; o_law; k_head; (case hw => w_witness2)
  k_fill
  refine L2.walk_of (l := PySem.Challenge.rw_waymoves_k30_plans_told) (n := 63) (k := 8) (x := "_law_script") (CX := fun w => L2.CX (PySem.Challenge.rw_waymoves_k30_plans_told).prog w) (sp := fun w => Wm.spA _ 1 Lw.f_law) rfl (by decide) rfl ⟨rfl, by decide, by decide⟩ (fun w h Y => PySem.W.kIn_of Y) ?F (fun _ _ a ns hl _ hS => Wm.spA_sp hl hS (Lw.law_true ns hl)) (fun _ H s e s' h => Wm.law_cx H s e s' h)
  case F =>
    intro w mg fa h KX G hmg
    refine' Lw.all_mk KX G hmg ?a0 ?l0 ?c0 ?k0 ?a1 ?l1 ?c1 ?k1 ?a2 ?l2 ?c2 ?k2 ?aP0 ?fm3 ?ff3 ?mkc0 ?kP0 ?l3 ?c3 ?k3 ?d3_tops ?a4 ?l4 ?c4 ?k4 ?fm5 ?ff5 ?l5 ?c5 ?k5 ?fm6 ?ff6 ?l6 ?c6 ?k6 ?fm7 ?ff7 ?l7 ?c7 ?k7 ?d7_costs ?d7_side ?d7_tops ?fm8 ?ff8 ?l8 ?c8 ?k8 ?fm9 ?ff9 ?l9 ?c9 ?k9 ?fm10 ?ff10 ?l10 ?c10 ?k10 ?fm11 ?ff11 ?l11 ?c11 ?k11 ?a12 ?l12 ?c12 ?k12 ?a13 ?l13 ?c13 ?k13 ?a14 ?l14 ?c14 ?k14 ?a15 ?l15 ?c15 ?k15 ?fm16 ?ff16 ?l16 ?c16 ?k16 ?fm17 ?ff17 ?l17 ?c17 ?k17 ?fm18 ?ff18 ?l18 ?c18 ?k18 ?fm19 ?ff19 ?l19 ?c19 ?k19 ?a20 ?l20 ?c20 ?k20 ?a21 ?l21 ?c21 ?k21 ?a22 ?l22 ?c22 ?k22 ?a23 ?l23 ?c23 ?k23 ?a24 ?l24 ?c24 ?k24 ?aW ?gaW ?rdW ?vVW ?aC0 ?xL0 ?sa0 ?ga0 ?gg0 ?nf0_what ?ii0 ?ti0 ?li0 ?ci0 ?ki0 ?kC0 ?eC0 ?tC0 ?hC0 ?iC0 ?pg0 ?hdP0 ?po0 ?saP0 ?nP0_kept_rows ?nP0_kept_costs ?nP0_kept_side ?nP0_kept_tops ?icl0 ?isp0 ?itk0 ?imr0 ?ikt0 ?nne0 ?nob0 ?nnt0 ?g_MOST_ROWS ?g_MOST_UNKNOWNS ?z_all ?z_bool ?z_enumerate ?z_int ?z_isinstance ?z_len ?z_list ?z_range ?z_sum ?z_tuple ?z_zip
    (case a0 => k_is); (case l0 => k_is); (case c0 => k_is); (case k0 => k_is); (case a1 => k_is); (case l1 => k_is); (case c1 => k_is); (case k1 => k_is); (case a2 => k_is); (case l2 => k_is); (case c2 => k_is); (case k2 => k_is); (case aP0 => k_is); (case fm3 => k_is); (case ff3 => k_is); (case mkc0 => k_is); (case kP0 => k_is); (case l3 => k_is); (case c3 => k_is); (case k3 => k_is); (case d3_tops => k_is); (case a4 => k_is); (case l4 => k_is); (case c4 => k_is); (case k4 => k_is); (case fm5 => k_is); (case ff5 => k_is); (case l5 => k_is); (case c5 => k_is); (case k5 => k_is); (case fm6 => k_is); (case ff6 => k_is); (case l6 => k_is); (case c6 => k_is); (case k6 => k_is); (case fm7 => k_is); (case ff7 => k_is); (case l7 => k_is); (case c7 => k_is); (case k7 => k_is); (case d7_costs => k_is); (case d7_side => k_is); (case d7_tops => k_is); (case fm8 => k_is); (case ff8 => k_is); (case l8 => k_is); (case c8 => k_is); (case k8 => k_is); (case fm9 => k_is); (case ff9 => k_is); (case l9 => k_is); (case c9 => k_is); (case k9 => k_is); (case fm10 => k_is); (case ff10 => k_is); (case l10 => k_is); (case c10 => k_is); (case k10 => k_is); (case fm11 => k_is); (case ff11 => k_is); (case l11 => k_is); (case c11 => k_is); (case k11 => k_is); (case a12 => k_is); (case l12 => k_is); (case c12 => k_is); (case k12 => k_is); (case a13 => k_is); (case l13 => k_is); (case c13 => k_is); (case k13 => k_is); (case a14 => k_is); (case l14 => k_is); (case c14 => k_is); (case k14 => k_is); (case a15 => k_is); (case l15 => k_is); (case c15 => k_is); (case k15 => k_is); (case fm16 => k_is); (case ff16 => k_is); (case l16 => k_is); (case c16 => k_is); (case k16 => k_is); (case fm17 => k_is); (case ff17 => k_is); (case l17 => k_is); (case c17 => k_is); (case k17 => k_is); (case fm18 => k_is); (case ff18 => k_is); (case l18 => k_is); (case c18 => k_is); (case k18 => k_is); (case fm19 => k_is); (case ff19 => k_is); (case l19 => k_is); (case c19 => k_is); (case k19 => k_is); (case a20 => k_is); (case l20 => k_is); (case c20 => k_is); (case k20 => k_is); (case a21 => k_is); (case l21 => k_is); (case c21 => k_is); (case k21 => k_is); (case a22 => k_is); (case l22 => k_is); (case c22 => k_is); (case k22 => k_is); (case a23 => k_is); (case l23 => k_is); (case c23 => k_is); (case k23 => k_is); (case a24 => k_is); (case l24 => k_is); (case c24 => k_is); (case k24 => k_is); (case aW => k_is); (case gaW => k_is); (case rdW => k_is); (case vVW => k_is); (case aC0 => k_is); (case xL0 => k_is); (case sa0 => k_is); (case ga0 => k_is); (case gg0 => k_is); (case nf0_what => k_is); (case ii0 => k_is); (case ti0 => k_is); (case li0 => k_is); (case ci0 => k_is); (case ki0 => k_is); (case kC0 => k_is); (case eC0 => k_is); (case tC0 => k_is); (case hC0 => k_is); (case iC0 => k_is); (case pg0 => k_is); (case hdP0 => k_is); (case po0 => k_is); (case saP0 => k_is); (case nP0_kept_rows => k_is); (case nP0_kept_costs => k_is); (case nP0_kept_side => k_is); (case nP0_kept_tops => k_is); (case icl0 => k_is); (case isp0 => k_is); (case itk0 => k_is); (case imr0 => k_is); (case ikt0 => kit_is); (case nne0 => k_is); (case nob0 => k_is); (case nnt0 => k_is); (case g_MOST_ROWS => k_is); (case g_MOST_UNKNOWNS => k_is); (case z_all => k_is); (case z_bool => k_is); (case z_enumerate => k_is); (case z_int => k_is); (case z_isinstance => k_is); (case z_len => k_is); (case z_list => k_is); (case z_range => k_is); (case z_sum => k_is); (case z_tuple => k_is); (case z_zip => k_is)
end
