import PyProof.Rows.All
import HandS.ForMost
import HandS.Exc
import HandS.TryOnly
import HandS.ExcOwn
import HandS.WordsExc
import HandS.CallSlots
import HandS.Wide
import HandS.Lambda
import HandS.TupAny
import HandS.TupMul
import HandS.TupLe
import HandS.Flow
import HandS.IsInst
import HandS.Conv
import HandS.SortInts
import KE.GoesNew
import KE.GoesEnum
import HandS.Defaults
import KE.IntBitsLaws
import HandS.ExcInit
import HandS.ExcField
import HandS.Deep
import KE.KSortedM
import HandS.EndTab
import HandS.MakeKwOnly
import KE.DataFind
import HandS.Style
import KE.KExcIs
import PyProof.InstNe
import HandS.OwnEq
import PySem.Challenge.RW_waymoves_k41_what_are_no_picks
set_option Elab.async false
set_option linter.all false
set_option maxRecDepth 100000
set_option maxHeartbeats 4000000
section
/-! The layer of data over HandS: what stands in a slot as plain data, owned lists, steps between worlds. -/
namespace Wm
open PySem PySem.Spec PyProof.Rows L2

/-- plain data -/
inductive D where
  | non | bl (b : Bool) | int (i : Int) | str (x : Str)
  | tup (xs : List D) | lst (xs : List D) | ins (c : Str) (fs : List (Str × D)) | scr (ns : List Int)
  | dct (kvs : List (Int × D))

/-- what a slot holds: nothing known, shared data, a list of one's own, a list of the caller's that may be written -/
inductive SD where
  | no | sh (d : D) | own (xs : List D) | byr (xs : List D) | xn (c : Str) (fs : List (Str × D)) | gv

/-- the tables of code objects, the code objects of lambdas -/
structure TC where
  tabs : List (Addr × Str) := []
  codes : List (Addr × Str) := []
  know : List (D × V) := []
structure KT0 (T : TC) (H : Hp) : Prop where
  t : LamX.Tabs T.tabs H
  c : ∀ p ∈ T.codes, H p.1 = some (LamX.CodeO p.1 p.2)
theorem KT0.ext {T : TC} {H H' : Hp} (k : KT0 T H) (e : ∀ b o, H b = some o → H' b = some o) : KT0 T H' := ⟨k.t.ext e, fun p hp => e _ _ (k.c p hp)⟩
/-- the written part and its classes by name -/
structure Gx where
  K : PySem.W.Frag
  cls : Str → Addr
  xof : Addr → Option (Str × Addr)
  tabs : TC
/-- the classes by name; the exceptions that are held, each with its class and its own dict -/
structure Cl where
  at' : Str → Addr
  xof : Addr → Option (Str × Addr)
  tabs : TC
abbrev gk (K : PySem.W.Frag) (cl : Cl) : Gx := ⟨K, cl.at', cl.xof, cl.tabs⟩
/-- no object of the program's own stands there -/
def NoD (H : Hp) (b : Addr) : Prop := ∀ o, H b = some o → ∃ ps, o = .tbl ps
theorem noD_none {H : Hp} {b : Addr} (h : H b = none) : NoD H b := fun o e => by rw [h] at e; cases e
theorem noD_not {H : Hp} {b : Addr} {o : HO} (h : H b = some o) (ht : ∀ ps, o ≠ .tbl ps := by intro _ z; cases z) : ¬ NoD H b := fun z => by
  obtain ⟨ps, e⟩ := z o h
  exact ht ps e
theorem noD_ne {H : Hp} {b : Addr} (h : ¬ NoD H b) : H b ≠ none := fun z => h (noD_none z)

def LO (K : PySem.W.Frag) (O : List Addr) (H : Hp) (a : Addr) (vs : List V) : Prop :=
  vs.length ≤ sizeLine ∧ H a = some (.lst vs) ∧ a ∉ O
/-- the script's list: locked, or of the written part -/
def ScO (K : PySem.W.Frag) (O : List Addr) (H : Hp) (a : Addr) (vs : List V) : Prop :=
  vs.length ≤ sizeLine ∧ ((Rd H a (.lst vs) ∧ a ∉ O) ∨
    ∃ (o : Obj) (its : Array Value) (n : Nat), K.lookup a = some o ∧ o.cls = .type "list" ∧ o.dict = none ∧ o.data = .seq its n ∧ its.size ≤ sizeLine ∧ Vals vs its.toList)
theorem ScO.sq {K : PySem.W.Frag} {O : List Addr} {H : Hp} {a : Addr} {vs : List V} (h : ScO K O H a vs) : SqL K H a vs := by
  rcases h.2 with h | h
  · exact .inl h.1
  · exact .inr h
def TO (K : PySem.W.Frag) (O : List Addr) (H : Hp) (a : Addr) (vs : List V) : Prop :=
  vs.length ≤ sizeLine ∧ ((Rd H a (.tup vs) ∧ a ∉ O) ∨
    ∃ (o : Obj) (its : Array Value) (n : Nat), K.lookup a = some o ∧ o.cls = .type "tuple" ∧ o.data = .seq its n ∧ its.size ≤ sizeLine ∧ Vals vs its.toList)
theorem LO.sq {K : PySem.W.Frag} {O : List Addr} {H : Hp} {a : Addr} {vs : List V} (h : LO K O H a vs) : SqL K H a vs := SqL.of h.2.1
theorem TO.sq {K : PySem.W.Frag} {O : List Addr} {H : Hp} {a : Addr} {vs : List V} (h : TO K O H a vs) : SqT K H a vs := by
  rcases h.2 with h | h
  · exact .inl h.1
  · exact .inr h

mutual
def Rp (G : Gx) (O : List Addr) (H : Hp) : D → V → Prop
  | .non, v => v = .non
  | .bl b, v => v = .bl b
  | .int i, v => v = .int i
  | .str x, v => v = .str x
  | .tup ds, v => ∃ a vs, v = .ref a ∧ TO G.K O H a vs ∧ RpA G O H ds vs
  | .lst ds, v => ∃ a vs, v = .ref a ∧ LO G.K O H a vs ∧ RpA G O H ds vs
  | .ins c fs, v => ∃ a dx gs, v = .ref a ∧ H a = some (.ins (G.cls c) dx gs) ∧ a ∉ O ∧ RpF G O H fs gs
  | .scr ns, v => ∃ a, v = .ref a ∧ ScO G.K O H a (ns.map V.int)
  | .dct kvs, v => ∃ a gs, v = .ref a ∧ H a = some (.dK gs) ∧ a ∉ O ∧ RpD G O H kvs gs
def RpA (G : Gx) (O : List Addr) (H : Hp) : List D → List V → Prop
  | [], vs => vs = []
  | d :: ds, vs => ∃ v r, vs = v :: r ∧ Rp G O H d v ∧ RpA G O H ds r
def RpF (G : Gx) (O : List Addr) (H : Hp) : List (Str × D) → List (Str × V) → Prop
  | [], gs => gs = []
  | (n, d) :: fs, gs => ∃ v r, gs = (n, v) :: r ∧ Rp G O H d v ∧ RpF G O H fs r
def RpD (G : Gx) (O : List Addr) (H : Hp) : List (Int × D) → List (Key × V) → Prop
  | [], gs => gs = []
  | (n, d) :: fs, gs => ∃ v r, gs = (.inl n, v) :: r ∧ Rp G O H d v ∧ RpD G O H fs r
end

/-- from one world to a later one: O must not be met by data, W may be written -/
structure Stp (O W : List Addr) (H : Hp) (O' W' : List Addr) (H' : Hp) : Prop where
  keep : ∀ b o, H b = some o → b ∉ W → (∀ ps, o ≠ .tbl ps) → H' b = some o
  wnew : ∀ b ∈ W', b ∈ W ∨ NoD H b
  onew : ∀ b ∈ O', b ∈ O ∨ NoD H b
  trk : ∀ b, ¬ NoD H b → ¬ NoD H' b
  ofz : ∀ b ∈ O, b ∉ W → b ∈ O'
structure Wf (O W : List Addr) (H : Hp) : Prop where
  sub : ∀ b ∈ W, b ∈ O
  trk : ∀ b ∈ O, ¬ NoD H b

theorem Stp.refl {O W : List Addr} {H : Hp} : Stp O W H O W H := ⟨fun _ _ h _ _ => h, fun _ h => .inl h, fun _ h => .inl h, fun _ h => h, fun _ h _ => h⟩
theorem Stp.trans {O W O1 W1 O2 W2 : List Addr} {H H1 H2 : Hp} (w : Wf O W H) (a : Stp O W H O1 W1 H1) (b : Stp O1 W1 H1 O2 W2 H2) : Stp O W H O2 W2 H2 where
  keep := fun c o h hc ht => b.keep c o (a.keep c o h hc ht) (fun z => by
    rcases a.wnew c z with q | q
    · exact hc q
    · exact noD_not h ht q) ht
  wnew := fun c hc => by
    rcases b.wnew c hc with q | q
    · exact a.wnew c q
    · by_cases h : NoD H c
      · exact .inr h
      · exact absurd q (a.trk c h)
  onew := fun c hc => by
    rcases b.onew c hc with q | q
    · exact a.onew c q
    · by_cases h : NoD H c
      · exact .inr h
      · exact absurd q (a.trk c h)
  trk := fun c h => b.trk c (a.trk c h)
  ofz := fun c h hc => b.ofz c (a.ofz c h hc) fun z => by
    rcases a.wnew c z with q | q
    · exact hc q
    · exact w.trk c h q

section
variable {G : Gx} {O W O' W' : List Addr} {H H' : Hp}
theorem Stp.at (s : Stp O W H O' W' H') (w : Wf O W H) {a : Addr} {o : HO} (h : H a = some o) (ha : a ∉ O) (ht : ∀ ps, o ≠ .tbl ps := by intro _ z; cases z) : H' a = some o ∧ a ∉ O' :=
  ⟨s.keep a o h (fun z => ha (w.sub a z)) ht, fun z => by
    rcases s.onew a z with q | q
    · exact ha q
    · exact noD_not h ht q⟩
theorem LO.step {a : Addr} {vs : List V} (w : Wf O W H) (s : Stp O W H O' W' H') (h : LO G.K O H a vs) : LO G.K O' H' a vs := ⟨h.1, (s.at w h.2.1 h.2.2).1, (s.at w h.2.1 h.2.2).2⟩
theorem TO.step {a : Addr} {vs : List V} (w : Wf O W H) (s : Stp O W H O' W' H') (h : TO G.K O H a vs) : TO G.K O' H' a vs := by
  refine ⟨h.1, ?_⟩
  rcases h.2 with ⟨r | ⟨o, r⟩, hn⟩ | h
  · exact .inl ⟨.inl (s.at w r hn).1, (s.at w r hn).2⟩
  · exact .inl ⟨.inr ⟨o, (s.at w r hn).1⟩, (s.at w r hn).2⟩
  · exact .inr h
/-- data stands where what stands in it stands -/
theorem LO.less {a : Addr} {vs : List V} (h : ∀ b ∈ O', b ∈ O) (r : LO G.K O H a vs) : LO G.K O' H a vs := ⟨r.1, r.2.1, fun z => r.2.2 (h a z)⟩
theorem TO.less {a : Addr} {vs : List V} (h : ∀ b ∈ O', b ∈ O) (r : TO G.K O H a vs) : TO G.K O' H a vs := by
  refine ⟨r.1, ?_⟩
  rcases r.2 with ⟨r, hn⟩ | r
  · exact .inl ⟨r, fun z => hn (h a z)⟩
  · exact .inr r
mutual
theorem Rp.step (w : Wf O W H) (s : Stp O W H O' W' H') : ∀ {d : D} {v : V}, Rp G O H d v → Rp G O' H' d v
  | .non, v, h => by simpa only [Rp] using h
  | .bl b, v, h => by simpa only [Rp] using h
  | .int i, v, h => by simpa only [Rp] using h
  | .str x, v, h => by simpa only [Rp] using h
  | .tup ds, v, h => by
    simp only [Rp] at h ⊢
    obtain ⟨a, vs, e, t, r⟩ := h
    exact ⟨a, vs, e, t.step w s, RpA.step w s r⟩
  | .lst ds, v, h => by
    simp only [Rp] at h ⊢
    obtain ⟨a, vs, e, t, r⟩ := h
    exact ⟨a, vs, e, t.step w s, RpA.step w s r⟩
  | .ins c fs, v, h => by
    simp only [Rp] at h ⊢
    obtain ⟨a, dx, gs, e, t, n, r⟩ := h
    exact ⟨a, dx, gs, e, (s.at w t n).1, (s.at w t n).2, RpF.step w s r⟩
  | .scr ns, v, h => by
    simp only [Rp] at h ⊢
    obtain ⟨a, e, t⟩ := h
    refine ⟨a, e, t.1, ?_⟩
    rcases t.2 with ⟨r | ⟨o, r⟩, hn⟩ | h
    · exact .inl ⟨.inl (s.at w r hn).1, (s.at w r hn).2⟩
    · exact .inl ⟨.inr ⟨o, (s.at w r hn).1⟩, (s.at w r hn).2⟩
    · exact .inr h
  | .dct kvs, v, h => by
    simp only [Rp] at h ⊢
    obtain ⟨a, gs, e, t, n, r⟩ := h
    exact ⟨a, gs, e, (s.at w t n).1, (s.at w t n).2, RpD.step w s r⟩
theorem RpA.step (w : Wf O W H) (s : Stp O W H O' W' H') : ∀ {ds : List D} {vs : List V}, RpA G O H ds vs → RpA G O' H' ds vs
  | [], vs, h => by simpa only [RpA] using h
  | d :: ds, vs, h => by
    simp only [RpA] at h ⊢
    obtain ⟨v, r, e, h1, h2⟩ := h
    exact ⟨v, r, e, Rp.step w s h1, RpA.step w s h2⟩
theorem RpF.step (w : Wf O W H) (s : Stp O W H O' W' H') : ∀ {ds : List (Str × D)} {vs : List (Str × V)}, RpF G O H ds vs → RpF G O' H' ds vs
  | [], vs, h => by simpa only [RpF] using h
  | (n, d) :: ds, vs, h => by
    simp only [RpF] at h ⊢
    obtain ⟨v, r, e, h1, h2⟩ := h
    exact ⟨v, r, e, Rp.step w s h1, RpF.step w s h2⟩
theorem RpD.step (w : Wf O W H) (s : Stp O W H O' W' H') : ∀ {ds : List (Int × D)} {vs : List (Key × V)}, RpD G O H ds vs → RpD G O' H' ds vs
  | [], vs, h => by simpa only [RpD] using h
  | (n, d) :: ds, vs, h => by
    simp only [RpD] at h ⊢
    obtain ⟨v, r, e, h1, h2⟩ := h
    exact ⟨v, r, e, Rp.step w s h1, RpD.step w s h2⟩
end
mutual
theorem Rp.less (h : ∀ b ∈ O', b ∈ O) : ∀ {d : D} {v : V}, Rp G O H d v → Rp G O' H d v
  | .non, v, q => by simpa only [Rp] using q
  | .bl b, v, q => by simpa only [Rp] using q
  | .int i, v, q => by simpa only [Rp] using q
  | .str x, v, q => by simpa only [Rp] using q
  | .tup ds, v, q => by
    simp only [Rp] at q ⊢
    obtain ⟨a, vs, e, t, r⟩ := q
    exact ⟨a, vs, e, t.less h, RpA.less h r⟩
  | .lst ds, v, q => by
    simp only [Rp] at q ⊢
    obtain ⟨a, vs, e, t, r⟩ := q
    exact ⟨a, vs, e, t.less h, RpA.less h r⟩
  | .ins c fs, v, q => by
    simp only [Rp] at q ⊢
    obtain ⟨a, dx, gs, e, t, n, r⟩ := q
    exact ⟨a, dx, gs, e, t, fun z => n (h a z), RpF.less h r⟩
  | .scr ns, v, q => by
    simp only [Rp] at q ⊢
    obtain ⟨a, e, t⟩ := q
    refine ⟨a, e, t.1, ?_⟩
    rcases t.2 with ⟨r, hn⟩ | r
    · exact .inl ⟨r, fun z => hn (h a z)⟩
    · exact .inr r
  | .dct kvs, v, q => by
    simp only [Rp] at q ⊢
    obtain ⟨a, gs, e, t, n, r⟩ := q
    exact ⟨a, gs, e, t, fun z => n (h a z), RpD.less h r⟩
theorem RpA.less (h : ∀ b ∈ O', b ∈ O) : ∀ {ds : List D} {vs : List V}, RpA G O H ds vs → RpA G O' H ds vs
  | [], vs, q => by simpa only [RpA] using q
  | d :: ds, vs, q => by
    simp only [RpA] at q ⊢
    obtain ⟨v, r, e, h1, h2⟩ := q
    exact ⟨v, r, e, Rp.less h h1, RpA.less h h2⟩
theorem RpF.less (h : ∀ b ∈ O', b ∈ O) : ∀ {ds : List (Str × D)} {vs : List (Str × V)}, RpF G O H ds vs → RpF G O' H ds vs
  | [], vs, q => by simpa only [RpF] using q
  | (n, d) :: ds, vs, q => by
    simp only [RpF] at q ⊢
    obtain ⟨v, r, e, h1, h2⟩ := q
    exact ⟨v, r, e, Rp.less h h1, RpF.less h h2⟩
theorem RpD.less (h : ∀ b ∈ O', b ∈ O) : ∀ {ds : List (Int × D)} {vs : List (Key × V)}, RpD G O H ds vs → RpD G O' H ds vs
  | [], vs, q => by simpa only [RpD] using q
  | (n, d) :: ds, vs, q => by
    simp only [RpD] at q ⊢
    obtain ⟨v, r, e, h1, h2⟩ := q
    exact ⟨v, r, e, Rp.less h h1, RpD.less h h2⟩
end
end

/-- a list that is written: at a, of xs -/
def OwnAt (G : Gx) (O W : List Addr) (H : Hp) (a : Addr) (xs : List D) : Prop :=
  a ∈ W ∧ ∃ vs, H a = some (.lst vs) ∧ vs.length ≤ sizeLine ∧ RpA G O H xs vs
/-- what stands in a slot; vs0: the arguments at the entry -/
def SlotR (G : Gx) (O W : List Addr) (H : Hp) (ov ov0 : Option V) : SD → Prop
  | .no => True
  | .sh d => ∃ v, ov = some v ∧ Rp G O H d v
  | .own xs => ∃ a, ov = some (.ref a) ∧ OwnAt G O W H a xs
  | .byr xs => ∃ a, ov = some (.ref a) ∧ ov0 = some (.ref a) ∧ OwnAt G O W H a xs
  | .xn c fs => ∃ a p gs, ov = some (.ref a) ∧ G.xof a = some (c, p) ∧ H p = some (.xd gs) ∧ p ∉ O ∧ RpF G O H fs gs
  | .gv => ov = ov0
def SD.mine : SD → Bool
  | .own _ => true
  | .byr _ => true
  | _ => false
/-- what is known of tables, code objects, and what a lambda has caught -/
structure KT (G : Gx) (O : List Addr) (H : Hp) : Prop where
  tc : KT0 G.tabs H
  k : ∀ q ∈ G.tabs.know, Rp G O H q.1 q.2
theorem KT.nil {G : Gx} {O : List Addr} {H : Hp} (h : G.tabs = {}) : KT G O H := ⟨by rw [h]; exact ⟨fun _ h => absurd h (by simp), fun _ h => absurd h (by simp)⟩, fun _ z => by rw [h] at z; exact absurd z (by simp)⟩
structure SR (G : Gx) (vs0 : List V) (O W : List Addr) (σ : L2.St) (H : Hp) (ρ : List SD) : Prop where
  wf : Wf O W H
  len : σ.length = ρ.length
  slot : ∀ (i : Nat) (s : SD), ρ[i]? = some s → SlotR G O W H (σ[i]?.join) vs0[i]? s
  apart : ∀ (i j : Nat) (s t : SD) (a : Addr), ρ[i]? = some s → ρ[j]? = some t → s.mine = true → t.mine = true → σ[i]? = some (some (.ref a)) → σ[j]? = some (some (.ref a)) → i = j
  tabs : KT G O H
/-- what an expression gives -/
def ResR (G : Gx) (O W : List Addr) (σ : L2.St) (H : Hp) (ρ : List SD) (v : V) : SD → Prop
  | .sh d => Rp G O H d v
  | .own xs => ∃ a, v = .ref a ∧ OwnAt G O W H a xs ∧ ∀ (i : Nat) (s : SD), ρ[i]? = some s → s.mine = true → σ[i]? ≠ some (some (.ref a))
  | _ => False
end Wm
end

section
/-! What an expression computes on data, and that it does. -/
namespace Wm
open PySem PySem.Spec PyProof.Rows L2

/-- what comes of a piece: a thing, an exception, or nothing that is told -/
inductive Rs (α : Type) where
  | ok (a : α) | exc (c : Str) (fs : List (Str × D)) (ρ : List SD) | bad
def Rs.bind {α β : Type} : Rs α → (α → Rs β) → Rs β
  | .ok a, f => f a
  | .exc c fs ρ, _ => .exc c fs ρ
  | .bad, _ => .bad
theorem Rs.bind_ok {α β : Type} (a : α) (f : α → Rs β) : (Rs.ok a).bind f = f a := rfl
abbrev Sx := List SD → Rs (SD × List SD)
abbrev Sb := List SD → Rs (Bool × List SD)
abbrev So := List SD → Rs (List D × List SD)
inductive Fl where
  | nx (ρ : List SD) | rt (r : SD) (ρ : List SD) | bk (ρ : List SD) | ct (ρ : List SD)
abbrev Ss := List SD → Rs Fl

abbrev gx (X : Cx) (cl : Cl) : Gx := gk X.K cl

/-- what is asked behind an exception -/
def ExcA (G : Gx) (vs0 : List V) (Wx : WX) (O W : List Addr) (σ : L2.St) (H : Hp) (c : Str) (fs : List (Str × D)) (ρ' : List SD) : Prop :=
  ∀ p gs O' W' H', Stp O W H O' W' H' → SR G vs0 O' W' σ H' ρ' → (H' p = some (.xd gs) ∧ p ∉ O') → RpF G O' H' fs gs → Wx (.ref (G.cls c)) (some p) σ H'
def AftE (G : Gx) (vs0 : List V) (Wx : WX) (O W : List Addr) (σ : L2.St) (H : Hp) (Q : VK) : Rs (SD × List SD) → Prop
  | .ok (r, ρ') => ∀ v O' W' H', Stp O W H O' W' H' → SR G vs0 O' W' σ H' ρ' → ResR G O' W' σ H' ρ' v r → Q v H'
  | .exc c fs ρ' => ExcA G vs0 Wx O W σ H c fs ρ'
  | .bad => False
def AftB (G : Gx) (vs0 : List V) (Wx : WX) (O W : List Addr) (σ : L2.St) (H : Hp) (Q : Bool → Hp → Prop) : Rs (Bool × List SD) → Prop
  | .ok (r, ρ') => ∀ O' W' H', Stp O W H O' W' H' → SR G vs0 O' W' σ H' ρ' → Q r H'
  | .exc c fs ρ' => ExcA G vs0 Wx O W σ H c fs ρ'
  | .bad => False
/-- an operand: data, or a list of one's own that is only looked at -/
def Op1 (G : Gx) (O W : List Addr) (H : Hp) (d : D) (v : V) : Prop := Rp G O H d v ∨ ∃ a xs, d = .lst xs ∧ v = .ref a ∧ OwnAt G O W H a xs
def OpA (G : Gx) (O W : List Addr) (H : Hp) : List D → List V → Prop
  | [], vs => vs = []
  | d :: ds, vs => ∃ v r, vs = v :: r ∧ Op1 G O W H d v ∧ OpA G O W H ds r
def AftO (G : Gx) (vs0 : List V) (Wx : WX) (O W : List Addr) (σ : L2.St) (H : Hp) (Q : List V → Hp → Prop) : Rs (List D × List SD) → Prop
  | .ok (ds, ρ') => ∀ vs O' W' H', Stp O W H O' W' H' → SR G vs0 O' W' σ H' ρ' → OpA G O' W' H' ds vs → Q vs H'
  | .exc c fs ρ' => ExcA G vs0 Wx O W σ H c fs ρ'
  | .bad => False

structure EJ (X : Cx) (cl : Cl) (vs0 : List V) (Wx : WX) (e : Expr) (f : Sx) : Prop where
  ex : ∃ t, PE X e t ∧ ∀ O W σ H ρ Q, SR (gx X cl) vs0 O W σ H ρ → AftE (gx X cl) vs0 Wx O W σ H Q (f ρ) → t σ H Q
structure TJ (X : Cx) (cl : Cl) (vs0 : List V) (Wx : WX) (e : Expr) (f : Sb) : Prop where
  ex : ∃ t, PT X e t ∧ ∀ O W σ H ρ Q, SR (gx X cl) vs0 O W σ H ρ → AftB (gx X cl) vs0 Wx O W σ H Q (f ρ) → t σ H Q

/-! ### worlds -/
section
variable {G : Gx} {vs0 : List V} {O W O' W' O1 W1 : List Addr} {σ : L2.St} {H H' H1 : Hp} {ρ ρ' : List SD} {Wx : WX}
theorem ExcA.back {c : Str} {fs : List (Str × D)} (w : Wf O W H) (s : Stp O W H O1 W1 H1) (h : ExcA G vs0 Wx O W σ H c fs ρ') : ExcA G vs0 Wx O1 W1 σ H1 c fs ρ' :=
  fun p gs O' W' H' s' r hp hf => h p gs O' W' H' (s.trans w s') r hp hf
theorem AftE.back {Q : VK} (w : Wf O W H) (s : Stp O W H O1 W1 H1) : ∀ {r : Rs (SD × List SD)}, AftE G vs0 Wx O W σ H Q r → AftE G vs0 Wx O1 W1 σ H1 Q r
  | .ok (_, _), h => fun v O' W' H' s' sr rr => h v O' W' H' (s.trans w s') sr rr
  | .exc _ _ _, h => ExcA.back w s h
  | .bad, h => h
theorem AftB.back {Q : Bool → Hp → Prop} (w : Wf O W H) (s : Stp O W H O1 W1 H1) : ∀ {r : Rs (Bool × List SD)}, AftB G vs0 Wx O W σ H Q r → AftB G vs0 Wx O1 W1 σ H1 Q r
  | .ok (_, _), h => fun O' W' H' s' sr => h O' W' H' (s.trans w s') sr
  | .exc _ _ _, h => ExcA.back w s h
  | .bad, h => h
theorem AftO.back {Q : List V → Hp → Prop} (w : Wf O W H) (s : Stp O W H O1 W1 H1) : ∀ {r : Rs (List D × List SD)}, AftO G vs0 Wx O W σ H Q r → AftO G vs0 Wx O1 W1 σ H1 Q r
  | .ok (_, _), h => fun v O' W' H' s' sr rr => h v O' W' H' (s.trans w s') sr rr
  | .exc _ _ _, h => ExcA.back w s h
  | .bad, h => h

/-- an object that is no table and no code object is written -/
theorem tabs_but {T : TC} {H H' : Hp} {p : Addr} {o : HO} (t : KT0 T H) (hp : H p = some o) (k : ∀ b u, b ≠ p → H b = some u → H' b = some u) (ht : ∀ ps, o ≠ .tbl ps := by intro _ z; cases z) (hx : ∀ f, o ≠ .ext f := by intro _ z; cases z) : KT0 T H' := ⟨fun q hq => by
  obtain ⟨ps, h1, h2, h3⟩ := t.t q hq
  refine ⟨ps, k _ _ (fun z => ?_) h1, h2, fun pos cv hc => ?_⟩
  · rw [z, hp] at h1; exact ht ps (Option.some.inj h1)
  · obtain ⟨c, e1, e2⟩ := h3 pos cv hc
    refine ⟨c, e1, k _ _ (fun z => ?_) e2⟩
    rw [z, hp] at e2; exact hx _ (Option.some.inj e2), fun q hq => k _ _ (fun z => hx _ (Option.some.inj (hp.symm.trans (by rw [← z]; exact t.c q hq)))) (t.c q hq)⟩
theorem noD_same {b : Addr} (h : Same H H') (n : ¬ NoD H b) : ¬ NoD H' b := fun z => n fun o e => z o (h b o e)
theorem Stp.same (h : Same H H') : Stp O W H O W H' := ⟨fun b o e _ _ => h b o e, fun _ h => .inl h, fun _ h => .inl h, fun b hb => noD_same h hb, fun _ h _ => h⟩
theorem Stp.new {a : Addr} (h : Same H H') (n : H a = none) : Stp O W H (a :: O) (a :: W) H' := ⟨fun b o e _ _ => h b o e, fun b hb => by
  rcases List.mem_cons.mp hb with e | e
  · right; rw [e]; exact noD_none n
  · exact .inl e, fun b hb => by
  rcases List.mem_cons.mp hb with e | e
  · right; rw [e]; exact noD_none n
  · exact .inl e, fun b hb => noD_same h hb, fun _ h _ => List.mem_cons_of_mem _ h⟩
theorem Wf.same (w : Wf O W H) (h : Same H H') : Wf O W H' := ⟨w.sub, fun b hb => noD_same h (w.trk b hb)⟩
theorem Wf.new {a : Addr} (w : Wf O W H) (h : Same H H') (n : ¬ NoD H' a) : Wf (a :: O) (a :: W) H' := ⟨fun b hb => by
  rcases List.mem_cons.mp hb with e | e
  · rw [e]; exact List.mem_cons_self
  · exact List.mem_cons_of_mem _ (w.sub b e), fun b hb => by
  rcases List.mem_cons.mp hb with e | e
  · rw [e]; exact n
  · exact (w.same h).trk b e⟩
/-- the lists of one's own are as they were, and may be written still -/
theorem OwnAt.step {a : Addr} {xs : List D} (w : Wf O W H) (s : Stp O W H O' W' H') (hw : ∀ b ∈ W, b ∈ W') (hk : ∀ b o, b ∈ W → H b = some o → H' b = some o) (h : OwnAt G O W H a xs) : OwnAt G O' W' H' a xs := by
  obtain ⟨h1, vs, h2, h3, h4⟩ := h
  exact ⟨hw a h1, vs, hk a _ h1 h2, h3, RpA.step w s h4⟩
theorem SlotR.step {ov ov0 : Option V} {s : SD} (w : Wf O W H) (st : Stp O W H O' W' H') (hw : ∀ b ∈ W, b ∈ W') (hk : ∀ b o, b ∈ W → H b = some o → H' b = some o) (h : SlotR G O W H ov ov0 s) : SlotR G O' W' H' ov ov0 s := by
  cases s with
  | no => trivial
  | sh d => obtain ⟨v, e, r⟩ := h; exact ⟨v, e, r.step w st⟩
  | own xs => obtain ⟨a, e, r⟩ := h; exact ⟨a, e, r.step w st hw hk⟩
  | byr xs => obtain ⟨a, e, e0, r⟩ := h; exact ⟨a, e, e0, r.step w st hw hk⟩
  | xn c fs => obtain ⟨a, p, gs, e, x, t, n, r⟩ := h; exact ⟨a, p, gs, e, x, (st.at w t n).1, (st.at w t n).2, RpF.step w st r⟩
  | gv => exact h
theorem SR.step (r : SR G vs0 O W σ H ρ) (w' : Wf O' W' H') (st : Stp O W H O' W' H') (hw : ∀ b ∈ W, b ∈ W') (hk : ∀ b o, b ∈ W → H b = some o → H' b = some o) (tb : KT0 G.tabs H') : SR G vs0 O' W' σ H' ρ :=
  ⟨w', r.len, fun i s e => (r.slot i s e).step r.wf st hw hk, r.apart, tb, fun q hq => (r.tabs.k q hq).step r.wf st⟩
theorem SR.same (r : SR G vs0 O W σ H ρ) (h : Same H H') : SR G vs0 O W σ H' ρ := r.step (r.wf.same h) (Stp.same h) (fun _ h => h) (fun b o _ e => h b o e) (r.tabs.tc.ext h)
theorem SR.new {a : Addr} (r : SR G vs0 O W σ H ρ) (h : Same H H') (n : H a = none) (n' : ¬ NoD H' a) : SR G vs0 (a :: O) (a :: W) σ H' ρ :=
  r.step (r.wf.new h n') (Stp.new h n) (fun _ h => List.mem_cons_of_mem _ h) (fun b o _ e => h b o e) (r.tabs.tc.ext h)

/-- a list is given up: it is data from now on -/
abbrev off (a : Addr) (l : List Addr) : List Addr := l.filter fun b => decide (b ≠ a)
theorem mem_off {a b : Addr} {l : List Addr} : b ∈ off a l ↔ b ∈ l ∧ b ≠ a := by simp [off]
theorem Stp.off {a : Addr} (ha : a ∈ W) : Stp O W H (off a O) (off a W) H :=
  ⟨fun _ _ h _ _ => h, fun b hb => .inl (mem_off.mp hb).1, fun b hb => .inl (mem_off.mp hb).1, fun _ h => h, fun b hb hn => mem_off.mpr ⟨hb, fun e => hn (e ▸ ha)⟩⟩
theorem Wf.off {a : Addr} (w : Wf O W H) : Wf (off a O) (off a W) H :=
  ⟨fun b hb => mem_off.mpr ⟨w.sub b (mem_off.mp hb).1, (mem_off.mp hb).2⟩, fun b hb => w.trk b (mem_off.mp hb).1⟩
theorem less_off {a : Addr} : ∀ b ∈ off a O, b ∈ O := fun b hb => (mem_off.mp hb).1
theorem OwnAt.off {a b : Addr} {xs : List D} (h : OwnAt G O W H b xs) (hn : b ≠ a) : OwnAt G (off a O) (off a W) H b xs := by
  obtain ⟨h1, vs, h2, h3, h4⟩ := h
  exact ⟨mem_off.mpr ⟨h1, hn⟩, vs, h2, h3, h4.less less_off⟩
theorem OwnAt.data {a : Addr} {xs : List D} (h : OwnAt G O W H a xs) : Rp G (Wm.off a O) H (.lst xs) (.ref a) := by
  obtain ⟨h1, vs, h2, h3, h4⟩ := h
  simp only [Rp]
  exact ⟨a, vs, rfl, ⟨h3, h2, fun z => (mem_off.mp z).2 rfl⟩, h4.less less_off⟩
/-- no slot holds a: it is given up -/
theorem SR.off {a : Addr} (r : SR G vs0 O W σ H ρ) (hn : ∀ (i : Nat) (s : SD), ρ[i]? = some s → s.mine = true → σ[i]? ≠ some (some (.ref a))) : SR G vs0 (off a O) (off a W) σ H ρ := by
  refine ⟨r.wf.off, r.len, fun i s e => ?_, r.apart, r.tabs.tc, fun q hq => (r.tabs.k q hq).less less_off⟩
  have q := r.slot i s e
  have nn := hn i s e
  cases s with
  | no => trivial
  | sh d => obtain ⟨v, e, r⟩ := q; exact ⟨v, e, r.less less_off⟩
  | own xs =>
    obtain ⟨b, e, r⟩ := q
    refine ⟨b, e, r.off fun z => nn rfl ?_⟩
    subst z
    cases hh : σ[i]? with
    | none => rw [hh] at e; cases e
    | some o => rw [hh] at e; exact congrArg some e
  | byr xs =>
    obtain ⟨b, e, e0, r⟩ := q
    refine ⟨b, e, e0, r.off fun z => nn rfl ?_⟩
    subst z
    cases hh : σ[i]? with
    | none => rw [hh] at e; cases e
    | some o => rw [hh] at e; exact congrArg some e
  | xn c fs => obtain ⟨b, p, gs, e, x, t, n, r⟩ := q; exact ⟨b, p, gs, e, x, t, fun z => n (less_off p z), RpF.less less_off r⟩
  | gv => exact q
def SD.frz : SD → D
  | .sh d => d
  | .own xs => .lst xs
  | .byr xs => .lst xs
  | .no => .non
  | .xn _ _ => .non
  | .gv => .non
/-- what an expression gave, as data -/
theorem ResR.frz {v : V} {r : SD} (sr : SR G vs0 O W σ H ρ) (h : ResR G O W σ H ρ v r) : ∃ O' W', Stp O W H O' W' H ∧ SR G vs0 O' W' σ H ρ ∧ Rp G O' H r.frz v := by
  cases r with
  | no => exact h.elim
  | byr xs => exact h.elim
  | xn _ _ => exact h.elim
  | gv => exact h.elim
  | sh d => exact ⟨O, W, Stp.refl, sr, h⟩
  | own xs =>
    obtain ⟨a, e, o, n⟩ := h
    subst e
    exact ⟨off a O, off a W, Stp.off o.1, sr.off n, o.data⟩
theorem join_some {o : Option (Option V)} {v : V} (h : o.join = some v) : o = some (some v) := by
  cases o with
  | none => cases h
  | some o => exact congrArg some h
theorem SR.get {i : Nat} {d : D} (r : SR G vs0 O W σ H ρ) (h : ρ[i]? = some (.sh d)) : ∃ v, σ[i]? = some (some v) ∧ Rp G O H d v := by
  obtain ⟨v, e, q⟩ := r.slot i _ h
  exact ⟨v, join_some e, q⟩
theorem SR.getOwn {i : Nat} {s : SD} {xs : List D} (r : SR G vs0 O W σ H ρ) (h : ρ[i]? = some s) (hs : s = .own xs ∨ s = .byr xs) : ∃ a, σ[i]? = some (some (.ref a)) ∧ OwnAt G O W H a xs := by
  rcases hs with rfl | rfl
  · obtain ⟨a, e, q⟩ := r.slot i _ h
    exact ⟨a, join_some e, q⟩
  · obtain ⟨a, e, _, q⟩ := r.slot i _ h
    exact ⟨a, join_some e, q⟩
/-- a slot is filled with data -/
theorem SR.set {i : Nat} {d : D} {v : V} (r : SR G vs0 O W σ H ρ) (h : Rp G O H d v) : SR G vs0 O W (σ.set i (some v)) H (ρ.set i (.sh d)) := by
  refine ⟨r.wf, by rw [List.length_set, List.length_set, r.len], fun j s e => ?_, fun j k s t a e1 e2 m1 m2 s1 s2 => ?_, r.tabs⟩
  · by_cases hj : i = j
    · subst hj
      by_cases hl : i < ρ.length
      · rw [List.getElem?_set_self hl] at e; cases e
        rw [List.getElem?_set_self (by rw [r.len]; exact hl)]
        exact ⟨v, rfl, h⟩
      · rw [List.getElem?_eq_none (by rw [List.length_set]; omega)] at e; cases e
    · rw [List.getElem?_set_ne hj] at e
      rw [List.getElem?_set_ne hj]
      exact r.slot j s e
  · have nj : i ≠ j := fun z => by
      subst z
      by_cases hl : i < ρ.length
      · rw [List.getElem?_set_self hl] at e1; cases e1; cases m1
      · rw [List.getElem?_eq_none (by rw [List.length_set]; omega)] at e1; cases e1
    have nk : i ≠ k := fun z => by
      subst z
      by_cases hl : i < ρ.length
      · rw [List.getElem?_set_self hl] at e2; cases e2; cases m2
      · rw [List.getElem?_eq_none (by rw [List.length_set]; omega)] at e2; cases e2
    rw [List.getElem?_set_ne nj] at e1 s1
    rw [List.getElem?_set_ne nk] at e2 s2
    exact r.apart j k s t a e1 e2 m1 m2 s1 s2
/-- .. with a list of one's own -/
theorem SR.setOwn {i : Nat} {xs : List D} {a : Addr} (r : SR G vs0 O W σ H ρ) (h : OwnAt G O W H a xs) (hn : ∀ (i : Nat) (s : SD), ρ[i]? = some s → s.mine = true → σ[i]? ≠ some (some (.ref a))) :
    SR G vs0 O W (σ.set i (some (.ref a))) H (ρ.set i (.own xs)) := by
  refine ⟨r.wf, by rw [List.length_set, List.length_set, r.len], fun j s e => ?_, fun j k s t b e1 e2 m1 m2 s1 s2 => ?_, r.tabs⟩
  · by_cases hj : i = j
    · subst hj
      by_cases hl : i < ρ.length
      · rw [List.getElem?_set_self hl] at e; cases e
        rw [List.getElem?_set_self (by rw [r.len]; exact hl)]
        exact ⟨a, rfl, h⟩
      · rw [List.getElem?_eq_none (by rw [List.length_set]; omega)] at e; cases e
    · rw [List.getElem?_set_ne hj] at e
      rw [List.getElem?_set_ne hj]
      exact r.slot j s e
  · have inb : ∀ {k : Nat} {t : SD}, (ρ.set i (.own xs))[k]? = some t → k < σ.length := fun {k t} e => by
      have := (List.getElem?_eq_some_iff.mp e).1
      rw [List.length_set] at this
      rw [r.len]; exact this
    by_cases nj : i = j
    · by_cases nk : i = k
      · exact nj.symm.trans nk
      · subst nj
        rw [List.getElem?_set_self (inb e1)] at s1
        rw [List.getElem?_set_ne nk] at e2 s2
        cases s1
        exact absurd s2 (hn k t e2 m2)
    · by_cases nk : i = k
      · subst nk
        rw [List.getElem?_set_self (inb e2)] at s2
        rw [List.getElem?_set_ne nj] at e1 s1
        cases s2
        exact absurd s1 (hn j s e1 m1)
      · rw [List.getElem?_set_ne nj] at e1 s1
        rw [List.getElem?_set_ne nk] at e2 s2
        exact r.apart j k s t b e1 e2 m1 m2 s1 s2
/-- a result goes into a slot -/
theorem SR.put {i : Nat} {v : V} {s : SD} (r : SR G vs0 O W σ H ρ) (h : ResR G O W σ H ρ v s) : SR G vs0 O W (σ.set i (some v)) H (ρ.set i s) := by
  cases s with
  | no => exact h.elim
  | byr xs => exact h.elim
  | xn _ _ => exact h.elim
  | gv => exact h.elim
  | sh d => exact r.set h
  | own xs =>
    obtain ⟨a, e, o, n⟩ := h
    subst e
    exact r.setOwn o n
/-- a slot's own list becomes data -/
theorem SR.demote {i : Nat} {s : SD} {xs : List D} (r : SR G vs0 O W σ H ρ) (h : ρ[i]? = some s) (hs : s = .own xs ∨ s = .byr xs) :
    ∃ a O' W', σ[i]? = some (some (.ref a)) ∧ Stp O W H O' W' H ∧ SR G vs0 O' W' σ H (ρ.set i (.sh (.lst xs))) ∧ Rp G O' H (.lst xs) (.ref a) := by
  obtain ⟨a, e, o⟩ := r.getOwn h hs
  have hm : s.mine = true := by rcases hs with rfl | rfl <;> rfl
  refine ⟨a, Wm.off a O, Wm.off a W, e, Stp.off o.1, ⟨r.wf.off, by rw [List.length_set, r.len], fun j t q => ?_, fun j k t u b e1 e2 m1 m2 s1 s2 => ?_, r.tabs.tc, fun q hq => (r.tabs.k q hq).less less_off⟩, o.data⟩
  · by_cases hj : i = j
    · subst hj
      rw [List.getElem?_set_self (List.getElem?_eq_some_iff.mp h).1] at q; cases q
      rw [e]
      exact ⟨.ref a, rfl, o.data⟩
    · rw [List.getElem?_set_ne hj] at q
      have z := r.slot j t q
      have ne : ∀ b, t.mine = true → (σ[j]?).join = some (.ref b) → b ≠ a := fun b m w y => by
        subst y
        exact hj (r.apart i j s t b h q hm m e (join_some w))
      cases t with
      | no => trivial
      | sh d => obtain ⟨v, e, r⟩ := z; exact ⟨v, e, r.less less_off⟩
      | own ys => obtain ⟨b, e, r⟩ := z; exact ⟨b, e, r.off (ne b rfl e)⟩
      | byr ys => obtain ⟨b, e, e0, r⟩ := z; exact ⟨b, e, e0, r.off (ne b rfl e)⟩
      | xn c fs => obtain ⟨b, p, gs, e, x, t, n, r⟩ := z; exact ⟨b, p, gs, e, x, t, fun z => n (less_off p z), RpF.less less_off r⟩
      | gv => exact z
  · have nj : i ≠ j := fun z => by
      subst z
      rw [List.getElem?_set_self (List.getElem?_eq_some_iff.mp h).1] at e1; cases e1; cases m1
    have nk : i ≠ k := fun z => by
      subst z
      rw [List.getElem?_set_self (List.getElem?_eq_some_iff.mp h).1] at e2; cases e2; cases m2
    rw [List.getElem?_set_ne nj] at e1
    rw [List.getElem?_set_ne nk] at e2
    exact r.apart j k t u b e1 e2 m1 m2 s1 s2
end

/-! ### constants, names -/
section
variable {X : Cx} {cl : Cl} {vs0 : List V} {Wx : WX}
def xC (d : D) : Sx := fun ρ => .ok (.sh d, ρ)
theorem ej_c {e : Expr} {v : V} {d : D} (h : PE X e (tC v)) (r : ∀ O H, Rp (gx X cl) O H d v) : EJ X cl vs0 Wx e (xC d) :=
  ⟨⟨_, h, fun O W σ H ρ Q sr q => q v O W H Stp.refl sr (r O H)⟩⟩
theorem ej_int {i : Int} {j pos} : EJ X cl vs0 Wx (.Constant (.int i) j pos) (xC (.int i)) := ej_c pe_int fun _ _ => by simp only [Rp]
theorem ej_bl {i : Bool} {j pos} : EJ X cl vs0 Wx (.Constant (.bool i) j pos) (xC (.bl i)) := ej_c pe_bl fun _ _ => by simp only [Rp]
theorem ej_str {i : Str} {j pos} : EJ X cl vs0 Wx (.Constant (.str i) j pos) (xC (.str i)) := ej_c pe_str fun _ _ => by simp only [Rp]
theorem ej_non {j pos} : EJ X cl vs0 Wx (.Constant .none j pos) (xC .non) := ej_c pe_non fun _ _ => by simp only [Rp]
/-- a module's int -/
theorem ej_globI {x : Str} {i : Int} {t : Tok} {pos : Pos} (hg : Gl X x) (hm : X.mg x = some (.int i t)) (hd : (x == ("__debug__" : Str)) = false := by decide) : EJ X cl vs0 Wx (.Name x pos) (xC (.int i)) :=
  ej_c (pe_glob (v := .int i) hg hm ⟨t, rfl⟩ hd) fun _ _ => by simp only [Rp]
/-- a name, for good: a list of one's own is given up -/
def xVar (i : Nat) : Sx := fun ρ => match ρ[i]? with
  | some (.sh d) => .ok (.sh d, ρ)
  | some (.own xs) => .ok (.sh (.lst xs), ρ.set i (.sh (.lst xs)))
  | some (.byr xs) => .ok (.sh (.lst xs), ρ.set i (.sh (.lst xs)))
  | _ => .bad
theorem ej_var {i : Nat} {e : Expr} (h : PE X e (tVar i)) : EJ X cl vs0 Wx e (xVar i) := by
  refine ⟨⟨_, h, fun O W σ H ρ Q sr q => ?_⟩⟩
  unfold xVar at q
  split at q
  · rename_i d e
    obtain ⟨v, e1, r⟩ := sr.get e
    exact ⟨v, e1, q v O W H Stp.refl sr r⟩
  · rename_i xs e
    obtain ⟨a, O', W', e1, st, sr', r⟩ := sr.demote e (.inl rfl)
    exact ⟨_, e1, q (.ref a) O' W' H st sr' r⟩
  · rename_i xs e
    obtain ⟨a, O', W', e1, st, sr', r⟩ := sr.demote e (.inr rfl)
    exact ⟨_, e1, q (.ref a) O' W' H st sr' r⟩
  · exact q.elim
end

/-! ### operands -/
/-- a name that is looked at late, or an expression -/
inductive LOp where
  | va (i : Nat) | ex (f : Sx)
def lookD (ρ : List SD) (i : Nat) : Rs D := match ρ[i]? with
  | some (.sh d) => .ok d
  | some (.own xs) => .ok (.lst xs)
  | some (.byr xs) => .ok (.lst xs)
  | _ => .bad
def ops : List LOp → So
  | [], ρ => .ok ([], ρ)
  | .va i :: r, ρ => (lookD ρ i).bind fun _ => (ops r ρ).bind fun p => (lookD p.2 i).bind fun d => .ok (d :: p.1, p.2)
  | .ex f :: r, ρ => (f ρ).bind fun p => (ops r p.2).bind fun q => .ok (p.1.frz :: q.1, q.2)
def LJ (X : Cx) (cl : Cl) (vs0 : List V) (Wx : WX) (e : Expr) : LOp → Prop
  | .va i => PE X e (tVar i)
  | .ex f => EJ X cl vs0 Wx e f
def tAll : List TE → TA
  | [] => tNil
  | t :: ts => tCons t (tAll ts)
inductive PEs (X : Cx) : List Expr → List TE → Prop where
  | nil : PEs X [] []
  | cons {e : Expr} {t : TE} {es : List Expr} {ts : List TE} : PE X e t → PEs X es ts → PEs X (e :: es) (t :: ts)
structure OJ (X : Cx) (cl : Cl) (vs0 : List V) (Wx : WX) (es : List Expr) (fl : List LOp) : Prop where
  ex : ∃ ts, PEs X es ts ∧ PA X es (tAll ts) ∧ ∀ O W σ H ρ R, SR (gx X cl) vs0 O W σ H ρ → AftO (gx X cl) vs0 Wx O W σ H R (ops fl ρ) → tAll ts σ H R
section
variable {X : Cx} {cl : Cl} {vs0 : List V} {Wx : WX}
theorem lookD_sr {G : Gx} {O W : List Addr} {σ : L2.St} {H : Hp} {ρ : List SD} {i : Nat} {d : D} (sr : SR G vs0 O W σ H ρ) (h : lookD ρ i = .ok d) : ∃ v, σ[i]? = some (some v) ∧ Op1 G O W H d v := by
  unfold lookD at h
  split at h
  · rename_i d' e
    cases h
    obtain ⟨v, e1, r⟩ := sr.get e
    exact ⟨v, e1, .inl r⟩
  · rename_i xs e
    cases h
    obtain ⟨a, e1, o⟩ := sr.getOwn e (.inl rfl)
    exact ⟨_, e1, .inr ⟨a, xs, rfl, rfl, o⟩⟩
  · rename_i xs e
    cases h
    obtain ⟨a, e1, o⟩ := sr.getOwn e (.inr rfl)
    exact ⟨_, e1, .inr ⟨a, xs, rfl, rfl, o⟩⟩
  · cases h
theorem tVar_at {i : Nat} {σ : L2.St} {H : Hp} {Q : VK} {v : V} (h : σ[i]? = some (some v)) (q : Q v H) : tVar i σ H Q := ⟨v, h, q⟩
theorem lookD_noexc {ρ : List SD} {i : Nat} {c : Str} {fs : List (Str × D)} {ρ' : List SD} : lookD ρ i ≠ .exc c fs ρ' := by
  unfold lookD
  split <;> exact fun z => nomatch z
theorem oj_nil : OJ X cl vs0 Wx [] [] := ⟨⟨[], .nil, pa_nil, fun O W σ H ρ R sr h => h [] O W H Stp.refl sr rfl⟩⟩
theorem oj_cons {e : Expr} {es : List Expr} {o : LOp} {fl : List LOp} (h : LJ X cl vs0 Wx e o) (hr : OJ X cl vs0 Wx es fl) (hs : starEach (e :: es) X.env = (false, eval e X.env) :: starEach es X.env := by rfl) : OJ X cl vs0 Wx (e :: es) (o :: fl) := by
  obtain ⟨ts, p1, p2, p3⟩ := hr.ex
  cases o with
  | va i =>
    refine ⟨⟨tVar i :: ts, .cons h p1, pa_cons h p2 hs, fun O W σ H ρ R sr hw => ?_⟩⟩
    have hw' : AftO (gx X cl) vs0 Wx O W σ H R ((lookD ρ i).bind fun _ => (ops fl ρ).bind fun p => (lookD p.2 i).bind fun d => .ok (d :: p.1, p.2)) := hw
    cases e0 : lookD ρ i with
    | bad => rw [e0] at hw'; exact hw'.elim
    | exc c fs ρ' => exact absurd e0 lookD_noexc
    | ok d0 =>
      rw [e0] at hw'
      obtain ⟨v, ev, _⟩ := lookD_sr sr e0
      refine ⟨v, ev, p3 O W σ H ρ _ sr ?_⟩
      have hw2 : AftO (gx X cl) vs0 Wx O W σ H R ((ops fl ρ).bind fun p => (lookD p.2 i).bind fun d => .ok (d :: p.1, p.2)) := hw'
      cases e1 : ops fl ρ with
      | bad => rw [e1] at hw2; exact hw2
      | exc c fs ρ' => rw [e1] at hw2; exact hw2
      | ok p =>
        obtain ⟨ds, ρ1⟩ := p
        rw [e1] at hw2
        have hw3 : AftO (gx X cl) vs0 Wx O W σ H R ((lookD ρ1 i).bind fun d => .ok (d :: ds, ρ1)) := hw2
        intro vs O' W' H' st sr' ho
        cases e2 : lookD ρ1 i with
        | bad => rw [e2] at hw3; exact hw3.elim
        | exc c fs ρ' => exact absurd e2 lookD_noexc
        | ok d =>
          rw [e2] at hw3
          obtain ⟨v', ev', r'⟩ := lookD_sr sr' e2
          rw [ev] at ev'; cases ev'
          exact hw3 (v :: vs) O' W' H' st sr' ⟨v, vs, rfl, r', ho⟩
  | ex f =>
    obtain ⟨t, q1, q2⟩ := h.ex
    refine ⟨⟨t :: ts, .cons q1 p1, pa_cons q1 p2 hs, fun O W σ H ρ R sr hw => ?_⟩⟩
    have hw' : AftO (gx X cl) vs0 Wx O W σ H R ((f ρ).bind fun p => (ops fl p.2).bind fun q => .ok (p.1.frz :: q.1, q.2)) := hw
    refine q2 O W σ H ρ _ sr ?_
    cases e0 : f ρ with
    | bad => rw [e0] at hw'; exact hw'
    | exc c fs ρ' => rw [e0] at hw'; exact hw'
    | ok p =>
      obtain ⟨r, ρ1⟩ := p
      rw [e0] at hw'
      have hw2 : AftO (gx X cl) vs0 Wx O W σ H R ((ops fl ρ1).bind fun q => .ok (r.frz :: q.1, q.2)) := hw'
      intro v O1 W1 H1 st1 sr1 rr
      obtain ⟨O2, W2, st2, sr2, rp⟩ := rr.frz sr1
      have st12 := st1.trans sr.wf st2
      refine p3 O2 W2 σ H1 ρ1 _ sr2 ?_
      cases e1 : ops fl ρ1 with
      | bad => rw [e1] at hw2; exact hw2
      | exc c fs ρ' => rw [e1] at hw2; exact ExcA.back sr.wf st12 hw2
      | ok q =>
        obtain ⟨ds, ρ2⟩ := q
        rw [e1] at hw2
        intro vs O' W' H' st sr' ho
        exact hw2 (v :: vs) O' W' H' (st12.trans sr.wf st) sr' ⟨v, vs, rfl, .inl (rp.step sr2.wf st), ho⟩
end
end Wm
end

section
/-! Operations on data: operators, comparisons, tests, displays, subscripts, slices, built-ins. -/
namespace Wm
open PySem PySem.Spec PyProof.Rows L2

/-- behind an operation: the heap grew at most -/
def AftP (G : Gx) (O : List Addr) (H : Hp) (Q : VK) : Rs SD → Prop
  | .ok (.sh d) => ∀ v H', Same H H' → Rp G O H' d v → Q v H'
  | .ok (.own xs) => ∀ a vs H', Same H H' → H a = none → H' a = some (.lst vs) → vs.length ≤ sizeLine → RpA G O H xs vs → Q (.ref a) H'
  | _ => False
def PrimR (X : Cx) (cl : Cl) (rd : List V → Hp → VK → Prop) (p : List D → Rs SD) : Prop :=
  ∀ O W H ds vs Q, Wf O W H → OpA (gx X cl) O W H ds vs → AftP (gx X cl) O H Q (p ds) → rd vs H Q
def Rs.fin (ρ : List SD) : Rs SD → Rs (SD × List SD)
  | .ok (.sh d) => .ok (.sh d, ρ)
  | .ok (.own xs) => .ok (.own xs, ρ)
  | _ => .bad
def xPrim (fl : List LOp) (p : List D → Rs SD) : Sx := fun ρ => (ops fl ρ).bind fun q => (p q.1).fin q.2
section
variable {X : Cx} {cl : Cl} {vs0 : List V} {Wx : WX}
theorem prim_core {ts : List TE} {fl : List LOp} {p : List D → Rs SD} {rd : List V → Hp → VK → Prop} (hr : PrimR X cl rd p)
    (h : ∀ O W σ H ρ R, SR (gx X cl) vs0 O W σ H ρ → AftO (gx X cl) vs0 Wx O W σ H R (ops fl ρ) → tAll ts σ H R) :
    ∀ O W σ H ρ Q, SR (gx X cl) vs0 O W σ H ρ → AftE (gx X cl) vs0 Wx O W σ H Q (xPrim fl p ρ) → tAll ts σ H fun vs H1 => rd vs H1 Q := by
  intro O W σ H ρ Q sr hw
  refine h O W σ H ρ _ sr ?_
  unfold xPrim at hw
  cases e : ops fl ρ with
  | bad => rw [e] at hw; exact hw
  | exc c fs ρ' => rw [e] at hw; exact hw
  | ok q =>
    obtain ⟨ds, ρ1⟩ := q
    rw [e] at hw
    have hw2 : AftE (gx X cl) vs0 Wx O W σ H Q ((p ds).fin ρ1) := hw
    intro vs O' W' H' st sr' ho
    refine hr O' W' H' ds vs Q sr'.wf ho ?_
    cases e2 : p ds with
    | bad => rw [e2] at hw2; exact hw2
    | exc c fs ρ' => rw [e2] at hw2; exact hw2
    | ok r =>
      rw [e2] at hw2
      cases r with
      | no => exact hw2
      | byr xs => exact hw2
      | xn _ _ => exact hw2
      | gv => exact hw2
      | sh d => exact fun v H2 sm rp => hw2 v O' W' H2 (st.trans sr.wf (Stp.same sm)) (sr'.same sm) rp
      | own xs =>
        intro a vs' H2 sm n n2 hl ra
        refine hw2 (.ref a) (a :: O') (a :: W') H2 (st.trans sr.wf (Stp.new sm n)) (sr'.new sm n (noD_not n2)) ⟨a, rfl, ⟨List.mem_cons_self, vs', n2, hl, ra.step sr'.wf (Stp.new sm n)⟩, fun i s e m z => ?_⟩
        have : ∃ xs, s = .own xs ∨ s = .byr xs := by
          cases s with
          | own xs => exact ⟨xs, .inl rfl⟩
          | byr xs => exact ⟨xs, .inr rfl⟩
          | xn _ _ => cases m
          | gv => cases m
          | no => cases m
          | sh d => cases m
        obtain ⟨ys, hs⟩ := this
        obtain ⟨b, eb, ob⟩ := sr'.getOwn e hs
        rw [eb] at z; cases z
        exact sr'.wf.trk _ (sr'.wf.sub _ ob.1) (noD_none n)

/-! ### operands by kind -/
variable {G : Gx} {O W : List Addr} {H H' : Hp} {ds : List D} {vs : List V} {d e : D} {v : V}
theorem RpA.length : ∀ {ds : List D} {vs : List V}, RpA G O H ds vs → ds.length = vs.length
  | [], vs, h => by simp only [RpA] at h; rw [h]; rfl
  | d :: ds, vs, h => by
    simp only [RpA] at h
    obtain ⟨v, r, e, _, h2⟩ := h
    rw [e, List.length_cons, List.length_cons, RpA.length h2]
theorem RpA.append : ∀ {ds es : List D} {vs ws : List V}, RpA G O H ds vs → RpA G O H es ws → RpA G O H (ds ++ es) (vs ++ ws)
  | [], es, vs, ws, h, q => by simp only [RpA] at h; rw [h]; exact q
  | d :: ds, es, vs, ws, h, q => by
    simp only [RpA] at h
    obtain ⟨v, r, e, h1, h2⟩ := h
    rw [e]
    show RpA G O H (d :: (ds ++ es)) (v :: (r ++ ws))
    simp only [RpA]
    exact ⟨v, _, rfl, h1, RpA.append h2 q⟩
theorem RpA.getV : ∀ {ds : List D} {vs : List V} {i : Nat} {v : V}, RpA G O H ds vs → vs[i]? = some v → ∃ d, ds[i]? = some d ∧ Rp G O H d v
  | [], vs, i, v, h, q => by simp only [RpA] at h; rw [h] at q; cases i <;> cases q
  | d :: ds, vs, i, v, h, q => by
    simp only [RpA] at h
    obtain ⟨w, r, e, h1, h2⟩ := h
    rw [e] at q
    cases i with
    | zero => cases q; exact ⟨d, rfl, h1⟩
    | succ i => exact RpA.getV (ds := ds) (i := i) h2 q
theorem RpA.getD : ∀ {ds : List D} {vs : List V} {i : Nat} {d : D}, RpA G O H ds vs → ds[i]? = some d → ∃ v, vs[i]? = some v ∧ Rp G O H d v
  | [], vs, i, d, h, q => by cases i <;> cases q
  | d' :: ds, vs, i, d, h, q => by
    simp only [RpA] at h
    obtain ⟨w, r, e, h1, h2⟩ := h
    rw [e]
    cases i with
    | zero => cases q; exact ⟨w, rfl, h1⟩
    | succ i => exact RpA.getD (ds := ds) (i := i) h2 q
theorem RpA.drop : ∀ {ds : List D} {vs : List V} (n : Nat), RpA G O H ds vs → RpA G O H (ds.drop n) (vs.drop n)
  | ds, vs, 0, h => h
  | [], vs, n + 1, h => by simp only [RpA] at h; rw [h]; simp only [List.drop_nil, RpA]
  | d :: ds, vs, n + 1, h => by
    simp only [RpA] at h
    obtain ⟨w, r, e, h1, h2⟩ := h
    rw [e]
    exact RpA.drop n h2
theorem RpA.take : ∀ {ds : List D} {vs : List V} (n : Nat), RpA G O H ds vs → RpA G O H (ds.take n) (vs.take n)
  | ds, vs, 0, h => by simp only [List.take_zero, RpA]
  | [], vs, n + 1, h => by simp only [RpA] at h; rw [h]; simp only [List.take_nil, RpA]
  | d :: ds, vs, n + 1, h => by
    simp only [RpA] at h
    obtain ⟨w, r, e, h1, h2⟩ := h
    rw [e]
    show RpA G O H (d :: ds.take n) (w :: r.take n)
    simp only [RpA]
    exact ⟨w, _, rfl, h1, RpA.take n h2⟩
theorem RpA.rep {ds : List D} {vs : List V} (h : RpA G O H ds vs) : ∀ n : Nat, RpA G O H (List.replicate n ds).flatten (List.replicate n vs).flatten
  | 0 => by simp only [List.replicate_zero, List.flatten_nil, RpA]
  | n + 1 => by
    rw [List.replicate_succ, List.replicate_succ, List.flatten_cons, List.flatten_cons]
    exact h.append (RpA.rep h n)
theorem RpA.ints : ∀ {ns : List Int} {vs : List V}, RpA G O H (ns.map D.int) vs → vs = ns.map V.int
  | [], vs, h => by simpa only [List.map_nil, RpA] using h
  | n :: ns, vs, h => by
    simp only [List.map_cons, RpA, Rp] at h
    obtain ⟨v, r, e, h1, h2⟩ := h
    rw [e, h1, RpA.ints h2]; rfl
theorem RpA.bls : ∀ {ns : List Bool} {vs : List V}, RpA G O H (ns.map D.bl) vs → vs = ns.map V.bl
  | [], vs, h => by simpa only [List.map_nil, RpA] using h
  | n :: ns, vs, h => by
    simp only [List.map_cons, RpA, Rp] at h
    obtain ⟨v, r, e, h1, h2⟩ := h
    rw [e, h1, RpA.bls h2]; rfl
theorem Op1.int {i : Int} (h : Op1 G O W H (.int i) v) : v = .int i := by
  rcases h with h | ⟨_, _, h, _⟩
  · simpa only [Rp] using h
  · cases h
theorem Op1.bl {i : Bool} (h : Op1 G O W H (.bl i) v) : v = .bl i := by
  rcases h with h | ⟨_, _, h, _⟩
  · simpa only [Rp] using h
  · cases h
theorem Op1.str {i : Str} (h : Op1 G O W H (.str i) v) : v = .str i := by
  rcases h with h | ⟨_, _, h, _⟩
  · simpa only [Rp] using h
  · cases h
theorem Op1.non (h : Op1 G O W H .non v) : v = .non := by
  rcases h with h | ⟨_, _, h, _⟩
  · simpa only [Rp] using h
  · cases h
theorem Op1.tup (h : Op1 G O W H (.tup ds) v) : ∃ a vs, v = .ref a ∧ TO G.K O H a vs ∧ RpA G O H ds vs := by
  rcases h with h | ⟨_, _, h, _⟩
  · simpa only [Rp] using h
  · cases h
theorem Op1.lst (h : Op1 G O W H (.lst ds) v) : ∃ a vs, v = .ref a ∧ H a = some (.lst vs) ∧ vs.length ≤ sizeLine ∧ RpA G O H ds vs := by
  rcases h with h | ⟨a, _, h, e, _, vs, h2, h3, h4⟩
  · simp only [Rp] at h
    obtain ⟨a, vs, e, t, r⟩ := h
    exact ⟨a, vs, e, t.2.1, t.1, r⟩
  · cases h
    exact ⟨a, vs, e, h2, h3, h4⟩
theorem Op1.scr {ns : List Int} (h : Op1 G O W H (.scr ns) v) : ∃ a, v = .ref a ∧ ScO G.K O H a (ns.map V.int) := by
  rcases h with h | ⟨_, _, h, _⟩
  · simpa only [Rp] using h
  · cases h
theorem RpA.ofInts : ∀ {ns : List Int}, RpA G O H (ns.map D.int) (ns.map V.int)
  | [] => by simp only [List.map_nil, RpA]
  | n :: ns => by
    simp only [List.map_cons, RpA, Rp]
    exact ⟨_, _, rfl, rfl, RpA.ofInts⟩
theorem OpA.one (h : OpA G O W H [d] vs) : ∃ v, vs = [v] ∧ Op1 G O W H d v := by
  obtain ⟨v, r, e, h1, h2⟩ := h
  have h2 : r = [] := h2
  subst h2
  exact ⟨v, e, h1⟩
theorem OpA.two (h : OpA G O W H [d, e] vs) : ∃ v w, vs = [v, w] ∧ Op1 G O W H d v ∧ Op1 G O W H e w := by
  obtain ⟨v, r, ev, h1, h2⟩ := h
  obtain ⟨w, ew, h3⟩ := OpA.one h2
  subst ew
  exact ⟨v, w, ev, h1, h3⟩
/-- a new tuple -/
theorem rp_tup {p : Addr} (w : Wf O W H) (n : H p = none) (hl : vs.length ≤ sizeLine) (h : RpA G O H ds vs) : Rp G O (upd H p (.tup vs)) (.tup ds) (.ref p) := by
  simp only [Rp]
  refine ⟨p, vs, rfl, ⟨hl, .inl ⟨.inl upd_same, fun z => w.trk p z (noD_none n)⟩⟩, h.step w (Stp.same fun b o e => ?_)⟩
  rw [upd_ne (ne_of_none e n)]
  exact e
theorem same_upd {p : Addr} {o : HO} (n : H p = none) : Same H (upd H p o) := fun b x e => by
  rw [upd_ne (ne_of_none e n)]
  exact e
end

/-! ### operators -/
def rd1 (r : V → Hp → VK → Prop) : List V → Hp → VK → Prop := fun vs H Q => match vs with
  | [x] => r x H Q
  | _ => False
def rd2 (r : R2) : List V → Hp → VK → Prop := fun vs H Q => match vs with
  | [x, y] => r x y H Q
  | _ => False
section
variable {X : Cx} {cl : Cl} {vs0 : List V} {Wx : WX}
theorem two_of {a b : Expr} {fl : List LOp} (h : OJ X cl vs0 Wx [a, b] fl) : ∃ ta tb, PE X a ta ∧ PE X b tb ∧ ∀ O W σ H ρ R, SR (gx X cl) vs0 O W σ H ρ → AftO (gx X cl) vs0 Wx O W σ H R (ops fl ρ) → tAll [ta, tb] σ H R := by
  obtain ⟨ts, p, _, q⟩ := h.ex
  cases p with
  | cons p1 p =>
    cases p with
    | cons p2 p =>
      cases p
      exact ⟨_, _, p1, p2, q⟩
theorem one_of {a : Expr} {fl : List LOp} (h : OJ X cl vs0 Wx [a] fl) : ∃ ta, PE X a ta ∧ ∀ O W σ H ρ R, SR (gx X cl) vs0 O W σ H ρ → AftO (gx X cl) vs0 Wx O W σ H R (ops fl ρ) → tAll [ta] σ H R := by
  obtain ⟨ts, p, _, q⟩ := h.ex
  cases p with
  | cons p1 p =>
    cases p
    exact ⟨_, p1, q⟩
theorem ej_bin {op : Operator} {a b : Expr} {pos : Pos} {r : R2} {fl : List LOp} {p : List D → Rs SD} (ho : OpR X (binaryOp op) r) (hp : PrimR X cl (rd2 r) p) (h : OJ X cl vs0 Wx [a, b] fl) : EJ X cl vs0 Wx (.BinOp a op b pos) (xPrim fl p) := by
  obtain ⟨ta, tb, ha, hb, q⟩ := two_of h
  exact ⟨⟨_, pe_op ho ha hb, prim_core hp q⟩⟩
theorem ej_un {op : UnaryOp} {a : Expr} {pos : Pos} {r : V → Hp → VK → Prop} {fl : List LOp} {p : List D → Rs SD} (ho : UnR X (unaryOp op) r) (hp : PrimR X cl (rd1 r) p) (h : OJ X cl vs0 Wx [a] fl) : EJ X cl vs0 Wx (.UnaryOp op a pos) (xPrim fl p) := by
  obtain ⟨ta, ha, q⟩ := one_of h
  exact ⟨⟨_, pe_un ho ha, prim_core hp q⟩⟩
theorem ej_cmp {op : CmpOp} {a b : Expr} {pos : Pos} {r : R2} {fl : List LOp} {p : List D → Rs SD} (ho : OpR X (compareOp op) r) (hp : PrimR X cl (rd2 r) p) (h : OJ X cl vs0 Wx [a, b] fl) (hm : behindInMarks op b = false) : EJ X cl vs0 Wx (.Compare a [op] [b] pos) (xPrim fl p) := by
  obtain ⟨ta, tb, ha, hb, q⟩ := two_of h
  exact ⟨⟨_, pe_cmpR ho ha hb hm, prim_core hp q⟩⟩
theorem ej_ix {a b : Expr} {pos : Pos} {r : R2} {fl : List LOp} {p : List D → Rs SD} (ho : IxR X r) (hp : PrimR X cl (rd2 r) p) (h : OJ X cl vs0 Wx [a, b] fl) (hs : PlainIx b) : EJ X cl vs0 Wx (.Subscript a b pos) (xPrim fl p) := by
  obtain ⟨ta, tb, ha, hb, q⟩ := two_of h
  exact ⟨⟨_, pe_ix ho ha hb hs, prim_core hp q⟩⟩

def pAdd : List D → Rs SD
  | [.int i, .int j] => .ok (.sh (.int (i + j)))
  | [.tup xs, .tup ys] => if xs.length + ys.length ≤ sizeLine then .ok (.sh (.tup (xs ++ ys))) else .bad
  | [.lst xs, .lst ys] => if xs.length + ys.length ≤ sizeLine then .ok (.own (xs ++ ys)) else .bad
  | [.scr ns, .lst ys] => if ns.length + ys.length ≤ sizeLine then .ok (.own (ns.map .int ++ ys)) else .bad
  | _ => .bad
/-- the script and a list -/
def rCatC (K : PySem.W.Frag) : R2 := fun x y H Q => ∃ l b xs zs, x = .ref l ∧ y = .ref b ∧ SqL K H l xs ∧ H b = some (.lst zs) ∧ xs.length + zs.length ≤ sizeLine ∧ ∀ p, H p = none → Q (.ref p) (upd H p (.lst (xs ++ zs)))
theorem list_addW (l : Addr) (items : Array Value) (n : Nat) (dd : Option Addr) (sl : Array (Option Value)) (b : Addr) (items2 : Array Value) (n2 : Nat) (hsz : items.size + items2.size ≤ sizeLine) :
    Meets (Builtin.«list.__add__» ⟨[.ref l, .ref b], []⟩) (fun _ R s => s.heap.get? l = some { cls := .type "list", dict := dd, data := .seq items n, slots := sl } ∧ s.heap.get? b = some { cls := .type "list", data := .seq items2 n2 } ∧
      R (.ok (.ret (Value.ref s.heap.objs.size))) { s with heap := s.heap.push { cls := Value.type "list", data := Data.seq (items ++ items2) } }) :=
  .of_wp fun prog w A R s h => by
    obtain ⟨hp, g, d, tk, os⟩ := s
    obtain ⟨hl, hb, h⟩ := h
    have ff := AutoSeq1.sub_list_list
    wp_walk using wpAny_loadPart' hl, wpAny_loadPart' hb
    exact ⟨_, rfl, h⟩
theorem op_catC : OpR X (binaryOp .Add) (rCatC X.K) := by
  intro pins s σ H x y v u Q I rx ry h
  obtain ⟨l, b, xs, zs, rfl, rfl, hH, hB, hz, q⟩ := h
  cases rx
  cases ry
  obtain ⟨its, r, ⟨⟨oc, od, odt, osl⟩, n, e, hc, hd, hs⟩, _⟩ := I.list hH
  obtain ⟨z2, its2, n2, r2, hl2, e2⟩ := I.lstM hB
  have hl := r.length
  simp only at hc hd hs
  subst hc hd hs
  refine concat_meets ⟨_, e, rfl⟩ ⟨_, e2, rfl⟩ noFill_list_add seq_list_add F.slot_list_add F.entry_list_add (F.args_list_add_2 _ _)
    (list_addW l its.toArray n none osl b its2.toArray n2 (by rw [List.size_toArray, List.size_toArray]; omega)) ⟨e, e2, ?_⟩
  rw [show its.toArray ++ its2.toArray = (its ++ its2).toArray by simp]
  exact ⟨.ref _, _, I.lnew (t' := s.toks) (r.append r2) (by rw [List.length_append]; omega), rfl, q _ I.fresh⟩
theorem op_addD : OpR X (binaryOp .Add) (fun x y H Q => rI0 (fun i j => .int (i + j)) x y H Q ∨ rCatA X.K x y H Q ∨ rCat x y H Q ∨ rCatC X.K x y H Q) := op_add.or (op_catA.or (op_cat.or op_catC))
theorem pr_add : PrimR X cl (rd2 fun x y H Q => rI0 (fun i j => .int (i + j)) x y H Q ∨ rCatA X.K x y H Q ∨ rCat x y H Q ∨ rCatC X.K x y H Q) pAdd := by
  intro O W H ds vs Q w ho hp
  unfold pAdd at hp
  split at hp
  · obtain ⟨x, y, rfl, h1, h2⟩ := ho.two
    exact .inl ⟨_, _, h1.int, h2.int, hp _ H (Same.refl H) (by simp only [Rp])⟩
  · obtain ⟨x, y, rfl, h1, h2⟩ := ho.two
    split at hp
    · rename_i hz
      obtain ⟨a, xs, e1, t1, r1⟩ := h1.tup
      obtain ⟨b, ys, e2, t2, r2⟩ := h2.tup
      have l1 := r1.length
      have l2 := r2.length
      have hz' : xs.length + ys.length ≤ sizeLine := by omega
      refine .inr (.inl ⟨a, b, xs, ys, e1, e2, t1.sq, t2.sq, hz', fun z => ?_, fun _ z => ?_, fun _ _ p n => ?_⟩)
      · subst z
        refine hp _ H (Same.refl H) ?_
        have : (_ : List D) = [] := List.eq_nil_of_length_eq_zero l1
        rw [this, List.nil_append]
        simp only [Rp]
        exact ⟨b, ys, rfl, t2, r2⟩
      · subst z
        refine hp _ H (Same.refl H) ?_
        have : (_ : List D) = [] := List.eq_nil_of_length_eq_zero l2
        rw [this, List.append_nil]
        simp only [Rp]
        exact ⟨a, xs, rfl, t1, r1⟩
      · exact hp _ _ (same_upd n) (rp_tup w n (by rw [List.length_append]; exact hz') (r1.append r2))
    · exact hp.elim
  · obtain ⟨x, y, rfl, h1, h2⟩ := ho.two
    split at hp
    · rename_i hz
      obtain ⟨a, xs, e1, t1, z1, r1⟩ := h1.lst
      obtain ⟨b, ys, e2, t2, z2, r2⟩ := h2.lst
      have l1 := r1.length
      have l2 := r2.length
      have hz' : xs.length + ys.length ≤ sizeLine := by omega
      exact .inr (.inr (.inl ⟨a, b, xs, ys, e1, e2, t1, t2, hz', fun p n => hp p _ _ (same_upd n) n upd_same (by rw [List.length_append]; exact hz') (r1.append r2)⟩))
    · exact hp.elim
  · obtain ⟨x, y, rfl, h1, h2⟩ := ho.two
    split at hp
    · rename_i ns es hz
      obtain ⟨a, e1, t1⟩ := h1.scr
      obtain ⟨b, ys, e2, t2, z2, r2⟩ := h2.lst
      have l2 := r2.length
      have hz' : (ns.map V.int).length + ys.length ≤ sizeLine := by rw [List.length_map]; omega
      exact .inr (.inr (.inr ⟨a, b, _, ys, e1, e2, t1.sq, t2, hz', fun p n => hp p _ _ (same_upd n) n upd_same (by rw [List.length_append]; exact hz') (RpA.append RpA.ofInts r2)⟩))
    · exact hp.elim
  · exact hp.elim
theorem ej_add {a b : Expr} {pos : Pos} {fl : List LOp} (h : OJ X cl vs0 Wx [a, b] fl) : EJ X cl vs0 Wx (.BinOp a .Add b pos) (xPrim fl pAdd) := ej_bin op_addD pr_add h
end
end Wm
end

section
/-! More operations on data. -/
namespace Wm
open PySem PySem.Spec PyProof.Rows L2

/-! ### data compared -/
mutual
def eqD : D → D → Bool
  | .non, .non => true
  | .bl a, .bl b => a == b
  | .bl a, .int j => (if a then 1 else 0) == j
  | .int i, .bl b => i == (if b then 1 else 0)
  | .int i, .int j => i == j
  | .str x, .str y => x == y
  | .lst xs, .lst ys => eqDs xs ys
  | .tup xs, .tup ys => eqDs xs ys
  | _, _ => false
def eqDs : List D → List D → Bool
  | [], [] => true
  | x :: xs, y :: ys => eqD x y && eqDs xs ys
  | _, _ => false
end
mutual
def okN : Nat → D → Bool
  | _, .non => true
  | _, .bl _ => true
  | _, .int _ => true
  | _, .str x => PyData.strOk x
  | n + 1, .tup xs => okNs n xs
  | n + 1, .lst xs => okNs n xs
  | _, _ => false
def okNs : Nat → List D → Bool
  | _, [] => true
  | n, x :: xs => okN n x && okNs n xs
end
mutual
def D.py : D → PyData
  | .non => .none
  | .bl b => .bool b
  | .int i => .int i
  | .str x => .str x
  | .tup xs => .tuple (pys xs)
  | .lst xs => .list (pys xs)
  | .ins _ _ => .none
  | .scr _ => .none
  | .dct _ => .none
def pys : List D → List PyData
  | [] => []
  | x :: xs => x.py :: pys xs
end
mutual
theorem okN_lay : ∀ {n : Nat} {d : D}, okN n d = true → d.py.canLay0 = true ∧ d.py.depth ≤ n
  | n, .non, _ => by simp [D.py, PyData.canLay0, PyData.depth]
  | n, .bl _, _ => by simp [D.py, PyData.canLay0, PyData.depth]
  | n, .int _, _ => by simp [D.py, PyData.canLay0, PyData.depth]
  | n, .str x, h => by simp only [okN] at h; simp [D.py, PyData.canLay0, PyData.depth, h]
  | 0, .tup xs, h => by simp [okN] at h
  | 0, .lst xs, h => by simp [okN] at h
  | n + 1, .tup xs, h => by
    simp only [okN] at h
    have := okNs_lay h
    simp only [D.py, PyData.canLay0, PyData.depth]
    exact ⟨this.1, Nat.succ_le_succ this.2⟩
  | n + 1, .lst xs, h => by
    simp only [okN] at h
    have := okNs_lay h
    simp only [D.py, PyData.canLay0, PyData.depth]
    exact ⟨this.1, Nat.succ_le_succ this.2⟩
  | n, .ins _ _, h => by cases n <;> simp [okN] at h
  | n, .scr _, h => by cases n <;> simp [okN] at h
theorem okNs_lay : ∀ {n : Nat} {ds : List D}, okNs n ds = true → PyData.canLayAll0 (pys ds) = true ∧ PyData.depthAll (pys ds) ≤ n
  | n, [], _ => by simp [pys, PyData.canLayAll0, PyData.depthAll]
  | n, d :: ds, h => by
    simp only [okNs, Bool.and_eq_true] at h
    have h1 := okN_lay h.1
    have h2 := okNs_lay h.2
    simp only [pys, PyData.canLayAll0, PyData.depthAll, Bool.and_eq_true]
    exact ⟨⟨h1.1, h2.1⟩, Nat.max_le.mpr ⟨h1.2, h2.2⟩⟩
end
mutual
theorem eqD_py : ∀ {n m : Nat} {d e : D}, okN n d = true → okN m e = true → PyData.eqv d.py e.py = eqD d e
  | n, m, d, .ins _ _, _, h => by cases m <;> simp [okN] at h
  | n, m, .ins _ _, e, h, _ => by cases n <;> simp [okN] at h
  | n, m, d, .scr _, _, h => by cases m <;> simp [okN] at h
  | n, m, .scr _, e, h, _ => by cases n <;> simp [okN] at h
  | n, m, .non, .non, _, _ | n, m, .non, .bl _, _, _ | n, m, .non, .int _, _, _ | n, m, .non, .str _, _, _ | n, m, .non, .tup _, _, _ | n, m, .non, .lst _, _, _ => by simp [D.py, PyData.eqv, eqD]
  | n, m, .bl _, .non, _, _ | n, m, .bl _, .bl _, _, _ | n, m, .bl _, .int _, _, _ | n, m, .bl _, .str _, _, _ | n, m, .bl _, .tup _, _, _ | n, m, .bl _, .lst _, _, _ => by simp [D.py, PyData.eqv, eqD]
  | n, m, .int _, .non, _, _ | n, m, .int _, .bl _, _, _ | n, m, .int _, .int _, _, _ | n, m, .int _, .str _, _, _ | n, m, .int _, .tup _, _, _ | n, m, .int _, .lst _, _, _ => by simp [D.py, PyData.eqv, eqD]
  | n, m, .str _, .non, _, _ | n, m, .str _, .bl _, _, _ | n, m, .str _, .int _, _, _ | n, m, .str _, .str _, _, _ | n, m, .str _, .tup _, _, _ | n, m, .str _, .lst _, _, _ => by simp [D.py, PyData.eqv, eqD]
  | n, m, .tup _, .non, _, _ | n, m, .tup _, .bl _, _, _ | n, m, .tup _, .int _, _, _ | n, m, .tup _, .str _, _, _ | n, m, .tup _, .lst _, _, _ => by simp [D.py, PyData.eqv, eqD]
  | n, m, .lst _, .non, _, _ | n, m, .lst _, .bl _, _, _ | n, m, .lst _, .int _, _, _ | n, m, .lst _, .str _, _, _ | n, m, .lst _, .tup _, _, _ => by simp [D.py, PyData.eqv, eqD]
  | 0, m, .tup xs, .tup ys, h, _ => by simp [okN] at h
  | n + 1, 0, .tup xs, .tup ys, _, h => by simp [okN] at h
  | 0, m, .lst xs, .lst ys, h, _ => by simp [okN] at h
  | n + 1, 0, .lst xs, .lst ys, _, h => by simp [okN] at h
  | n + 1, m + 1, .tup xs, .tup ys, h, h' => by
    simp only [okN] at h h'
    simp only [D.py, PyData.eqv, eqD]
    exact eqDs_py h h'
  | n + 1, m + 1, .lst xs, .lst ys, h, h' => by
    simp only [okN] at h h'
    simp only [D.py, PyData.eqv, eqD]
    exact eqDs_py h h'
theorem eqDs_py : ∀ {n m : Nat} {ds es : List D}, okNs n ds = true → okNs m es = true → PyData.eqvAll (pys ds) (pys es) = eqDs ds es
  | n, m, [], [], _, _ => by simp [pys, PyData.eqvAll, eqDs]
  | n, m, [], _ :: _, _, _ => by simp [pys, PyData.eqvAll, eqDs]
  | n, m, _ :: _, [], _, _ => by simp [pys, PyData.eqvAll, eqDs]
  | n, m, d :: ds, e :: es, h, h' => by
    simp only [okNs, Bool.and_eq_true] at h h'
    simp only [pys, PyData.eqvAll, eqDs, eqD_py h.1 h'.1, eqDs_py h.2 h'.2]
end
section
variable {G : Gx} {O W : List Addr} {H : Hp}
mutual
theorem Rp.dp : ∀ {n : Nat} {d : D} {v : V}, okN n d = true → Rp G O H d v → Dp G.K H v d.py
  | n, .non, v, _, h => by simp only [Rp] at h; subst h; simp only [D.py]; exact .non
  | n, .bl b, v, _, h => by simp only [Rp] at h; subst h; simp only [D.py]; exact .bl b
  | n, .int b, v, _, h => by simp only [Rp] at h; subst h; simp only [D.py]; exact .int b
  | n, .str b, v, _, h => by simp only [Rp] at h; subst h; simp only [D.py]; exact .str b
  | 0, .tup ds, v, h, _ => by simp [okN] at h
  | 0, .lst ds, v, h, _ => by simp [okN] at h
  | n + 1, .tup ds, v, h, q => by
    simp only [Rp] at q
    obtain ⟨a, vs, rfl, t, r⟩ := q
    simp only [okN] at h
    simp only [D.py]
    exact .tup t.sq (RpA.dp h r)
  | n + 1, .lst ds, v, h, q => by
    simp only [Rp] at q
    obtain ⟨a, vs, rfl, t, r⟩ := q
    simp only [okN] at h
    simp only [D.py]
    exact .lst t.sq (RpA.dp h r)
  | n, .ins _ _, v, h, _ => by cases n <;> simp [okN] at h
  | n, .scr _, v, h, _ => by cases n <;> simp [okN] at h
theorem RpA.dp : ∀ {n : Nat} {ds : List D} {vs : List V}, okNs n ds = true → RpA G O H ds vs → DpAll G.K H vs (pys ds)
  | n, [], vs, _, h => by simp only [RpA] at h; subst h; simp only [pys]; exact .nil
  | n, d :: ds, vs, h, q => by
    simp only [RpA] at q
    obtain ⟨v, r, rfl, h1, h2⟩ := q
    simp only [okNs, Bool.and_eq_true] at h
    simp only [pys]
    exact .cons (Rp.dp h.1 h1) (RpA.dp h.2 h2)
end
theorem Op1.dp {n : Nat} {d : D} {v : V} (h : okN n d = true) (q : Op1 G O W H d v) : Dp G.K H v d.py := by
  rcases q with q | ⟨a, xs, rfl, rfl, _, vs, h2, h3, h4⟩
  · exact q.dp h
  · cases n with
    | zero => simp [okN] at h
    | succ n =>
      simp only [okN] at h
      simp only [D.py]
      exact .lst (SqL.of h2) (h4.dp h)
end
/-- depth and texts as must be -/
abbrev okD (d : D) : Bool := okN 60 d
theorem okD_shaped {d : D} (h : okD d = true) : SeqAt.shaped d.py = true := by
  have := okN_lay h
  unfold SeqAt.shaped
  rw [this.1, decide_eq_true (show d.py.depth ≤ 64 by omega)]
  rfl
def pEq : List D → Rs SD
  | [x, y] => if okD x && okD y then .ok (.sh (.bl (eqD x y))) else .bad
  | _ => .bad
def pNe : List D → Rs SD
  | [x, y] => if okD x && okD y then .ok (.sh (.bl (!eqD x y))) else .bad
  | _ => .bad
section
variable {X : Cx} {cl : Cl} {vs0 : List V} {Wx : WX}
theorem pr_eq : PrimR X cl (rd2 (rEqD X.K)) pEq := by
  intro O W H ds vs Q w ho hp
  unfold pEq at hp
  split at hp
  · split at hp
    · rename_i hk
      rw [Bool.and_eq_true] at hk
      obtain ⟨x, y, rfl, h1, h2⟩ := ho.two
      refine ⟨_, _, h1.dp hk.1, h2.dp hk.2, okD_shaped hk.1, okD_shaped hk.2, ?_⟩
      rw [eqD_py hk.1 hk.2]
      exact hp _ H (Same.refl H) (by simp only [Rp])
    · exact hp.elim
  · exact hp.elim
theorem pr_ne : PrimR X cl (rd2 (rNeD X.K)) pNe := by
  intro O W H ds vs Q w ho hp
  unfold pNe at hp
  split at hp
  · split at hp
    · rename_i hk
      rw [Bool.and_eq_true] at hk
      obtain ⟨x, y, rfl, h1, h2⟩ := ho.two
      refine ⟨_, _, h1.dp hk.1, h2.dp hk.2, okD_shaped hk.1, okD_shaped hk.2, ?_⟩
      rw [eqD_py hk.1 hk.2]
      exact hp _ H (Same.refl H) (by simp only [Rp])
    · exact hp.elim
  · exact hp.elim

/-! ### ints -/
def pI2 (C : Int → Int → Prop) [∀ i j, Decidable (C i j)] (g : Int → Int → D) : List D → Rs SD
  | [.int i, .int j] => if C i j then .ok (.sh (g i j)) else .bad
  | _ => .bad
theorem pr_I2 {C : Int → Int → Prop} [∀ i j, Decidable (C i j)] {g : Int → Int → D} {gv : Int → Int → V} {r : R2} (hg : ∀ (G : Gx) O H i j, Rp G O H (g i j) (gv i j)) (hr : ∀ x y H Q, rI C gv x y H Q → r x y H Q) : PrimR X cl (rd2 r) (pI2 C g) := by
  intro O W H ds vs Q w ho hp
  unfold pI2 at hp
  split at hp
  · split at hp
    · rename_i hc
      obtain ⟨x, y, rfl, h1, h2⟩ := ho.two
      exact hr _ _ _ _ ⟨_, _, h1.int, h2.int, hc, hp _ H (Same.refl H) (hg _ _ _ _ _)⟩
    · exact hp.elim
  · exact hp.elim
def pI0 (g : Int → Int → D) : List D → Rs SD
  | [.int i, .int j] => .ok (.sh (g i j))
  | _ => .bad
theorem pr_I0 {g : Int → Int → D} {gv : Int → Int → V} (hg : ∀ (G : Gx) O H i j, Rp G O H (g i j) (gv i j)) : PrimR X cl (rd2 (rI0 gv)) (pI0 g) := by
  intro O W H ds vs Q w ho hp
  unfold pI0 at hp
  split at hp
  · obtain ⟨x, y, rfl, h1, h2⟩ := ho.two
    exact ⟨_, _, h1.int, h2.int, hp _ H (Same.refl H) (hg _ _ _ _ _)⟩
  · exact hp.elim
abbrev pSub := pI0 fun i j => .int (i - j)
abbrev pLt := pI0 fun i j => .bl (decide (i < j))
abbrev pLe := pI0 fun i j => .bl (decide (i ≤ j))
abbrev pGt := pI0 fun i j => .bl (decide (j < i))
abbrev pGe := pI0 fun i j => .bl (decide (j ≤ i))
/-- the model asks nothing of these -/
noncomputable instance decMul (i j : Int) : Decidable (IntMulOk i j) := Classical.propDecidable _
def CDv (_ j : Int) : Prop := j ≠ 0 ∧ j.natAbs.log2 < 9000
instance (i j : Int) : Decidable (CDv i j) := by unfold CDv; infer_instance
def CMd (_ j : Int) : Prop := j ≠ 0
instance (i j : Int) : Decidable (CMd i j) := by unfold CMd; infer_instance
abbrev pFdiv := pI2 CDv fun i j => .int (i.fdiv j)
abbrev pMod := pI2 CMd fun i j => .int (i.fmod j)
theorem op_fdivD : OpR X (binaryOp .FloorDiv) (rI CDv fun i j => .int (i.fdiv j)) := opI fun i j _ _ _ _ _ hc q => floordiv_int hc.1 q (.inl (PyProof.noPylong_of_log2 hc.2))
instance (i j : Int) : Decidable (CPow i j) := by unfold CPow; infer_instance
abbrev pPow := pI2 CPow fun i j => .int (i ^ j.toNat)
theorem op_mulI : OpR X (binaryOp .Mult) (rI IntMulOk fun i j => .int (i * j)) := opI fun _ _ _ _ _ _ _ hc q => mul_int q hc
variable {a b : Expr} {pos : Pos} {fl : List LOp}
theorem ej_sub (h : OJ X cl vs0 Wx [a, b] fl) : EJ X cl vs0 Wx (.BinOp a .Sub b pos) (xPrim fl pSub) := ej_bin op_sub (pr_I0 fun _ _ _ _ _ => by simp only [Rp]) h
theorem ej_fdiv (h : OJ X cl vs0 Wx [a, b] fl) : EJ X cl vs0 Wx (.BinOp a .FloorDiv b pos) (xPrim fl pFdiv) := ej_bin op_fdivD (pr_I2 (fun _ _ _ _ _ => by simp only [Rp]) fun _ _ _ _ h => h) h
theorem ej_mod (h : OJ X cl vs0 Wx [a, b] fl) : EJ X cl vs0 Wx (.BinOp a .Mod b pos) (xPrim fl pMod) := ej_bin op_modN (pr_I2 (fun _ _ _ _ _ => by simp only [Rp]) fun _ _ _ _ h => h) h
theorem ej_pow (h : OJ X cl vs0 Wx [a, b] fl) : EJ X cl vs0 Wx (.BinOp a .Pow b pos) (xPrim fl pPow) := ej_bin op_pow (pr_I2 (fun _ _ _ _ _ => by simp only [Rp]) fun _ _ _ _ h => h) h
theorem ej_lt (h : OJ X cl vs0 Wx [a, b] fl) : EJ X cl vs0 Wx (.Compare a [.Lt] [b] pos) (xPrim fl pLt) := ej_cmp op_lt (pr_I0 fun _ _ _ _ _ => by simp only [Rp]) h (nomark _)
theorem ej_le (h : OJ X cl vs0 Wx [a, b] fl) : EJ X cl vs0 Wx (.Compare a [.LtE] [b] pos) (xPrim fl pLe) := ej_cmp op_le (pr_I0 fun _ _ _ _ _ => by simp only [Rp]) h (nomark _)
theorem ej_gt (h : OJ X cl vs0 Wx [a, b] fl) : EJ X cl vs0 Wx (.Compare a [.Gt] [b] pos) (xPrim fl pGt) := ej_cmp op_gt (pr_I0 fun _ _ _ _ _ => by simp only [Rp]) h (nomark _)
theorem ej_ge (h : OJ X cl vs0 Wx [a, b] fl) : EJ X cl vs0 Wx (.Compare a [.GtE] [b] pos) (xPrim fl pGe) := ej_cmp op_ge (pr_I0 fun _ _ _ _ _ => by simp only [Rp]) h (nomark _)
theorem ej_eq (hu : X.A.units + 64 < cLine) (h : OJ X cl vs0 Wx [a, b] fl) : EJ X cl vs0 Wx (.Compare a [.Eq] [b] pos) (xPrim fl pEq) := ej_cmp (op_eqD hu) pr_eq h (nomark _)
theorem ej_ne (hu : X.A.units + 64 < cLine) (h : OJ X cl vs0 Wx [a, b] fl) : EJ X cl vs0 Wx (.Compare a [.NotEq] [b] pos) (xPrim fl pNe) := ej_cmp (op_neD hu) pr_ne h (nomark _)
def pNeg : List D → Rs SD
  | [.int i] => .ok (.sh (.int (-i)))
  | _ => .bad
theorem ej_neg (h : OJ X cl vs0 Wx [a] fl) : EJ X cl vs0 Wx (.UnaryOp .USub a pos) (xPrim fl pNeg) := ej_un un_neg (fun O W H ds vs Q w ho hp => by
  unfold pNeg at hp
  split at hp
  · obtain ⟨x, rfl, h1⟩ := ho.one
    exact ⟨_, h1.int, hp _ H (Same.refl H) (by simp only [Rp])⟩
  · exact hp.elim) h
def pIsN : List D → Rs SD
  | [.non, .non] => .ok (.sh (.bl true))
  | [_, .non] => .ok (.sh (.bl false))
  | _ => .bad
def pNotN : List D → Rs SD
  | [.non, .non] => .ok (.sh (.bl false))
  | [_, .non] => .ok (.sh (.bl true))
  | _ => .bad
theorem Op1.notNon {G : Gx} {O W : List Addr} {H : Hp} {d : D} {v : V} (h : Op1 G O W H d v) (hd : d ≠ .non) : v ≠ .non := by
  rcases h with h | ⟨a, xs, rfl, rfl, _⟩
  · cases d <;> simp only [Rp] at h
    · exact absurd rfl hd
    · rw [h]; exact fun z => nomatch z
    · rw [h]; exact fun z => nomatch z
    · rw [h]; exact fun z => nomatch z
    · obtain ⟨a, vs, e, _⟩ := h; rw [e]; exact fun z => nomatch z
    · obtain ⟨a, vs, e, _⟩ := h; rw [e]; exact fun z => nomatch z
    · obtain ⟨a, vs, _, e, _⟩ := h; rw [e]; exact fun z => nomatch z
    · obtain ⟨a, e, _⟩ := h; rw [e]; exact fun z => nomatch z
    · obtain ⟨a, gs, e, _⟩ := h; rw [e]; exact fun z => nomatch z
  · exact fun z => nomatch z
theorem ej_isN (h : OJ X cl vs0 Wx [a, b] fl) : EJ X cl vs0 Wx (.Compare a [.Is] [b] pos) (xPrim fl pIsN) := ej_cmp op_isN (fun O W H ds vs Q w ho hp => by
  unfold pIsN at hp
  split at hp
  · obtain ⟨x, y, rfl, h1, h2⟩ := ho.two
    refine ⟨h2.non, ?_⟩
    rw [h1.non]
    exact hp _ H (Same.refl H) (by simp [Rp])
  · rename_i d hd
    obtain ⟨x, y, rfl, h1, h2⟩ := ho.two
    refine ⟨h2.non, ?_⟩
    rw [decide_eq_false (h1.notNon fun z => hd z)]
    exact hp _ H (Same.refl H) (by simp [Rp])
  · exact hp.elim) h (nomark _)
theorem ej_notN (h : OJ X cl vs0 Wx [a, b] fl) : EJ X cl vs0 Wx (.Compare a [.IsNot] [b] pos) (xPrim fl pNotN) := ej_cmp op_notN (fun O W H ds vs Q w ho hp => by
  unfold pNotN at hp
  split at hp
  · obtain ⟨x, y, rfl, h1, h2⟩ := ho.two
    refine ⟨h2.non, ?_⟩
    rw [h1.non]
    exact hp _ H (Same.refl H) (by simp [Rp])
  · rename_i d hd
    obtain ⟨x, y, rfl, h1, h2⟩ := ho.two
    refine ⟨h2.non, ?_⟩
    rw [decide_eq_false (h1.notNon fun z => hd z)]
    exact hp _ H (Same.refl H) (by simp [Rp])
  · exact hp.elim) h (nomark _)
end
end Wm
end

section
/-! Products, subscripts, slices, displays, built-ins. -/
namespace Wm
open PySem PySem.Spec PyProof.Rows L2
theorem tuple_mulS (l : Addr) (items : Array Value) (n : Nat) (dd : Option Addr) (sl : Array (Option Value)) (x : Int) (u : Tok) (c0 : (decide (x < -(2 ^ 63)) || decide (x ≥ 2 ^ 63)) = false) (c1 : (items.isEmpty || x == 1) = true) :
    Meets (Builtin.«tuple.__mul__» ⟨[.ref l, .int x u], []⟩) (fun _ R s => s.heap.get? l = some { cls := .type "tuple", dict := dd, data := .seq items n, slots := sl } ∧
      R (.ok (.ret (Value.ref l))) s) :=
  .of_wp fun prog w A R s h => by
    obtain ⟨hp, g, d, tk, os⟩ := s
    obtain ⟨hl, h⟩ := h
    have f1 := AutoSeq1.idx_int
    wp_walk using wpAny_loadPart' hl
    repeat (first
      | (refine wpAny_ite_false (decide_eq_false (by rw [c0]; exact Bool.false_ne_true)) ?_; wp_walk using wpAny_loadPart' hl)
      | (refine wpAny_ite_true (decide_eq_true (by rw [c1])) ?_; wp_walk using wpAny_loadPart' hl))
    exact ⟨_, rfl, h⟩
theorem tuple_mul0 (l : Addr) (items : Array Value) (n : Nat) (dd : Option Addr) (sl : Array (Option Value)) (x : Int) (u : Tok) (c0 : (decide (x < -(2 ^ 63)) || decide (x ≥ 2 ^ 63)) = false) (c1 : (items.isEmpty || x == 1) = false) (c2 : (decide (x ≤ 0) || items.isEmpty) = true) :
    Meets (Builtin.«tuple.__mul__» ⟨[.ref l, .int x u], []⟩) (fun _ R s => s.heap.get? l = some { cls := .type "tuple", dict := dd, data := .seq items n, slots := sl } ∧
      R (.ok (.ret (Value.ref s.heap.objs.size))) { s with heap := s.heap.push { cls := Value.type "tuple", data := Data.seq #[] }, toks := s.toks }) :=
  .of_wp fun prog w A R s h => by
    obtain ⟨hp, g, d, tk, os⟩ := s
    obtain ⟨hl, h⟩ := h
    have f1 := AutoSeq1.idx_int
    wp_walk using wpAny_loadPart' hl
    repeat (first
      | (refine wpAny_ite_false (decide_eq_false (by rw [c0]; exact Bool.false_ne_true)) ?_; wp_walk using wpAny_loadPart' hl)
      | (refine wpAny_ite_false (decide_eq_false (by rw [c1]; exact Bool.false_ne_true)) ?_; wp_walk using wpAny_loadPart' hl)
      | (refine wpAny_ite_true (decide_eq_true (by rw [c2])) ?_; wp_walk using wpAny_loadPart' hl))
    exact ⟨_, rfl, h⟩

section
variable {X : Cx} {cl : Cl} {vs0 : List V} {Wx : WX}
/-! ### a tuple, a list so many times -/
def rRepS (K : PySem.W.Frag) : R2 := fun x y H Q => ∃ l k xs, x = .ref l ∧ y = .int k ∧ SqT K H l xs ∧ (xs = [] ∨ k = 1) ∧ -(2 ^ 63) ≤ k ∧ k < 2 ^ 63 ∧ Q (.ref l) H
def rRep0 (K : PySem.W.Frag) : R2 := fun x y H Q => ∃ l k xs, x = .ref l ∧ y = .int k ∧ SqT K H l xs ∧ xs ≠ [] ∧ k ≤ 0 ∧ -(2 ^ 63) ≤ k ∧ ∀ p, H p = none → Q (.ref p) (upd H p (.tup []))
theorem op_repS : OpR X (binaryOp .Mult) (rRepS X.K) := by
  intro pins s σ H x y v u Q I rx ry h
  obtain ⟨l, k, xs, rfl, rfl, hT, hne, h1, h2, q⟩ := h
  cases rx
  obtain ⟨t, rfl⟩ := ry
  obtain ⟨its, r, ⟨⟨cls, dd, data, sl⟩, ho, hc, n, hd⟩, hs⟩ := I.tuple hT
  simp only at hc hd
  subst hc hd
  have c0 : (decide (k < -(2 ^ 63)) || decide (k ≥ 2 ^ 63)) = false := by
    rw [decide_eq_false (by omega), decide_eq_false (by omega)] <;> rfl
  have c1 : (its.toArray.isEmpty || k == 1) = true := by
    rcases hne with z | z
    · subst z
      cases r
      rfl
    · rw [z]; simp
  refine wpAny_binaryOp_repeat_ref (T := "tuple") (U := "int") (by decide) ⟨_, ho, rfl⟩ (fun s' => typeIs_int s' k t) noFill_tuple_mul F.fills_int_mul F.slot_int_rmul repeat_tuple F.slot_int_index.lookup
    (call_meets F.slot_int_rmul (typeIs_int s k t) F.entry_int_rmul (F.args_int_rmul_2 _ _) (int_rmul_tuple k t l its.toArray n dd sl)
      ⟨ho, rfl, ⟨_, ho, rfl⟩, call_meets F.slot_tuple_mul ⟨_, ho, rfl⟩ F.entry_tuple_mul (F.args_tuple_mul_2 _ _) (tuple_mulS l its.toArray n dd sl k t c0 c1) ⟨ho, ?_⟩⟩)
  exact ⟨.ref l, H, I, rfl, q⟩
theorem op_rep0 : OpR X (binaryOp .Mult) (rRep0 X.K) := by
  intro pins s σ H x y v u Q I rx ry h
  obtain ⟨l, k, xs, rfl, rfl, hT, hne, h1, h2, q⟩ := h
  cases rx
  obtain ⟨t, rfl⟩ := ry
  obtain ⟨its, r, ⟨⟨cls, dd, data, sl⟩, ho, hc, n, hd⟩, hs⟩ := I.tuple hT
  simp only at hc hd
  subst hc hd
  have c0 : (decide (k < -(2 ^ 63)) || decide (k ≥ 2 ^ 63)) = false := by
    rw [decide_eq_false (by omega), decide_eq_false (by omega)] <;> rfl
  have hi : its.toArray.isEmpty = false := by
    cases r with
    | nil => exact absurd rfl hne
    | cons a b => rfl
  have c1 : (its.toArray.isEmpty || k == 1) = false := by
    rw [hi, Bool.false_or]
    exact beq_eq_false_iff_ne.mpr (by omega)
  have c2 : (decide (k ≤ 0) || its.toArray.isEmpty) = true := by
    rw [decide_eq_true h1]; rfl
  refine wpAny_binaryOp_repeat_ref (T := "tuple") (U := "int") (by decide) ⟨_, ho, rfl⟩ (fun s' => typeIs_int s' k t) noFill_tuple_mul F.fills_int_mul F.slot_int_rmul repeat_tuple F.slot_int_index.lookup
    (call_meets F.slot_int_rmul (typeIs_int s k t) F.entry_int_rmul (F.args_int_rmul_2 _ _) (int_rmul_tuple k t l its.toArray n dd sl)
      ⟨ho, rfl, ⟨_, ho, rfl⟩, call_meets F.slot_tuple_mul ⟨_, ho, rfl⟩ F.entry_tuple_mul (F.args_tuple_mul_2 _ _) (tuple_mul0 l its.toArray n dd sl k t c0 c1 c2) ⟨ho, ?_⟩⟩)
  refine ⟨.ref s.heap.objs.size, _, I.laid (t' := s.toks) (o := .tup []) (fun b ob q => Heap.get?_push_of_some _ q) (Nat.le_refl _) ?_, rfl, q _ (I.hok.fresh (Nat.le_refl _))⟩
  exact ⟨Nat.zero_le _, [], .nil, IsTup.new _ _⟩
noncomputable def pMul : List D → Rs SD
  | [.int i, .int j] => if IntMulOk i j then .ok (.sh (.int (i * j))) else .bad
  | [.tup xs, .int k] => if -(2 ^ 63) ≤ k ∧ k ≤ 1000 ∧ xs.length ≤ 1000 then .ok (.sh (.tup (List.replicate k.toNat xs).flatten)) else .bad
  | [.lst xs, .int k] => if -(2 ^ 63) ≤ k ∧ k < 2 ^ 63 ∧ xs.length * k.toNat ≤ sizeLine then .ok (.own (List.replicate k.toNat xs).flatten) else .bad
  | _ => .bad
theorem op_mulD : OpR X (binaryOp .Mult) (fun x y H Q => rI IntMulOk (fun i j => .int (i * j)) x y H Q ∨ rRepS X.K x y H Q ∨ rRep0 X.K x y H Q ∨ rRepT X.K x y H Q ∨ rRep x y H Q) := op_mulI.or (op_repS.or (op_rep0.or (op_repT.or op_rep)))
theorem pr_mul : PrimR X cl (rd2 fun x y H Q => rI IntMulOk (fun i j => .int (i * j)) x y H Q ∨ rRepS X.K x y H Q ∨ rRep0 X.K x y H Q ∨ rRepT X.K x y H Q ∨ rRep x y H Q) pMul := by
  intro O W H ds vs Q w ho hp
  unfold pMul at hp
  split at hp
  · obtain ⟨x, y, rfl, h1, h2⟩ := ho.two
    split at hp
    · rename_i hc
      exact .inl ⟨_, _, h1.int, h2.int, hc, hp _ H (Same.refl H) (by simp only [Rp])⟩
    · exact hp.elim
  · rename_i ds k
    obtain ⟨x, y, rfl, h1, h2⟩ := ho.two
    split at hp
    · rename_i hz
      obtain ⟨a, xs, e1, t1, r1⟩ := h1.tup
      have l1 := r1.length
      by_cases hk : k = 1
      · refine .inr (.inl ⟨a, k, xs, e1, h2.int, t1.sq, .inr hk, hz.1, by omega, hp _ H (Same.refl H) ?_⟩)
        subst hk
        simp only [Rp]
        exact ⟨a, xs, rfl, t1, by simpa using r1⟩
      · by_cases hx : xs = []
        · refine .inr (.inl ⟨a, k, xs, e1, h2.int, t1.sq, .inl hx, hz.1, by omega, hp _ H (Same.refl H) ?_⟩)
          subst hx
          have : ds = [] := List.eq_nil_of_length_eq_zero l1
          subst this
          simp only [Rp]
          exact ⟨a, [], rfl, t1, by simpa using RpA.rep r1 k.toNat⟩
        · by_cases h0 : k ≤ 0
          · refine .inr (.inr (.inl ⟨a, k, xs, e1, h2.int, t1.sq, hx, h0, hz.1, fun p n => hp _ _ (same_upd n) ?_⟩))
            have e0 : k.toNat = 0 := by omega
            rw [e0]
            exact rp_tup w n (Nat.zero_le _) (by simp only [List.replicate_zero, List.flatten_nil, RpA])
          · refine .inr (.inr (.inr (.inl ⟨a, k, xs, e1, h2.int, t1.sq, hx, by omega, hz.2.1, by omega, fun p n => hp _ _ (same_upd n) (rp_tup w n ?_ (RpA.rep r1 k.toNat))⟩)))
            rw [PyProof.Rows.lm_len_rep_flat, sizeLine_eq]
            have a1 : k.toNat * xs.length ≤ 1000 * 1000 := Nat.mul_le_mul (by omega) (by omega)
            omega
    · exact hp.elim
  · obtain ⟨x, y, rfl, h1, h2⟩ := ho.two
    split at hp
    · rename_i hz
      obtain ⟨a, xs, e1, t1, z1, r1⟩ := h1.lst
      have l1 := r1.length
      rw [l1] at hz
      refine .inr (.inr (.inr (.inr ⟨a, _, xs, e1, h2.int, t1, hz.1, hz.2.1, hz.2.2, fun p n => hp p _ _ (same_upd n) n upd_same ?_ (RpA.rep r1 _)⟩)))
      rw [PyProof.Rows.lm_len_rep_flat, Nat.mul_comm]
      exact hz.2.2
    · exact hp.elim
  · exact hp.elim
variable {a b : Expr} {pos : Pos} {fl : List LOp}
theorem ej_mul (h : OJ X cl vs0 Wx [a, b] fl) : EJ X cl vs0 Wx (.BinOp a .Mult b pos) (xPrim fl pMul) := ej_bin op_mulD pr_mul h

/-! ### subscripts -/
def pIx : List D → Rs SD
  | [.lst xs, .int i] => match atI xs i with
    | some d => .ok (.sh d)
    | none => .bad
  | [.tup xs, .int i] => match atI xs i with
    | some d => .ok (.sh d)
    | none => .bad
  | _ => .bad
theorem atI_rp {G : Gx} {O : List Addr} {H : Hp} {ds : List D} {vs : List V} {i : Int} {d : D} (r : RpA G O H ds vs) (h : atI ds i = some d) : ∃ v, atI vs i = some v ∧ Rp G O H d v := by
  unfold atI at h ⊢
  rw [r.length] at h
  cases e : ixN vs.length i with
  | none => rw [e] at h; cases h
  | some j =>
    rw [e] at h
    exact r.getD h
theorem pr_ix : PrimR X cl (rd2 (rIx X.K)) pIx := by
  intro O W H ds vs Q w ho hp
  unfold pIx at hp
  split at hp
  · obtain ⟨x, y, rfl, h1, h2⟩ := ho.two
    split at hp
    · rename_i d e
      obtain ⟨a, xs, e1, t1, z1, r1⟩ := h1.lst
      obtain ⟨v, ev, rv⟩ := atI_rp r1 e
      exact .inl ⟨a, xs, _, v, e1, h2.int, SqL.of t1, ev, hp v H (Same.refl H) rv⟩
    · exact hp.elim
  · obtain ⟨x, y, rfl, h1, h2⟩ := ho.two
    split at hp
    · rename_i d e
      obtain ⟨a, xs, e1, t1, r1⟩ := h1.tup
      obtain ⟨v, ev, rv⟩ := atI_rp r1 e
      exact .inr (.inl ⟨a, xs, _, v, e1, h2.int, t1.sq, ev, hp v H (Same.refl H) rv⟩)
    · exact hp.elim
  · exact hp.elim
theorem ej_sbs (h : OJ X cl vs0 Wx [a, b] fl) (hs : PlainIx b := by exact fun _ _ => rfl) : EJ X cl vs0 Wx (.Subscript a b pos) (xPrim fl pIx) := ej_ix ix_seq pr_ix h hs
end
end Wm
end

section
/-! Slices, displays, built-ins, tests. -/
namespace Wm
open PySem PySem.Spec PyProof.Rows L2
section
variable {X : Cx} {cl : Cl} {vs0 : List V} {Wx : WX}
/-! ### slices -/
def cutL {α : Type} (xs : List α) (lo hi : Option Int) : List α := (xs.drop (HT.sIx xs.length 0 lo)).take (HT.sIx xs.length xs.length hi - HT.sIx xs.length 0 lo)
theorem RpA.cut {G : Gx} {O : List Addr} {H : Hp} {ds : List D} {vs : List V} (r : RpA G O H ds vs) (lo hi : Option Int) : RpA G O H (cutL ds lo hi) (cutV vs lo hi) := by
  unfold cutL cutV
  rw [r.length]
  exact (r.drop _).take _
def slD (lo hi : Option Int) : D → Rs SD
  | .lst xs => .ok (.own (cutL xs lo hi))
  | .tup xs => .ok (.sh (.tup (cutL xs lo hi)))
  | _ => .bad
def rSl (K : PySem.W.Frag) : V → Option Int → Option Int → Hp → VK → Prop := fun x lo hi H Q => rSlL K x lo hi H Q ∨ rSlA K x lo hi H Q
theorem sl_any : SlR X (rSl X.K) := sl_list.or sl_tupA
theorem sl_ok {O W : List Addr} {H : Hp} {d : D} {v : V} {lo hi : Option Int} {Q : VK} (w : Wf O W H) (h : Op1 (gx X cl) O W H d v) (hp : AftP (gx X cl) O H Q (slD lo hi d)) : rSl X.K v lo hi H Q := by
  cases d with
  | lst xs =>
    obtain ⟨a, vs, e, t, z, r⟩ := h.lst
    refine .inl ⟨a, vs, e, SqL.of t, fun p n => hp p _ _ (same_upd n) n upd_same (Nat.le_trans (cutV_length _ _ _) z) (r.cut lo hi)⟩
  | tup xs =>
    obtain ⟨a, vs, e, t, r⟩ := h.tup
    subst e
    refine .inr ⟨a, vs, rfl, t.sq, fun hw => hp _ H (Same.refl H) ?_, fun _ p n => hp _ _ (same_upd n) (rp_tup w n (Nat.le_trans (cutV_length _ _ _) t.1) (r.cut lo hi))⟩
    simp only [Rp]
    refine ⟨a, vs, rfl, t, ?_⟩
    have e2 : cutL xs lo hi = xs := by
      unfold cutL
      rw [r.length, hw.1, hw.2, Nat.sub_zero, List.drop_zero]
      exact List.take_of_length_le (Nat.le_of_eq r.length)
    rw [e2]; exact r
  | _ => exact hp.elim
def pSlLo : List D → Rs SD
  | [d, .int i] => slD (some i) none d
  | _ => .bad
def pSlHi : List D → Rs SD
  | [d, .int j] => slD none (some j) d
  | _ => .bad
def pSl0 : List D → Rs SD
  | [d] => slD none none d
  | _ => .bad
variable {a b c e : Expr} {pos p2 : Pos} {fl : List LOp}
theorem OpA.three {G : Gx} {O W : List Addr} {H : Hp} {d1 d2 d3 : D} {vs : List V} (h : OpA G O W H [d1, d2, d3] vs) : ∃ v w u, vs = [v, w, u] ∧ Op1 G O W H d1 v ∧ Op1 G O W H d2 w ∧ Op1 G O W H d3 u := by
  obtain ⟨v, r, ev, h1, h2⟩ := h
  obtain ⟨w, u, ew, h3, h4⟩ := OpA.two h2
  subst ew
  exact ⟨v, w, u, ev, h1, h3, h4⟩
theorem ej_slLo (h : OJ X cl vs0 Wx [a, b] fl) : EJ X cl vs0 Wx (.Subscript a (.Slice (some b) none none p2) pos) (xPrim fl pSlLo) := by
  obtain ⟨ta, tb, ha, hb, q⟩ := two_of h
  refine ⟨⟨_, pe_slice sl_any ha (po_some hb) po_none, prim_core (rd := rd2 fun x y H Q => ∃ i, y = .int i ∧ rSl X.K x (some i) none H Q) (fun O W H ds vs Q w ho hp => ?_) q⟩⟩
  unfold pSlLo at hp
  split at hp
  · obtain ⟨x, y, rfl, h1, h2⟩ := ho.two
    exact ⟨_, h2.int, sl_ok w h1 hp⟩
  · exact hp.elim
theorem ej_slHi (h : OJ X cl vs0 Wx [a, b] fl) : EJ X cl vs0 Wx (.Subscript a (.Slice none (some b) none p2) pos) (xPrim fl pSlHi) := by
  obtain ⟨ta, tb, ha, hb, q⟩ := two_of h
  refine ⟨⟨_, pe_slice sl_any ha po_none (po_some hb), prim_core (rd := rd2 fun x y H Q => ∃ i, y = .int i ∧ rSl X.K x none (some i) H Q) (fun O W H ds vs Q w ho hp => ?_) q⟩⟩
  unfold pSlHi at hp
  split at hp
  · obtain ⟨x, y, rfl, h1, h2⟩ := ho.two
    exact ⟨_, h2.int, sl_ok w h1 hp⟩
  · exact hp.elim

/-! ### things that are kept: displays -/
def mops : List Sx → So
  | [], ρ => .ok ([], ρ)
  | f :: r, ρ => (f ρ).bind fun p => (mops r p.2).bind fun q => .ok (p.1.frz :: q.1, q.2)
def AftM (G : Gx) (vs0 : List V) (Wx : WX) (O W : List Addr) (σ : L2.St) (H : Hp) (Q : List V → Hp → Prop) : Rs (List D × List SD) → Prop
  | .ok (ds, ρ') => ∀ vs O' W' H', Stp O W H O' W' H' → SR G vs0 O' W' σ H' ρ' → RpA G O' H' ds vs → Q vs H'
  | .exc c fs ρ' => ExcA G vs0 Wx O W σ H c fs ρ'
  | .bad => False
structure MJ (X : Cx) (cl : Cl) (vs0 : List V) (Wx : WX) (es : List Expr) (fs : List Sx) : Prop where
  ex : ∃ t, PA X es t ∧ ∀ O W σ H ρ R, SR (gx X cl) vs0 O W σ H ρ → AftM (gx X cl) vs0 Wx O W σ H R (mops fs ρ) → t σ H R
theorem mj_nil : MJ X cl vs0 Wx [] [] := ⟨⟨_, pa_nil, fun O W σ H ρ R sr h => h [] O W H Stp.refl sr (by simp only [RpA])⟩⟩
theorem mj_cons {es : List Expr} {f : Sx} {fs : List Sx} (h : EJ X cl vs0 Wx e f) (hr : MJ X cl vs0 Wx es fs) (hs : starEach (e :: es) X.env = (false, eval e X.env) :: starEach es X.env := by rfl) : MJ X cl vs0 Wx (e :: es) (f :: fs) := by
  obtain ⟨ta, p2, p3⟩ := hr.ex
  obtain ⟨t, q1, q2⟩ := h.ex
  refine ⟨⟨_, pa_cons q1 p2 hs, fun O W σ H ρ R sr hw => ?_⟩⟩
  have hw' : AftM (gx X cl) vs0 Wx O W σ H R ((f ρ).bind fun p => (mops fs p.2).bind fun q => .ok (p.1.frz :: q.1, q.2)) := hw
  refine q2 O W σ H ρ _ sr ?_
  cases e0 : f ρ with
  | bad => rw [e0] at hw'; exact hw'
  | exc c fs ρ' => rw [e0] at hw'; exact hw'
  | ok p =>
    obtain ⟨r, ρ1⟩ := p
    rw [e0] at hw'
    have hw2 : AftM (gx X cl) vs0 Wx O W σ H R ((mops fs ρ1).bind fun q => .ok (r.frz :: q.1, q.2)) := hw'
    intro v O1 W1 H1 st1 sr1 rr
    obtain ⟨O2, W2, st2, sr2, rp⟩ := rr.frz sr1
    have st12 := st1.trans sr.wf st2
    refine p3 O2 W2 σ H1 ρ1 _ sr2 ?_
    cases e1 : mops fs ρ1 with
    | bad => rw [e1] at hw2; exact hw2
    | exc c fs ρ' => rw [e1] at hw2; exact ExcA.back sr.wf st12 hw2
    | ok q =>
      obtain ⟨ds, ρ2⟩ := q
      rw [e1] at hw2
      intro vs O' W' H' st sr' ho
      refine hw2 (v :: vs) O' W' H' (st12.trans sr.wf st) sr' ?_
      simp only [RpA]
      exact ⟨v, vs, rfl, rp.step sr2.wf st, ho⟩
def xLst (fs : List Sx) : Sx := fun ρ => (mops fs ρ).bind fun q => if q.1.length ≤ sizeLine then .ok (.own q.1, q.2) else .bad
def xTup (fs : List Sx) : Sx := fun ρ => (mops fs ρ).bind fun q => if q.1.length ≤ sizeLine then .ok (.sh (.tup q.1), q.2) else .bad
theorem new_apart {G : Gx} {O W : List Addr} {σ : L2.St} {H : Hp} {ρ : List SD} {a : Addr} (sr : SR G vs0 O W σ H ρ) (n : H a = none) : ∀ (i : Nat) (s : SD), ρ[i]? = some s → s.mine = true → σ[i]? ≠ some (some (.ref a)) := fun i s e m z => by
  have : ∃ xs, s = .own xs ∨ s = .byr xs := by
    cases s with
    | own xs => exact ⟨xs, .inl rfl⟩
    | byr xs => exact ⟨xs, .inr rfl⟩
    | xn _ _ => cases m
    | gv => cases m
    | no => cases m
    | sh d => cases m
  obtain ⟨ys, hs⟩ := this
  obtain ⟨b, eb, ob⟩ := sr.getOwn e hs
  rw [eb] at z; cases z
  exact sr.wf.trk _ (sr.wf.sub _ ob.1) (noD_none n)
theorem ej_lst {es : List Expr} {fs : List Sx} (h : MJ X cl vs0 Wx es fs) : EJ X cl vs0 Wx (.List es pos) (xLst fs) := by
  obtain ⟨t, p, q⟩ := h.ex
  refine ⟨⟨_, pe_lst p, fun O W σ H ρ Q sr hw => q O W σ H ρ _ sr ?_⟩⟩
  unfold xLst at hw
  cases e : mops fs ρ with
  | bad => rw [e] at hw; exact hw
  | exc c fs ρ' => rw [e] at hw; exact hw
  | ok w =>
    obtain ⟨ds, ρ1⟩ := w
    rw [e] at hw
    have hw2 : AftE (gx X cl) vs0 Wx O W σ H Q (if ds.length ≤ sizeLine then .ok (.own ds, ρ1) else .bad) := hw
    intro vs O' W' H' st sr' ra
    split at hw2
    · rename_i hz
      refine ⟨by rw [← ra.length]; exact hz, fun p n => hw2 (.ref p) (p :: O') (p :: W') _ (st.trans sr.wf (Stp.new (same_upd n) n)) (sr'.new (same_upd n) n (noD_not upd_same)) ⟨p, rfl, ⟨List.mem_cons_self, vs, upd_same, by rw [← ra.length]; exact hz, ra.step sr'.wf (Stp.new (same_upd n) n)⟩, new_apart sr' n⟩⟩
    · exact hw2.elim
theorem ej_tup {es : List Expr} {fs : List Sx} {k : Nat} (h : MJ X cl vs0 Wx es fs) : EJ X cl vs0 Wx (.Tuple es k pos) (xTup fs) := by
  obtain ⟨t, p, q⟩ := h.ex
  refine ⟨⟨_, pe_tup p, fun O W σ H ρ Q sr hw => q O W σ H ρ _ sr ?_⟩⟩
  unfold xTup at hw
  cases e : mops fs ρ with
  | bad => rw [e] at hw; exact hw
  | exc c fs ρ' => rw [e] at hw; exact hw
  | ok w =>
    obtain ⟨ds, ρ1⟩ := w
    rw [e] at hw
    have hw2 : AftE (gx X cl) vs0 Wx O W σ H Q (if ds.length ≤ sizeLine then .ok (.sh (.tup ds), ρ1) else .bad) := hw
    intro vs O' W' H' st sr' ra
    split at hw2
    · rename_i hz
      exact ⟨by rw [← ra.length]; exact hz, fun p n => hw2 (.ref p) O' W' _ (st.trans sr.wf (Stp.same (same_upd n))) (sr'.same (same_upd n)) (rp_tup sr'.wf n (by rw [← ra.length]; exact hz) ra)⟩
    · exact hw2.elim

/-! ### built-ins by name -/
theorem ej_callB {x : Str} {id : String} {r : List V → Hp → VK → Prop} {p : Pos} {es : List Expr} {pr : List D → Rs SD} (hc : CallR X (.builtin id) r) (hp : PrimR X cl r pr) (hg : Gl X x) (hm : X.mg x = none) (hv : bootBuiltins x = some (.builtin id)) (h : OJ X cl vs0 Wx (e :: es) fl)
    (hn : x ≠ "__name__" := by decide) (hdb : (x == ("__debug__" : Str)) = false := by decide) (he : starEach (e :: es) X.env = (false, eval e X.env) :: starEach es X.env := by rfl) (hpl : (backTo pos (starEach es X.env)).any (·.1) = false := by rfl) :
    EJ X cl vs0 Wx (.Call (.Name x p) (e :: es) [] pos) (xPrim fl pr) := by
  obtain ⟨ts, _, pa, q⟩ := h.ex
  exact ⟨⟨_, pe_callB hc hg hm hv pa hn hdb he hpl, prim_core hp q⟩⟩
theorem ej_callTy {x : Str} {id : String} {r : List V → Hp → VK → Prop} {p : Pos} {es : List Expr} {pr : List D → Rs SD} (hc : CallR X (.type id) r) (hp : PrimR X cl r pr) (hg : Gl X x) (hm : X.mg x = none) (hv : bootBuiltins x = some (.type id)) (h : OJ X cl vs0 Wx (e :: es) fl)
    (hn : x ≠ "__name__" := by decide) (hdb : (x == ("__debug__" : Str)) = false := by decide) (he : starEach (e :: es) X.env = (false, eval e X.env) :: starEach es X.env := by rfl) (hpl : (backTo pos (starEach es X.env)).any (·.1) = false := by rfl) :
    EJ X cl vs0 Wx (.Call (.Name x p) (e :: es) [] pos) (xPrim fl pr) := by
  obtain ⟨ts, _, pa, q⟩ := h.ex
  exact ⟨⟨_, pe_callTy hc hg hm hv pa hn hdb he hpl, prim_core hp q⟩⟩
def pLen : List D → Rs SD
  | [.lst xs] => .ok (.sh (.int xs.length))
  | [.tup xs] => .ok (.sh (.int xs.length))
  | _ => .bad
theorem pr_len : PrimR X cl (fun xs H Q => ∃ p ys, xs = [.ref p] ∧ (SqL X.K H p ys ∨ SqT X.K H p ys) ∧ Q (.int ys.length) H) pLen := by
  intro O W H ds vs Q w ho hp
  unfold pLen at hp
  split at hp
  · obtain ⟨x, rfl, h1⟩ := ho.one
    obtain ⟨a, xs, rfl, t1, z1, r1⟩ := h1.lst
    rw [r1.length] at hp
    exact ⟨a, xs, rfl, .inl (SqL.of t1), hp _ H (Same.refl H) (by simp only [Rp])⟩
  · obtain ⟨x, rfl, h1⟩ := ho.one
    obtain ⟨a, xs, rfl, t1, r1⟩ := h1.tup
    rw [r1.length] at hp
    exact ⟨a, xs, rfl, .inr t1.sq, hp _ H (Same.refl H) (by simp only [Rp])⟩
  · exact hp.elim
def pList : List D → Rs SD
  | [.lst xs] => .ok (.own xs)
  | [.tup xs] => .ok (.own xs)
  | _ => .bad
theorem pr_list : PrimR X cl (fun xs H Q => ∃ p ys, xs = [.ref p] ∧ (SqL X.K H p ys ∨ SqT X.K H p ys) ∧ ∀ l, H l = none → Q (.ref l) (upd H l (.lst ys))) pList := by
  intro O W H ds vs Q w ho hp
  unfold pList at hp
  split at hp
  · obtain ⟨x, rfl, h1⟩ := ho.one
    obtain ⟨a, xs, rfl, t1, z1, r1⟩ := h1.lst
    exact ⟨a, xs, rfl, .inl (SqL.of t1), fun l n => hp l _ _ (same_upd n) n upd_same z1 r1⟩
  · obtain ⟨x, rfl, h1⟩ := ho.one
    obtain ⟨a, xs, rfl, t1, r1⟩ := h1.tup
    exact ⟨a, xs, rfl, .inr t1.sq, fun l n => hp l _ _ (same_upd n) n upd_same t1.1 r1⟩
  · exact hp.elim
def pTuple : List D → Rs SD
  | [.lst xs] => .ok (.sh (.tup xs))
  | [.tup xs] => .ok (.sh (.tup xs))
  | _ => .bad
theorem pr_tuple : PrimR X cl (fun xs H Q => ∃ p ys, xs = [.ref p] ∧ ((SqL X.K H p ys ∧ ∀ l, H l = none → Q (.ref l) (upd H l (.tup ys))) ∨ (SqT X.K H p ys ∧ Q (.ref p) H))) pTuple := by
  intro O W H ds vs Q w ho hp
  unfold pTuple at hp
  split at hp
  · obtain ⟨x, rfl, h1⟩ := ho.one
    obtain ⟨a, xs, rfl, t1, z1, r1⟩ := h1.lst
    exact ⟨a, xs, rfl, .inl ⟨SqL.of t1, fun l n => hp _ _ (same_upd n) (rp_tup w n z1 r1)⟩⟩
  · obtain ⟨x, rfl, h1⟩ := ho.one
    obtain ⟨a, xs, rfl, t1, r1⟩ := h1.tup
    exact ⟨a, xs, rfl, .inr ⟨t1.sq, hp _ H (Same.refl H) (by simp only [Rp]; exact ⟨a, xs, rfl, t1, r1⟩)⟩⟩
  · exact hp.elim
def pInt : List D → Rs SD
  | [.int i] => .ok (.sh (.int i))
  | [.bl b] => .ok (.sh (.int (if b then 1 else 0)))
  | _ => .bad
theorem pr_int : PrimR X cl (fun xs H Q => (∃ i, xs = [.int i] ∧ Q (.int i) H) ∨ ∃ k, xs = [.bl k] ∧ Q (.int (if k then 1 else 0)) H) pInt := by
  intro O W H ds vs Q w ho hp
  unfold pInt at hp
  split at hp
  · obtain ⟨x, rfl, h1⟩ := ho.one
    exact .inl ⟨_, by rw [h1.int], hp _ H (Same.refl H) (by simp only [Rp])⟩
  · obtain ⟨x, rfl, h1⟩ := ho.one
    exact .inr ⟨_, by rw [h1.bl], hp _ H (Same.refl H) (by simp only [Rp])⟩
  · exact hp.elim
def pAbs : List D → Rs SD
  | [.int i] => .ok (.sh (.int (if i < 0 then -i else i)))
  | _ => .bad
theorem pr_abs : PrimR X cl (fun xs H Q => ∃ i, xs = [.int i] ∧ Q (.int (if i < 0 then -i else i)) H) pAbs := by
  intro O W H ds vs Q w ho hp
  unfold pAbs at hp
  split at hp
  · obtain ⟨x, rfl, h1⟩ := ho.one
    exact ⟨_, by rw [h1.int], hp _ H (Same.refl H) (by simp only [Rp])⟩
  · exact hp.elim
/-- all ints; all truths -/
def asInts : List D → Option (List Int)
  | [] => some []
  | .int i :: r => (asInts r).map (i :: ·)
  | _ :: _ => none
def asBls : List D → Option (List Bool)
  | [] => some []
  | .bl i :: r => (asBls r).map (i :: ·)
  | _ :: _ => none
theorem asInts_eq : ∀ {ds : List D} {ns : List Int}, asInts ds = some ns → ds = ns.map D.int
  | [], ns, h => by cases h; rfl
  | .int i :: r, ns, h => by
    simp only [asInts] at h
    obtain ⟨m, h1, h2⟩ := Option.map_eq_some_iff.mp h
    rw [asInts_eq h1, ← h2]; rfl
  | .non :: _, _, h | .bl _ :: _, _, h | .str _ :: _, _, h | .tup _ :: _, _, h | .lst _ :: _, _, h | .ins _ _ :: _, _, h | .scr _ :: _, _, h => by cases h
theorem asBls_eq : ∀ {ds : List D} {ns : List Bool}, asBls ds = some ns → ds = ns.map D.bl
  | [], ns, h => by cases h; rfl
  | .bl i :: r, ns, h => by
    simp only [asBls] at h
    obtain ⟨m, h1, h2⟩ := Option.map_eq_some_iff.mp h
    rw [asBls_eq h1, ← h2]; rfl
  | .non :: _, _, h | .int _ :: _, _, h | .str _ :: _, _, h | .tup _ :: _, _, h | .lst _ :: _, _, h | .ins _ _ :: _, _, h | .scr _ :: _, _, h => by cases h
theorem asInts_map : ∀ (ns : List Int), asInts (ns.map D.int) = some ns
  | [] => rfl
  | n :: ns => by simp only [List.map_cons, asInts, asInts_map ns, Option.map_some]
theorem asBls_map : ∀ (ns : List Bool), asBls (ns.map D.bl) = some ns
  | [] => rfl
  | n :: ns => by simp only [List.map_cons, asBls, asBls_map ns, Option.map_some]
/-- of a list of ints -/
def pIL (g : List Int → Rs SD) : List D → Rs SD
  | [.lst xs] => match asInts xs with
    | some ns => g ns
    | none => .bad
  | _ => .bad
def pBL (g : List Bool → Rs SD) : List D → Rs SD
  | [.lst xs] => match asBls xs with
    | some ns => g ns
    | none => .bad
  | _ => .bad
theorem pr_IL {g : List Int → Rs SD} {r : List V → Hp → VK → Prop} (h : ∀ O H a ns Q, SqL X.K H a (ns.map V.int) → AftP (gx X cl) O H Q (g ns) → r [.ref a] H Q) : PrimR X cl r (pIL g) := by
  intro O W H ds vs Q w ho hp
  unfold pIL at hp
  split at hp
  · split at hp
    · rename_i ns e
      obtain ⟨x, rfl, h1⟩ := ho.one
      obtain ⟨a, xs, rfl, t1, z1, r1⟩ := h1.lst
      rw [asInts_eq e] at r1
      rw [r1.ints] at t1
      exact h O H a ns Q (SqL.of t1) hp
    · exact hp.elim
  · exact hp.elim
theorem pr_BL {g : List Bool → Rs SD} {r : List V → Hp → VK → Prop} (h : ∀ O H a ns Q, SqL X.K H a (ns.map V.bl) → AftP (gx X cl) O H Q (g ns) → r [.ref a] H Q) : PrimR X cl r (pBL g) := by
  intro O W H ds vs Q w ho hp
  unfold pBL at hp
  split at hp
  · split at hp
    · rename_i ns e
      obtain ⟨x, rfl, h1⟩ := ho.one
      obtain ⟨a, xs, rfl, t1, z1, r1⟩ := h1.lst
      rw [asBls_eq e] at r1
      rw [r1.bls] at t1
      exact h O H a ns Q (SqL.of t1) hp
    · exact hp.elim
  · exact hp.elim
abbrev pSum := pIL fun ns => .ok (.sh (.int ns.sum))
abbrev pAnyB := pBL fun bs => .ok (.sh (.bl (bs.any id)))
abbrev pAllB := pBL fun bs => .ok (.sh (.bl (bs.all id)))
theorem pr_sum : PrimR X cl (rSum X.K) pSum := pr_IL fun O H a ns Q s hp => ⟨a, ns, rfl, s, hp _ H (Same.refl H) (by simp only [Rp])⟩
theorem pr_anyB : PrimR X cl (rAny X.K) pAnyB := pr_BL fun O H a ns Q s hp => ⟨a, ns, rfl, s, hp _ H (Same.refl H) (by simp only [Rp])⟩
theorem pr_allB : PrimR X cl (rAll X.K) pAllB := pr_BL fun O H a ns Q s hp => ⟨a, ns, rfl, s, hp _ H (Same.refl H) (by simp only [Rp])⟩
end
end Wm
end

section
/-! isinstance, tests, and, or, not, a if t else b. -/
namespace Wm
open PySem PySem.Spec PyProof.Rows L2
/-- a built-in class -/
inductive BT where
  | int | bool | tuple | list | str | dict
def BT.nm : BT → String
  | .int => "int"
  | .bool => "bool"
  | .tuple => "tuple"
  | .list => "list"
  | .str => "str"
  | .dict => "dict"
def D.tyN : D → Option String
  | .non => some "NoneType"
  | .bl _ => some "bool"
  | .int _ => some "int"
  | .str _ => some "str"
  | .tup _ => some "tuple"
  | .lst _ => some "list"
  | .dct _ => some "dict"
  | _ => none
def isB : BT → D → Option Bool
  | _, .ins _ _ => none
  | _, .scr _ => none
  | .dict, .dct _ => some true
  | .int, .int _ => some true
  | .int, .bl _ => some true
  | .bool, .bl _ => some true
  | .tuple, .tup _ => some true
  | .list, .lst _ => some true
  | .str, .str _ => some true
  | _, _ => some false
theorem isB_kit {t : BT} {d : D} {b : Bool} (h : isB t d = some b) : ∃ n, d.tyN = some n ∧ kitB n t.nm = some b := by
  cases d <;> cases t <;> first
    | (cases h; done)
    | (cases h; exact ⟨_, rfl, by decide +kernel⟩)
section
variable {X : Cx} {cl : Cl} {vs0 : List V} {Wx : WX}
theorem Op1.ty {O W : List Addr} {H : Hp} {d : D} {v : V} {n : String} (h : Op1 (gx X cl) O W H d v) (hn : d.tyN = some n) : TyX X.K H v (.type n) := by
  cases d with
  | non => cases hn; rw [h.non]; exact .base .non
  | bl b => cases hn; rw [h.bl]; exact .base (.bl b)
  | int b => cases hn; rw [h.int]; exact .base (.int b)
  | str b => cases hn; rw [h.str]; exact .base (.str b)
  | tup xs =>
    cases hn
    obtain ⟨a, vs, e, t, _⟩ := h.tup
    subst e
    rcases t.2 with ⟨r | ⟨o, r⟩, _⟩ | ⟨o, its, m, h1, h2, _⟩
    · exact .base (.tup r)
    · exact .fTuple r
    · exact .kTuple h1 h2
  | lst xs =>
    cases hn
    obtain ⟨a, vs, e, t, _⟩ := h.lst
    subst e
    exact .base (.lst t)
  | ins _ _ => cases hn
  | scr _ => cases hn
  | dct _ =>
    cases hn
    rcases h with h | ⟨_, _, e, _⟩
    · simp only [Rp] at h
      obtain ⟨a, gs, e, r, _⟩ := h
      subst e
      exact .base (.dK r)
    · cases e
def pIsi (t : BT) : List D → Rs SD
  | [d] => match isB t d with
    | some b => .ok (.sh (.bl b))
    | none => .bad
  | _ => .bad
variable {a b c e : Expr} {pos p2 : Pos} {fl : List LOp}
theorem ej_isi {t : BT} {p : Pos} (hm : X.mg "isinstance" = none) (hg : Gl X "isinstance") (h : OJ X cl vs0 Wx [a] fl) (hc : PE X b (tC (.ty t.nm)))
    (hs2 : starEach [b] X.env = (false, eval b X.env) :: starEach [] X.env := by rfl) (hs1 : starEach [a, b] X.env = (false, eval a X.env) :: starEach [b] X.env := by rfl) (hpl : (backTo pos (starEach [b] X.env)).any (·.1) = false := by rfl) :
    EJ X cl vs0 Wx (.Call (.Name "isinstance" p) [a, b] [] pos) (xPrim fl (pIsi t)) := by
  obtain ⟨ta, ha, q⟩ := one_of h
  refine ⟨⟨_, pe_callB call_isi hg hm (by decide +kernel) (pa_cons ha (pa_cons hc pa_nil hs2) hs1) (by decide) (by decide) hs1 hpl, prim_core (ts := [ta]) (rd := fun vs H Q => rIsi X.K (vs ++ [.ty t.nm]) H Q) (fun O W H ds vs Q w ho hp => ?_) q⟩⟩
  unfold pIsi at hp
  split at hp
  · split at hp
    · rename_i b' e
      obtain ⟨x, rfl, h1⟩ := ho.one
      obtain ⟨n, hn, hk⟩ := isB_kit e
      exact ⟨x, .ty t.nm, .type n, .type t.nm, b', rfl, .ty _, h1.ty hn, kit_ty hk, hp _ H (Same.refl H) (by simp only [Rp])⟩
    · exact hp.elim
  · exact hp.elim

/-! ### tests -/
def Rs.tst : Rs (SD × List SD) → Rs (Bool × List SD)
  | .ok (.sh (.bl b), ρ) => .ok (b, ρ)
  | .exc c fs ρ => .exc c fs ρ
  | _ => .bad
theorem tst_core {G : Gx} {O W : List Addr} {σ : L2.St} {H : Hp} {Q : Bool → Hp → Prop} {r : Rs (SD × List SD)} (h : AftB G vs0 Wx O W σ H Q r.tst) : AftE G vs0 Wx O W σ H (fun x H' => ∃ k, x = .bl k ∧ Q k H') r := by
  cases r with
  | bad => exact h
  | exc c fs ρ => exact h
  | ok p =>
    obtain ⟨s, ρ⟩ := p
    cases s with
    | sh d =>
      cases d with
      | bl b =>
        intro v O' W' H' st sr rr
        have rr : Rp G O' H' (.bl b) v := rr
        simp only [Rp] at rr
        exact ⟨b, rr, h O' W' H' st sr⟩
      | _ => exact h.elim
    | _ => exact h.elim
/-- a comparison as a test -/
def bT (f : Sx) : Sb := fun ρ => (f ρ).tst
theorem tj_cmp {op : CmpOp} {r : R2} {p : List D → Rs SD} (ho : OpR X (compareOp op) r) (hp : PrimR X cl (rd2 r) p) (h : OJ X cl vs0 Wx [a, b] fl) (hm : behindInMarks op b = false) : TJ X cl vs0 Wx (.Compare a [op] [b] pos) (bT (xPrim fl p)) := by
  obtain ⟨ta, tb, ha, hb, q⟩ := two_of h
  exact ⟨⟨_, pt_cmpR ho ha hb hm, fun O W σ H ρ Q sr hw => prim_core hp q O W σ H ρ _ sr (tst_core hw)⟩⟩
/-- a value that is a truth, as a test -/
theorem tj_val {f : Sx} (h : EJ X cl vs0 Wx e f) (he : ∀ whole, isTrue e X.env whole = (do let v ← whole; standAt e.pos; holding [v] (truthy v)) := by intro _; rfl) : TJ X cl vs0 Wx e (bT f) := by
  obtain ⟨t, p, q⟩ := h.ex
  exact ⟨⟨_, pt_val p he, fun O W σ H ρ Q sr hw => q O W σ H ρ _ sr (tst_core hw)⟩⟩
def truD : D → Option Bool
  | .non => some false
  | .bl b => some b
  | .int i => some (i != 0)
  | .tup xs => some (!xs.isEmpty)
  | .lst xs => some (!xs.isEmpty)
  | _ => none
def bTru (fl : List LOp) : Sb := fun ρ => (ops fl ρ).bind fun q => match q.1 with
  | [d] => match truD d with
    | some b => .ok (b, q.2)
    | none => .bad
  | _ => .bad
theorem RpA.emp {G : Gx} {O : List Addr} {H : Hp} {ds : List D} {vs : List V} (r : RpA G O H ds vs) : ds.isEmpty = vs.isEmpty := by
  have := r.length
  cases ds <;> cases vs <;> simp_all
theorem tj_tru (h : OJ X cl vs0 Wx [e] fl) (he : ∀ whole, isTrue e X.env whole = (do let v ← whole; standAt e.pos; holding [v] (truthy v)) := by intro _; rfl) : TJ X cl vs0 Wx e (bTru fl) := by
  obtain ⟨t, p, q⟩ := one_of h
  refine ⟨⟨_, pt_truth p he, fun O W σ H ρ Q sr hw => ?_⟩⟩
  refine q O W σ H ρ (fun vs H' => match vs with
    | [x] => ∃ k, TruV X.K x H' k ∧ Q k H'
    | _ => False) sr ?_
  unfold bTru at hw
  cases e : ops fl ρ with
  | bad => rw [e] at hw; exact hw
  | exc c fs ρ' => rw [e] at hw; exact hw
  | ok w =>
    obtain ⟨ds, ρ1⟩ := w
    rw [e] at hw
    intro vs O' W' H' st sr' ho
    cases ds with
    | nil => exact (show False from hw).elim
    | cons d ds =>
      cases ds with
      | cons _ _ => exact (show False from hw).elim
      | nil =>
        obtain ⟨v, rfl, h1⟩ := OpA.one ho
        have hw2 : AftB (gx X cl) vs0 Wx O W σ H Q (match truD d with
          | some b => .ok (b, ρ1)
          | none => .bad) := hw
        cases d with
        | non => rw [h1.non]; exact ⟨false, rfl, hw2 O' W' H' st sr'⟩
        | bl b => rw [h1.bl]; exact ⟨b, rfl, hw2 O' W' H' st sr'⟩
        | int b => rw [h1.int]; exact ⟨_, rfl, hw2 O' W' H' st sr'⟩
        | tup xs =>
          obtain ⟨a, vs, e, t, r⟩ := h1.tup
          subst e
          exact ⟨_, .inr (.inl ⟨vs, t.sq, by rw [← r.emp]⟩), hw2 O' W' H' st sr'⟩
        | lst xs =>
          obtain ⟨a, vs, e, t, z, r⟩ := h1.lst
          subst e
          exact ⟨_, .inl ⟨vs, SqL.of t, by rw [← r.emp]⟩, hw2 O' W' H' st sr'⟩
        | str _ => exact hw2.elim
        | ins _ _ => exact hw2.elim
        | scr _ => exact hw2.elim
        | dct _ => exact hw2.elim

/-! ### and, or, not -/
structure WJ (X : Cx) (cl : Cl) (vs0 : List V) (Wx : WX) (e : Expr) (f : Sb) : Prop where
  ex : ∃ t, PW X e t ∧ ∀ O W σ H ρ Q, SR (gx X cl) vs0 O W σ H ρ → AftB (gx X cl) vs0 Wx O W σ H Q (f ρ) → t σ H Q
theorem WJ.tj {f : Sb} (h : WJ X cl vs0 Wx e f) : TJ X cl vs0 Wx e f := by
  obtain ⟨t, p, q⟩ := h.ex
  exact ⟨⟨t, p.pt, q⟩⟩
def bAnd (f g : Sb) : Sb := fun ρ => (f ρ).bind fun p => if p.1 then g p.2 else .ok (false, p.2)
def bOr (f g : Sb) : Sb := fun ρ => (f ρ).bind fun p => if p.1 then .ok (true, p.2) else g p.2
def bNot (f : Sb) : Sb := fun ρ => (f ρ).bind fun p => .ok (!p.1, p.2)
variable {f g : Sb} {rest : List Expr}
theorem wj_and1 (h : TJ X cl vs0 Wx a f) : WJ X cl vs0 Wx (.BoolOp .And [a] pos) f := by
  obtain ⟨t, p, q⟩ := h.ex
  exact ⟨⟨t, pw_and1 p, q⟩⟩
theorem wj_or1 (h : TJ X cl vs0 Wx a f) : WJ X cl vs0 Wx (.BoolOp .Or [a] pos) f := by
  obtain ⟨t, p, q⟩ := h.ex
  exact ⟨⟨t, pw_or1 p, q⟩⟩
theorem b2_core {G : Gx} {O W : List Addr} {σ : L2.St} {H : Hp} {R : Bool → Hp → Prop} {k : Bool × List SD → Rs (Bool × List SD)} {Q : Bool → Hp → Prop} {r : Rs (Bool × List SD)} (w : Wf O W H)
    (hw : AftB G vs0 Wx O W σ H Q (r.bind k)) (h : ∀ b ρ' O' W' H', SR G vs0 O' W' σ H' ρ' → AftB G vs0 Wx O' W' σ H' Q (k (b, ρ')) → R b H') : AftB G vs0 Wx O W σ H R r := by
  cases r with
  | bad => exact hw
  | exc c fs ρ => exact hw
  | ok p => exact fun O' W' H' st sr => h p.1 p.2 O' W' H' sr (AftB.back w st hw)
theorem wj_and (h : TJ X cl vs0 Wx a f) (hb : WJ X cl vs0 Wx (.BoolOp .And (b :: rest) pos) g) : WJ X cl vs0 Wx (.BoolOp .And (a :: b :: rest) pos) (bAnd f g) := by
  obtain ⟨t, p, q⟩ := h.ex
  obtain ⟨t', p', q'⟩ := hb.ex
  refine ⟨⟨_, pw_and p p', fun O W σ H ρ Q sr hw => q O W σ H ρ _ sr (b2_core sr.wf hw fun b ρ' O' W' H' sr' hk => ?_)⟩⟩
  cases b with
  | true => exact q' O' W' σ H' ρ' Q sr' hk
  | false => exact hk O' W' H' Stp.refl sr'
theorem wj_or (h : TJ X cl vs0 Wx a f) (hb : WJ X cl vs0 Wx (.BoolOp .Or (b :: rest) pos) g) : WJ X cl vs0 Wx (.BoolOp .Or (a :: b :: rest) pos) (bOr f g) := by
  obtain ⟨t, p, q⟩ := h.ex
  obtain ⟨t', p', q'⟩ := hb.ex
  refine ⟨⟨_, pw_or p p', fun O W σ H ρ Q sr hw => q O W σ H ρ _ sr (b2_core sr.wf hw fun b ρ' O' W' H' sr' hk => ?_)⟩⟩
  cases b with
  | false => exact q' O' W' σ H' ρ' Q sr' hk
  | true => exact hk O' W' H' Stp.refl sr'
theorem tj_not (h : TJ X cl vs0 Wx a f) : TJ X cl vs0 Wx (.UnaryOp .Not a pos) (bNot f) := by
  obtain ⟨t, p, q⟩ := h.ex
  refine ⟨⟨_, pt_not p, fun O W σ H ρ Q sr hw => q O W σ H ρ _ sr (b2_core sr.wf hw fun b ρ' O' W' H' sr' hk => ?_)⟩⟩
  exact hk O' W' H' Stp.refl sr'
/-- .. as values, all of them truths -/
def xAnd (f g : Sx) : Sx := fun ρ => (f ρ).tst.bind fun p => if p.1 then g p.2 else .ok (.sh (.bl false), p.2)
def xOr (f g : Sx) : Sx := fun ρ => (f ρ).tst.bind fun p => if p.1 then .ok (.sh (.bl true), p.2) else g p.2
def xNot (f : Sx) : Sx := fun ρ => (f ρ).tst.bind fun p => .ok (.sh (.bl (!p.1)), p.2)
theorem v2_core {G : Gx} {O W : List Addr} {σ : L2.St} {H : Hp} {R : VK} {k : Bool × List SD → Rs (SD × List SD)} {Q : VK} {r : Rs (SD × List SD)} (w : Wf O W H)
    (hw : AftE G vs0 Wx O W σ H Q (r.tst.bind k)) (h : ∀ b ρ' O' W' H', SR G vs0 O' W' σ H' ρ' → AftE G vs0 Wx O' W' σ H' Q (k (b, ρ')) → R (.bl b) H') : AftE G vs0 Wx O W σ H R r := by
  cases r with
  | bad => exact hw
  | exc c fs ρ => exact hw
  | ok p =>
    obtain ⟨s, ρ⟩ := p
    cases s with
    | sh d =>
      cases d with
      | bl b =>
        intro v O' W' H' st sr rr
        have rr : Rp G O' H' (.bl b) v := rr
        simp only [Rp] at rr
        rw [rr]
        exact h b ρ O' W' H' sr (AftE.back w st hw)
      | _ => exact hw.elim
    | _ => exact hw.elim
variable {fx gx' : Sx}
theorem ej_one {op} (h : EJ X cl vs0 Wx a fx) : EJ X cl vs0 Wx (.BoolOp op [a] pos) fx := by
  obtain ⟨t, p, q⟩ := h.ex
  exact ⟨⟨t, pe_one p, q⟩⟩
theorem rp_bl {G : Gx} {O : List Addr} {H : Hp} {b : Bool} : Rp G O H (.bl b) (.bl b) := by simp only [Rp]
theorem ej_and (h : EJ X cl vs0 Wx a fx) (hb : EJ X cl vs0 Wx (.BoolOp .And (b :: rest) pos) gx') : EJ X cl vs0 Wx (.BoolOp .And (a :: b :: rest) pos) (xAnd fx gx') := by
  obtain ⟨t, p, q⟩ := h.ex
  obtain ⟨t', p', q'⟩ := hb.ex
  refine ⟨⟨_, pe_and p p', fun O W σ H ρ Q sr hw => q O W σ H ρ _ sr (v2_core sr.wf hw fun b ρ' O' W' H' sr' hk => ⟨b, rfl, ?_⟩)⟩⟩
  cases b with
  | true => exact q' O' W' σ H' ρ' Q sr' hk
  | false => exact hk _ O' W' H' Stp.refl sr' (rp_bl (G := Wm.gx X cl) (O := O') (H := H'))
theorem ej_or (h : EJ X cl vs0 Wx a fx) (hb : EJ X cl vs0 Wx (.BoolOp .Or (b :: rest) pos) gx') : EJ X cl vs0 Wx (.BoolOp .Or (a :: b :: rest) pos) (xOr fx gx') := by
  obtain ⟨t, p, q⟩ := h.ex
  obtain ⟨t', p', q'⟩ := hb.ex
  refine ⟨⟨_, pe_or p p', fun O W σ H ρ Q sr hw => q O W σ H ρ _ sr (v2_core sr.wf hw fun b ρ' O' W' H' sr' hk => ⟨b, rfl, ?_⟩)⟩⟩
  cases b with
  | false => exact q' O' W' σ H' ρ' Q sr' hk
  | true => exact hk _ O' W' H' Stp.refl sr' (rp_bl (G := Wm.gx X cl) (O := O') (H := H'))
theorem ej_not (h : EJ X cl vs0 Wx a fx) : EJ X cl vs0 Wx (.UnaryOp .Not a pos) (xNot fx) := by
  obtain ⟨t, p, q⟩ := h.ex
  refine ⟨⟨_, pe_not p, fun O W σ H ρ Q sr hw => q O W σ H ρ _ sr (v2_core sr.wf hw fun b ρ' O' W' H' sr' hk => ⟨b, rfl, ?_⟩)⟩⟩
  exact hk _ O' W' H' Stp.refl sr' (rp_bl (G := Wm.gx X cl) (O := O') (H := H'))
/-- a if t else b -/
def xIf (t : Sb) (f g : Sx) : Sx := fun ρ => (t ρ).bind fun p => if p.1 then f p.2 else g p.2
theorem b1_core {G : Gx} {O W : List Addr} {σ : L2.St} {H : Hp} {R : Bool → Hp → Prop} {k : Bool × List SD → Rs (SD × List SD)} {Q : VK} {r : Rs (Bool × List SD)} (w : Wf O W H)
    (hw : AftE G vs0 Wx O W σ H Q (r.bind k)) (h : ∀ b ρ' O' W' H', SR G vs0 O' W' σ H' ρ' → AftE G vs0 Wx O' W' σ H' Q (k (b, ρ')) → R b H') : AftB G vs0 Wx O W σ H R r := by
  cases r with
  | bad => exact hw
  | exc c fs ρ => exact hw
  | ok p => exact fun O' W' H' st sr => h p.1 p.2 O' W' H' sr (AftE.back w st hw)
theorem ej_if {c : Expr} (hc : TJ X cl vs0 Wx c f) (h : EJ X cl vs0 Wx a fx) (hb : EJ X cl vs0 Wx b gx') : EJ X cl vs0 Wx (.IfExp c a b pos) (xIf f fx gx') := by
  obtain ⟨tc, pc, qc⟩ := hc.ex
  obtain ⟨t, p, q⟩ := h.ex
  obtain ⟨t', p', q'⟩ := hb.ex
  refine ⟨⟨_, pe_ifExp pc p p', fun O W σ H ρ Q sr hw => qc O W σ H ρ _ sr (b1_core sr.wf hw fun b ρ' O' W' H' sr' hk => ?_)⟩⟩
  cases b with
  | true => exact q O' W' σ H' ρ' Q sr' hk
  | false => exact q' O' W' σ H' ρ' Q sr' hk
end
end Wm
end

section
/-! Statements. -/
namespace Wm
open PySem PySem.Spec PyProof.Rows L2
def AftS (G : Gx) (vs0 : List V) (Wx : WX) (O W : List Addr) (H : Hp) (D : Ends) : Rs Fl → Prop
  | .ok (.nx ρ') => ∀ σ' O' W' H', Stp O W H O' W' H' → SR G vs0 O' W' σ' H' ρ' → D.nx σ' H'
  | .ok (.rt r ρ') => ∀ v σ' O' W' H', Stp O W H O' W' H' → SR G vs0 O' W' σ' H' ρ' → ResR G O' W' σ' H' ρ' v r → D.rt v H'
  | .ok (.bk ρ') => ∀ σ' O' W' H', Stp O W H O' W' H' → SR G vs0 O' W' σ' H' ρ' → D.bk σ' H'
  | .ok (.ct ρ') => ∀ σ' O' W' H', Stp O W H O' W' H' → SR G vs0 O' W' σ' H' ρ' → D.ct σ' H'
  | .exc c fs ρ' => ∀ σ', ExcA G vs0 Wx O W σ' H c fs ρ'
  | .bad => False
structure SJ (X : Cx) (cl : Cl) (vs0 : List V) (Wx : WX) (st : Stmt) (g : Ss) : Prop where
  ex : ∃ t, PS X st t ∧ ∀ O W σ H ρ D, SR (gx X cl) vs0 O W σ H ρ → AftS (gx X cl) vs0 Wx O W H D (g ρ) → t D σ H
structure BJ (X : Cx) (cl : Cl) (vs0 : List V) (Wx : WX) (sts : List Stmt) (g : Ss) : Prop where
  ex : ∃ t, PSs X sts t ∧ ∀ O W σ H ρ D, SR (gx X cl) vs0 O W σ H ρ → AftS (gx X cl) vs0 Wx O W H D (g ρ) → t D σ H
theorem AftS.back {G : Gx} {vs0 : List V} {Wx : WX} {O W O1 W1 : List Addr} {H H1 : Hp} {D : Ends} (w : Wf O W H) (s : Stp O W H O1 W1 H1) : ∀ {r : Rs Fl}, AftS G vs0 Wx O W H D r → AftS G vs0 Wx O1 W1 H1 D r
  | .ok (.nx _), h => fun σ' O' W' H' s' sr => h σ' O' W' H' (s.trans w s') sr
  | .ok (.rt _ _), h => fun v σ' O' W' H' s' sr rr => h v σ' O' W' H' (s.trans w s') sr rr
  | .ok (.bk _), h => fun σ' O' W' H' s' sr => h σ' O' W' H' (s.trans w s') sr
  | .ok (.ct _), h => fun σ' O' W' H' s' sr => h σ' O' W' H' (s.trans w s') sr
  | .exc _ _ _, h => fun σ' => ExcA.back w s (h σ')
  | .bad, h => h
section
variable {X : Cx} {cl : Cl} {vs0 : List V} {Wx : WX} {st : Stmt} {rest : List Stmt} {g h' : Ss} {e a b : Expr} {f : Sx} {pos : Pos}
/-! ### blocks -/
def sNil : Ss := fun ρ => .ok (.nx ρ)
def sSeq (g h : Ss) : Ss := fun ρ => (g ρ).bind fun fl => match fl with
  | .nx ρ' => h ρ'
  | fl => .ok fl
theorem bj_nil : BJ X cl vs0 Wx [] sNil := ⟨⟨_, pss_nil, fun O W σ H ρ D sr h => h σ O W H Stp.refl sr⟩⟩
theorem bj_one (h : SJ X cl vs0 Wx st g) : BJ X cl vs0 Wx [st] g := by
  obtain ⟨t, p, q⟩ := h.ex
  exact ⟨⟨t, pss_one p, q⟩⟩
theorem bj_cons (h1 : SJ X cl vs0 Wx st g) (h2 : BJ X cl vs0 Wx rest h') : BJ X cl vs0 Wx (st :: rest) (sSeq g h') := by
  obtain ⟨t, p, q⟩ := h1.ex
  obtain ⟨t', p', q'⟩ := h2.ex
  refine ⟨⟨_, pss_cons p p', fun O W σ H ρ D sr hw => q O W σ H ρ _ sr ?_⟩⟩
  have hw : AftS (gx X cl) vs0 Wx O W H D ((g ρ).bind fun fl => match fl with
    | .nx ρ' => h' ρ'
    | fl => .ok fl) := hw
  cases e : g ρ with
  | bad => rw [e] at hw; exact hw
  | exc c fs ρ' => rw [e] at hw; exact hw
  | ok fl =>
    rw [e] at hw
    cases fl with
    | nx ρ' => exact fun σ' O' W' H' st sr' => q' O' W' σ' H' ρ' D sr' (AftS.back sr.wf st hw)
    | rt r ρ' => exact hw
    | bk ρ' => exact hw
    | ct ρ' => exact hw

/-! ### from expressions to statements -/
theorem e_core {G : Gx} {O W : List Addr} {σ : L2.St} {H : Hp} {R : VK} {k : SD × List SD → Rs Fl} {D : Ends} {r : Rs (SD × List SD)} (w : Wf O W H)
    (hw : AftS G vs0 Wx O W H D (r.bind k)) (h : ∀ v s ρ' O' W' H', SR G vs0 O' W' σ H' ρ' → ResR G O' W' σ H' ρ' v s → AftS G vs0 Wx O' W' H' D (k (s, ρ')) → R v H') : AftE G vs0 Wx O W σ H R r := by
  cases r with
  | bad => exact hw
  | exc c fs ρ => exact hw σ
  | ok p => exact fun v O' W' H' st sr rr => h v p.1 p.2 O' W' H' sr rr (AftS.back w st hw)
theorem t_core {G : Gx} {O W : List Addr} {σ : L2.St} {H : Hp} {R : Bool → Hp → Prop} {k : Bool × List SD → Rs Fl} {D : Ends} {r : Rs (Bool × List SD)} (w : Wf O W H)
    (hw : AftS G vs0 Wx O W H D (r.bind k)) (h : ∀ b ρ' O' W' H', SR G vs0 O' W' σ H' ρ' → AftS G vs0 Wx O' W' H' D (k (b, ρ')) → R b H') : AftB G vs0 Wx O W σ H R r := by
  cases r with
  | bad => exact hw
  | exc c fs ρ => exact hw σ
  | ok p => exact fun O' W' H' st sr => h p.1 p.2 O' W' H' sr (AftS.back w st hw)
/-- an expression for its own sake -/
def sEx (f : Sx) : Ss := fun ρ => (f ρ).bind fun p => .ok (.nx p.2)
theorem sj_ex (h : EJ X cl vs0 Wx e f) (hs : swapsWith e none pos.line X.env = pure false := by rfl) : SJ X cl vs0 Wx (.Expr e pos) (sEx f) := by
  obtain ⟨t, p, q⟩ := h.ex
  exact ⟨⟨_, ps_expr p hs, fun O W σ H ρ D sr hw => q O W σ H ρ _ sr (e_core sr.wf hw fun v s ρ' O' W' H' sr' rr hk => hk σ O' W' H' Stp.refl sr')⟩⟩
/-- x = e -/
def sSet (i : Nat) (f : Sx) : Ss := fun ρ => (f ρ).bind fun p => .ok (.nx (p.2.set i p.1))
theorem sj_set {i : Nat} {x : Str} {pos' : Pos} (hN : X.N.Nodup) (hi : X.N[i]? = some x) (hx : Loc X.env.scope x) (h : EJ X cl vs0 Wx e f) (hs : swapsWith e (some (.Name x pos')) pos.line X.env = pure false := by rfl) (hf : X.fn x = true ∨ X.env.scope.names.lookup x = some .local := by first | exact .inl rfl | exact .inr rfl | assumption) :
    SJ X cl vs0 Wx (.Assign [.Name x pos'] e pos) (sSet i f) := by
  obtain ⟨t, p, q⟩ := h.ex
  exact ⟨⟨_, ps_set (i := i) hN hi hx p hs hf, fun O W σ H ρ D sr hw => q O W σ H ρ _ sr (e_core sr.wf hw fun v s ρ' O' W' H' sr' rr hk => hk _ O' W' H' Stp.refl (sr'.put rr))⟩⟩
def sRet (f : Sx) : Ss := fun ρ => (f ρ).bind fun p => .ok (.rt p.1 p.2)
theorem sj_ret (h : EJ X cl vs0 Wx e f) : SJ X cl vs0 Wx (.Return (some e) pos) (sRet f) := by
  obtain ⟨t, p, q⟩ := h.ex
  exact ⟨⟨_, ps_ret p, fun O W σ H ρ D sr hw => q O W σ H ρ _ sr (e_core sr.wf hw fun v s ρ' O' W' H' sr' rr hk => hk v σ O' W' H' Stp.refl sr' rr)⟩⟩
/-- return x: a list of one's own is handed on -/
def sRetV (i : Nat) : Ss := fun ρ => match ρ[i]? with
  | some (.sh d) => .ok (.rt (.sh d) ρ)
  | some (.own xs) => .ok (.rt (.own xs) (ρ.set i .no))
  | some (.byr xs) => .ok (.rt (.sh (.lst xs)) (ρ.set i (.sh (.lst xs))))
  | _ => .bad
theorem SR.drop {G : Gx} {O W : List Addr} {σ : L2.St} {H : Hp} {ρ : List SD} (i : Nat) (r : SR G vs0 O W σ H ρ) : SR G vs0 O W σ H (ρ.set i .no) := by
  refine ⟨r.wf, by rw [List.length_set, r.len], fun j s e => ?_, fun j k s t a e1 e2 m1 m2 s1 s2 => ?_, r.tabs⟩
  · by_cases hj : i = j
    · subst hj
      have hl : i < ρ.length := by
        have := (List.getElem?_eq_some_iff.mp e).1
        rw [List.length_set] at this
        exact this
      rw [List.getElem?_set_self hl] at e; cases e
      trivial
    · rw [List.getElem?_set_ne hj] at e
      exact r.slot j s e
  · have key : ∀ {j : Nat} {s : SD}, (ρ.set i .no)[j]? = some s → s.mine = true → i ≠ j := fun {j s} e m z => by
      subst z
      have hl : i < ρ.length := by
        have := (List.getElem?_eq_some_iff.mp e).1
        rw [List.length_set] at this
        exact this
      rw [List.getElem?_set_self hl] at e; cases e; cases m
    have nj := key e1 m1
    have nk := key e2 m2
    rw [List.getElem?_set_ne nj] at e1
    rw [List.getElem?_set_ne nk] at e2
    exact r.apart j k s t a e1 e2 m1 m2 s1 s2
theorem sj_retV {i : Nat} (h : PE X e (tVar i)) : SJ X cl vs0 Wx (.Return (some e) pos) (sRetV i) := by
  refine ⟨⟨_, ps_ret h, fun O W σ H ρ D sr hw => ?_⟩⟩
  unfold sRetV at hw
  split at hw
  · rename_i d e
    obtain ⟨v, e1, r⟩ := sr.get e
    exact ⟨v, e1, hw v σ O W H Stp.refl sr r⟩
  · rename_i xs e
    obtain ⟨a, e1, o⟩ := sr.getOwn e (.inl rfl)
    refine ⟨_, e1, hw (.ref a) σ O W H Stp.refl (sr.drop i) ⟨a, rfl, o, fun j s q m z => ?_⟩⟩
    have nj : i ≠ j := fun y => by
      subst y
      rw [List.getElem?_set_self (List.getElem?_eq_some_iff.mp e).1] at q; cases q; cases m
    rw [List.getElem?_set_ne nj] at q
    exact nj (sr.apart i j _ s a e q rfl m e1 z)
  · rename_i xs e
    obtain ⟨a, O', W', e1, st, sr', r⟩ := sr.demote e (.inr rfl)
    exact ⟨_, e1, hw (.ref a) σ O' W' H st sr' r⟩
  · exact hw.elim
def sRetN : Ss := fun ρ => .ok (.rt (.sh .non) ρ)
theorem sj_retN : SJ X cl vs0 Wx (.Return none pos) sRetN := ⟨⟨_, ps_retN, fun O W σ H ρ D sr h => h .non σ O W H Stp.refl sr (show Rp (gx X cl) O H .non .non by simp only [Rp])⟩⟩
theorem sj_pass : SJ X cl vs0 Wx (.Pass pos) sNil := ⟨⟨_, ps_pass, fun O W σ H ρ D sr h => h σ O W H Stp.refl sr⟩⟩
def sIf (t : Sb) (g h : Ss) : Ss := fun ρ => (t ρ).bind fun p => if p.1 then g p.2 else h p.2
theorem sj_if {c : Expr} {bs cs : List Stmt} {t : Sb} (hc : TJ X cl vs0 Wx c t) (h1 : BJ X cl vs0 Wx bs g) (h2 : BJ X cl vs0 Wx cs h') : SJ X cl vs0 Wx (.If c bs cs pos) (sIf t g h') := by
  obtain ⟨tc, pc, qc⟩ := hc.ex
  obtain ⟨t1, p1, q1⟩ := h1.ex
  obtain ⟨t2, p2, q2⟩ := h2.ex
  refine ⟨⟨_, ps_if pc p1 p2, fun O W σ H ρ D sr hw => qc O W σ H ρ _ sr (t_core sr.wf hw fun b ρ' O' W' H' sr' hk => ?_)⟩⟩
  cases b with
  | true => exact q1 O' W' σ H' ρ' D sr' hk
  | false => exact q2 O' W' σ H' ρ' D sr' hk
/-- a, b, .. = a tuple or what is one -/
def setAll : List Nat → List D → List SD → Rs (List SD)
  | [], [], ρ => .ok ρ
  | i :: is, d :: ds, ρ => setAll is ds (ρ.set i (.sh d))
  | _, _, _ => .bad
def gNames : List Nat → TGs
  | [] => gNil
  | i :: is => gCons (gName i) (gNames is)
theorem gNames_ok {G : Gx} {O W : List Addr} {H : Hp} {Q : L2.St → Hp → Prop} : ∀ {is : List Nat} {ds : List D} {vs : List V} {σ : L2.St} {ρ ρ' : List SD}, SR G vs0 O W σ H ρ → RpA G O H ds vs → setAll is ds ρ = .ok ρ' → (∀ σ', SR G vs0 O W σ' H ρ' → Q σ' H) → gNames is vs σ H Q
  | [], [], vs, σ, ρ, ρ', sr, ra, h, q => by
    simp only [RpA] at ra
    cases h
    exact ⟨ra, q σ sr⟩
  | i :: is, d :: ds, vs, σ, ρ, ρ', sr, ra, h, q => by
    simp only [RpA] at ra
    obtain ⟨v, r, e, h1, h2⟩ := ra
    exact ⟨v, r, e, gNames_ok (sr.set h1) h2 h q⟩
  | [], _ :: _, _, _, _, _, _, _, h, _ => by cases h
  | _ :: _, [], _, _, _, _, _, _, h, _ => by cases h
def sTup (is : List Nat) (f : Sx) : Ss := fun ρ => (f ρ).bind fun p => match p.1 with
  | .sh (.tup ds) => (setAll is ds p.2).bind fun ρ' => .ok (.nx ρ')
  | _ => .bad
theorem setAll_noexc : ∀ {is : List Nat} {ds : List D} {ρ : List SD} {c : Str} {fs : List (Str × D)} {ρ' : List SD}, setAll is ds ρ ≠ .exc c fs ρ'
  | [], [], _, _, _, _ => fun z => nomatch z
  | i :: is, d :: ds, _, _, _, _ => setAll_noexc (is := is) (ds := ds)
  | [], _ :: _, _, _, _, _ => fun z => nomatch z
  | _ :: _, [], _, _, _, _ => fun z => nomatch z
theorem sj_tup {es : List Expr} {k n : Nat} {is : List Nat} {pt : Pos} (hc : X.calm = true) (hg : PGs X es (gNames is)) (h : EJ X cl vs0 Wx e f) (hl : is.length = n) (hn : (assignEach es X.env).length = n := by rfl) (hst : (assignEach es X.env).findIdx? (·.1) = none := by rfl)
    (hs : swapsWithSole [.Tuple es k pt] e pos.line X.env = pure false := by rfl) (hw : swappedStores [.Tuple es k pt] e X.env = pure none := by rfl) (h1 : (assignEach [.Tuple es k pt] X.env).map (·.2) = [assign (.Tuple es k pt) X.env] := by rfl) :
    SJ X cl vs0 Wx (.Assign [.Tuple es k pt] e pos) (sTup is f) := by
  obtain ⟨t, p, q⟩ := h.ex
  refine ⟨⟨_, ps_asg p (pg_tup hc hg hn hst) hs hw h1, fun O W σ H ρ D sr hw => q O W σ H ρ _ sr (e_core sr.wf hw fun v s ρ' O' W' H' sr' rr hk => ?_)⟩⟩
  cases s with
  | sh d =>
    cases d with
    | tup ds =>
      have rr : Rp (gx X cl) O' H' (.tup ds) v := rr
      simp only [Rp] at rr
      obtain ⟨a, vs, e, t, ra⟩ := rr
      have hk : AftS (gx X cl) vs0 Wx O' W' H' D ((setAll is ds ρ').bind fun ρ' => .ok (.nx ρ')) := hk
      cases es : setAll is ds ρ' with
      | bad => rw [es] at hk; exact hk.elim
      | exc c fs ρ2 => exact absurd es setAll_noexc
      | ok ρ2 =>
        rw [es] at hk
        have hlen : ∀ {is : List Nat} {ds : List Wm.D} {ρ ρ2 : List SD}, setAll is ds ρ = .ok ρ2 → is.length = ds.length := by
          intro is
          induction is with
          | nil => intro ds ρ ρ2 h; cases ds with
            | nil => rfl
            | cons _ _ => cases h
          | cons i is ih => intro ds ρ ρ2 h; cases ds with
            | nil => cases h
            | cons d ds => rw [List.length_cons, List.length_cons, ih h]
        refine ⟨a, vs, e, t.sq, by rw [← ra.length, ← hlen es]; exact hl, gNames_ok sr' ra es fun σ' sr2 => hk σ' O' W' H' Stp.refl sr2⟩
    | _ => exact hk.elim
  | _ => exact hk.elim
end
end Wm
end

section
/-! What loops and comprehensions walk: lists and tuples, enumerate and zip of them, ranges. -/
namespace Wm
open PySem PySem.Spec PyProof.Rows L2
/-! ### enumerate(v) of anything that begins -/
theorem enum_new1 {v : Value} {o : Obj} {H : Heap → Prop} (B : Begins v o H) :
    Meets (Builtin.«enumerate.__new__» ⟨[.type "enumerate", v], []⟩) (fun _ R s => H s.heap ∧
      R (.ok (.ret (.ref (s.heap.push o).objs.size))) { s with heap := (s.heap.push o).push { cls := .type "enumerate", data := .fields #[.none, .bool false, .ref s.heap.objs.size, rawInt 0, .none, .none] } }) :=
  .of_wp fun prog w A R s h => by
    obtain ⟨hp, g, d, tk, os⟩ := s
    obtain ⟨h1, h⟩ := h
    have hsub := sub_enumerate
    have qq : ∀ {A' : Around} {E : Value → Shared → Prop} {Q : Value → Shared → Prop}, Q (.ref hp.objs.size) ⟨hp.push o, g, d, tk, os⟩ → wpAny (model prog w) A' (pyIter v) Q E ⟨hp, g, d, tk, os⟩ :=
      fun z => B.iter prog w _ _ ⟨hp, g, d, tk, os⟩ _ h1 z
    wp_walk using qq
    refine wpAny_stack_any fun st => wpAny_pure ?_
    split
    · rename_i c _ _ _ _ _
      cases (c == Value.type "enumerate") <;> (wp_walk using qq; exact ⟨_, rfl, h⟩)
    · wp_walk using qq
      exact ⟨_, rfl, h⟩
theorem enum_begins1 {prog : Program} {w : World} {A : Around} {E : Value → Shared → Prop} {s : Shared} {v : Value} {o : Obj} {H : Heap → Prop} {Q : Value → Shared → Prop} (B : Begins v o H) (h1 : H s.heap)
    (h : ∀ h', IsEnum h' (s.heap.objs.size + 1) s.heap.objs.size 0 .none → h'.get? s.heap.objs.size = some o → h'.objs.size = s.heap.objs.size + 2 →
      (∀ b o, s.heap.get? b = some o → h'.get? b = some o) → Q (.ref (s.heap.objs.size + 1)) { s with heap := h' }) :
    wpAny (model prog w) A (call (.type "enumerate") [v]) Q E s := by
  refine callType_new F.called_enumerate (by decide) (F.typeCall_enumerate_1 _) (F.newCall_enumerate_1 _) (fun obj => F.args_object_init_2 obj _) F.entry_enumerate_new (enum_new1 B) ⟨h1, ?_⟩
  have hz : (s.heap.push o).objs.size = s.heap.objs.size + 1 := Heap.size_push ..
  have he : IsEnum ((s.heap.push o).push { cls := .type "enumerate", data := .fields #[.none, .bool false, .ref s.heap.objs.size, rawInt 0, .none, .none] }) (s.heap.objs.size + 1) s.heap.objs.size 0 .none := by
    have z := Heap.get?_push_size (s.heap.push o) (o := { cls := .type "enumerate", data := .fields #[.none, .bool false, .ref s.heap.objs.size, rawInt 0, .none, .none] }) rfl
    rw [hz] at z
    exact z
  show _ ∧ _
  rw [hz]
  exact ⟨⟨_, he, rfl⟩, h _ he (Heap.get?_push_of_some _ (Heap.get?_push_size _ B.free)) (by rw [Heap.size_push, hz]) fun b o x => Heap.get?_push_of_some _ (Heap.get?_push_of_some _ x)⟩

/-! ### a list or a tuple that is walked -/
inductive Kd where
  | l | t
def SqK (K : PySem.W.Frag) (H : Hp) (a : Addr) (xs : List V) : Kd → Prop
  | .l => SqL K H a xs
  | .t => SqT K H a xs
def IsK (h : Heap) (a : Addr) (its : Array Value) : Kd → Prop
  | .l => h.IsList a its
  | .t => h.IsTuple a its
def ItK (h : Heap) (it a : Addr) (i : Nat) : Kd → Prop
  | .l => h.IsListIter it a i
  | .t => h.IsTupleIter it a i
def obK (a : Addr) : Kd → Obj
  | .l => { cls := .type "list_iterator", data := .fields #[.ref a, .int 0 0] }
  | .t => { cls := .type "tuple_iterator", data := .fields #[.ref a, .int 0 0] }
theorem begK (k : Kd) (a : Addr) (its : Array Value) : Begins (.ref a) (obK a k) (fun h => IsK h a its k) := by
  cases k
  · exact begins_list a its
  · exact begins_tuple a its
theorem obK_it {h : Heap} {it a : Addr} {k : Kd} (e : h.get? it = some (obK a k)) : ItK h it a 0 k := by
  cases k
  · exact ⟨_, e, rfl, rfl⟩
  · exact ⟨_, e, rfl, rfl⟩
theorem ItK.at' {h h' : Heap} {it a : Addr} {i : Nat} {k : Kd} (x : ItK h it a i k) (q : ∀ o, h.get? it = some o → h'.get? it = some o) : ItK h' it a i k := by
  cases k
  · exact Heap.IsListIter.at x q
  · exact Heap.IsTupleIter.at x q
theorem ItK.ob {h : Heap} {it a : Addr} {i : Nat} {k : Kd} (x : ItK h it a i k) : ∃ o, h.get? it = some o ∧ ∀ v, o.data ≠ .cell v := by
  cases k
  · obtain ⟨o, e, c, d⟩ := x
    exact ⟨o, e, fun v z => by rw [d] at z; cases z⟩
  · obtain ⟨o, e, c, d⟩ := x
    exact ⟨o, e, fun v z => by rw [d] at z; cases z⟩
theorem drK {prog : Program} {w : World} {A : Around} (k : Kd) (hh : A.handled = none) (it a : Addr) (hne : a ≠ it) (its : Array Value) : Draws prog w A it [it, a] its.size (fun i v => its[i]? = some v) (fun i h => ItK h it a i k ∧ IsK h a its k) := by
  cases k
  · exact Draws.list hh it a hne its
  · exact Draws.tuple hh it a hne its
section
variable {X : Cx} {pins : List (Addr × Obj)} {σ : L2.St} {H : Hp} {s : Shared} {a : Addr} {xs : List V} {k : Kd}
theorem seqK (I : Inv X pins σ H s) (h : SqK X.K H a xs k) : ∃ its : List Value, Vals xs its ∧ IsK s.heap a its.toArray k := by
  cases k
  · obtain ⟨its, r, p, _⟩ := I.list h
    exact ⟨its, r, p.isList⟩
  · obtain ⟨its, r, p, _⟩ := I.tuple h
    exact ⟨its, r, p⟩
theorem seqK_inj (I : Inv X pins σ H s) {ys : List V} (h : SqK X.K H a xs k) (h' : SqK X.K H a ys k) : xs = ys := by
  cases k
  · exact I.list_inj h h'
  · exact I.tuple_inj h h'
theorem IsK.lt {h : Heap} {its : Array Value} (x : IsK h a its k) : a < h.objs.size := by
  cases k
  · obtain ⟨o, e, _⟩ := x; exact Heap.lt_size e
  · obtain ⟨o, e, _⟩ := x; exact Heap.lt_size e
end
def ItE (K : PySem.W.Frag) (a : Addr) (k : Kd) : It :=
  ⟨fun i H => ∃ (xs : List V) (x : V), SqK K H a xs k ∧ xs[i]? = some x,
   fun i H v H' => ∃ T x, v = .ref T ∧ H T = none ∧ H' = upd H T (.tup [.int (i : Nat), x]) ∧ ∀ xs, SqK K H a xs k → xs[i]? = some x,
   fun i H => ∃ xs : List V, SqK K H a xs k ∧ xs.length = i⟩
theorem turn_enumK {P : Program} {w : World} {K : PySem.W.Frag} {elts : List Expr} {kk : Nat} {tpos : Pos} (k : Kd) (a e it : Addr) :
    Turn P w K (.Tuple elts kk tpos) (ItE K a k) [e, it] e (fun i h => (∃ old, IsEnum h e it (0 + (i : Int)) old) ∧ ItK h it a i k ∧ e ≠ it ∧ a ≠ it ∧ a ≠ e) where
  mem := by simp
  obj := fun i h st b hb => by
    obtain ⟨⟨old, he⟩, hi, _⟩ := st
    rcases (show b = e ∨ b = it by simpa using hb) with z | z
    · rw [z]; exact ⟨_, he, fun v q => nomatch q⟩
    · rw [z]; exact hi.ob
  keep := fun i h h' st q => by
    obtain ⟨⟨old, he⟩, hi, hn⟩ := st
    exact ⟨⟨old, q e (by simp) _ he⟩, hi.at' fun o z => q it (by simp) o z, hn⟩
  item := by
    intro X hP hw hK hc i pins s σ H E I hf st hg
    subst hP hw hK
    obtain ⟨old, hit, hne, hai, hae⟩ := st
    obtain ⟨xs, x, hq, hx⟩ := hg
    obtain ⟨its, rv, p⟩ := seqK I hq
    obtain ⟨u, hu, ru⟩ := rv.get hx
    have hil : i < its.toArray.size := by
      rw [List.size_toArray]
      exact (List.getElem?_eq_some_iff.mp hu).1
    have D := drK (prog := X.prog) (w := X.w) (A := X.A.in1) k (I.ok.hd hc) it a hai its.toArray
    have N := GoesN.enumFrom (elts := elts) (x1 := kk) (pos := tpos) 0 D e hne (by simp [hne, Ne.symm hae]) (by simp)
    refine N.goes i s _ _ hil ⟨old, hit, p⟩ fun v h' tk hY st' hk htk => ?_
    obtain ⟨T, t, y, rfl, hTn, hy, hT⟩ := hY
    obtain ⟨hen, hit', _⟩ := st'
    have ey : y = u := by
      have h2 : its.toArray[i]? = some u := by simpa using hu
      exact Option.some.inj (hy.symm.trans h2)
    subst ey
    have new : ObjOk X.prog X.w (upd H T (.tup [.int (i : Nat), x])) h' T (.tup [.int (i : Nat), x]) := by
      refine ⟨by show 2 ≤ sizeLine; decide, [.int (0 + (i : Int)) t, y], .cons ⟨t, ?_⟩ (.cons ru .nil), hT⟩
      rw [Int.zero_add]
    have J : Inv X pins σ (upd H T (.tup [.int (i : Nat), x])) { s with heap := h', toks := tk } := I.turnedNew (ch := [e, it]) (fun b ob hb q => hk b ob hb q) hf hTn new
    refine ⟨.ref T, _, J, rfl, ⟨T, x, rfl, I.hok.fresh hTn, rfl, fun ys hy' => by rw [seqK_inj I hy' hq]; exact hx⟩, ⟨hen, hit', hne, hai, hae⟩, fun b hb => ?_⟩
    have hbl : b < s.heap.objs.size := by
      obtain ⟨ol, he⟩ := old
      rcases (show b = e ∨ b = it by simpa using hb) with z | z
      · rw [z]; exact Heap.lt_size he
      · rw [z]; obtain ⟨o, q, _⟩ := hit.ob; exact Heap.lt_size q
    rw [upd_ne (Nat.ne_of_lt (Nat.lt_of_lt_of_le hbl hTn))]
    exact (hf b hb).1
  done := by
    intro X hP hw hK hc i pins s σ H E I hf st hg
    subst hP hw hK
    obtain ⟨old, hit, hne, hai, hae⟩ := st
    obtain ⟨xs, hq, hx⟩ := hg
    obtain ⟨its, rv, p⟩ := seqK I hq
    have hl : its.toArray.size = i := by rw [List.size_toArray, ← rv.length]; exact hx
    have D := drK (prog := X.prog) (w := X.w) (A := X.A.in1) k (I.ok.hd hc) it a hai its.toArray
    have N := GoesN.enumFrom (elts := elts) (x1 := kk) (pos := tpos) 0 D e hne (by simp [hne, Ne.symm hae]) (by simp)
    refine N.stops s (fun s1 => Inv X pins σ H s1) E ?_ fun h' tk hk _ => I.turnedL (ch := [e, it]) (fun b o hb q => hk b o hb q) hf
    rw [hl]
    exact ⟨old, hit, p⟩
  self := fun A i s Q E st h => by
    obtain ⟨⟨_, he⟩, _⟩ := st
    exact wpAny_pyIter_enum he h
def ItZ (K : PySem.W.Frag) (a b : Addr) (k m : Kd) : It :=
  ⟨fun i H => ∃ (xs ys : List V) (x y : V), SqK K H a xs k ∧ SqK K H b ys m ∧ xs[i]? = some x ∧ ys[i]? = some y,
   fun i H v H' => ∃ T x y, v = .ref T ∧ H T = none ∧ H' = upd H T (.tup [x, y]) ∧ (∀ xs, SqK K H a xs k → xs[i]? = some x) ∧ ∀ ys, SqK K H b ys m → ys[i]? = some y,
   fun i H => ∃ xs ys : List V, SqK K H a xs k ∧ SqK K H b ys m ∧ min xs.length ys.length = i⟩
theorem turn_zipK {P : Program} {w : World} {K : PySem.W.Frag} {elts : List Expr} {kk : Nat} {tpos : Pos} {k m : Kd} {a b z TI TO i1 i2 : Addr} (S : ZipSep2 z TI TO i1 i2 [i1, a] [i2, b]) (h1 : a ≠ i1) (h2 : b ≠ i2) :
    Turn P w K (.Tuple elts kk tpos) (ItZ K a b k m) [z, TI, TO, i1, i2] z (fun i h => IsZip h z TI TO .none ∧ IsTupOf2 h TI (.ref i1) (.ref i2) ∧ (∃ a1 a2, IsTupOf2 h TO a1 a2) ∧ ItK h i1 a i k ∧ ItK h i2 b i m) where
  mem := by simp
  obj := fun i h st c hc => by
    obtain ⟨hz, hTI, ⟨x, y, hTO⟩, q1, q2⟩ := st
    rcases (show c = z ∨ c = TI ∨ c = TO ∨ c = i1 ∨ c = i2 by simpa using hc) with q | q | q | q | q
    · rw [q]; exact ⟨_, hz, fun v q => nomatch q⟩
    · rw [q]; exact ⟨_, hTI, fun v q => nomatch q⟩
    · rw [q]; exact ⟨_, hTO, fun v q => nomatch q⟩
    · rw [q]; exact q1.ob
    · rw [q]; exact q2.ob
  keep := fun i h h' st q => by
    obtain ⟨hz, hTI, ⟨x, y, hTO⟩, q1, q2⟩ := st
    exact ⟨q z (by simp) _ hz, q TI (by simp) _ hTI, ⟨x, y, q TO (by simp) _ hTO⟩, q1.at' fun o y => q i1 (by simp) o y, q2.at' fun o y => q i2 (by simp) o y⟩
  item := by
    intro X hP hw hK hc i pins s σ H E I hf st hg
    subst hP hw hK
    obtain ⟨hz, hTI, hTO, q1, q2⟩ := st
    obtain ⟨xs, ys, x, y, hqx, hqy, hx, hy⟩ := hg
    obtain ⟨its, rv, p⟩ := seqK I hqx
    obtain ⟨its2, rv2, p2⟩ := seqK I hqy
    obtain ⟨u, hu, ru⟩ := rv.get hx
    obtain ⟨u2, hu2, ru2⟩ := rv2.get hy
    have hil : i < min its.toArray.size its2.toArray.size := by
      rw [List.size_toArray, List.size_toArray]
      exact Nat.lt_min.mpr ⟨(List.getElem?_eq_some_iff.mp hu).1, (List.getElem?_eq_some_iff.mp hu2).1⟩
    have D1 := drK (prog := X.prog) (w := X.w) (A := X.A.in1) k (I.ok.hd hc) i1 a h1 its.toArray
    have D2 := drK (prog := X.prog) (w := X.w) (A := X.A.in1) m (I.ok.hd hc) i2 b h2 its2.toArray
    have N := GoesN.zip2 (elts := elts) (x1 := kk) (pos := tpos) S D1 D2
    refine N.goes i s _ _ hil ⟨hz, hTI, hTO, ⟨q1, p⟩, ⟨q2, p2⟩⟩ fun v h' tk hY st' hk htk => ?_
    obtain ⟨T, v1, v2, rfl, hTn, hv1, hv2, hT⟩ := hY
    obtain ⟨hz', hTI', hTO', ⟨q1', _⟩, ⟨q2', _⟩⟩ := st'
    have e1 : v1 = u := by
      have z : its.toArray[i]? = some u := by simpa using hu
      exact Option.some.inj (hv1.symm.trans z)
    have e2 : v2 = u2 := by
      have z : its2.toArray[i]? = some u2 := by simpa using hu2
      exact Option.some.inj (hv2.symm.trans z)
    subst e1 e2
    have new : ObjOk X.prog X.w (upd H T (.tup [x, y])) h' T (.tup [x, y]) := ⟨by show 2 ≤ sizeLine; decide, [v1, v2], .cons ru (.cons ru2 .nil), hT⟩
    have hf4 : ∀ c ∈ [z, TO, i1, i2], FpOk X pins H c := fun c hc' => hf c (by
      rcases (show c = z ∨ c = TO ∨ c = i1 ∨ c = i2 by simpa using hc') with q | q | q | q <;> simp [q])
    have J : Inv X pins σ (upd H T (.tup [x, y])) { s with heap := h', toks := tk } := I.turnedNew (ch := [z, TO, i1, i2]) (fun c ob hb q => hk c ob hb q) hf4 hTn new
    refine ⟨.ref T, _, J, rfl, ⟨T, x, y, rfl, I.hok.fresh hTn, rfl, fun l hl => by rw [seqK_inj I hl hqx]; exact hx, fun l hl => by rw [seqK_inj I hl hqy]; exact hy⟩, ⟨hz', hTI', hTO', q1', q2'⟩, fun c hcm => ?_⟩
    have hbl : c < s.heap.objs.size := by
      obtain ⟨_, _, hTO⟩ := hTO
      rcases (show c = z ∨ c = TI ∨ c = TO ∨ c = i1 ∨ c = i2 by simpa using hcm) with q | q | q | q | q
      · rw [q]; exact Heap.lt_size hz
      · rw [q]; exact Heap.lt_size hTI
      · rw [q]; exact Heap.lt_size hTO
      · rw [q]; obtain ⟨o, y, _⟩ := q1.ob; exact Heap.lt_size y
      · rw [q]; obtain ⟨o, y, _⟩ := q2.ob; exact Heap.lt_size y
    rw [upd_ne (Nat.ne_of_lt (Nat.lt_of_lt_of_le hbl hTn))]
    exact (hf c hcm).1
  done := by
    intro X hP hw hK hc i pins s σ H E I hf st hg
    subst hP hw hK
    obtain ⟨hz, hTI, hTO, q1, q2⟩ := st
    obtain ⟨xs, ys, hqx, hqy, hx⟩ := hg
    obtain ⟨its, rv, p⟩ := seqK I hqx
    obtain ⟨its2, rv2, p2⟩ := seqK I hqy
    have hl : min its.toArray.size its2.toArray.size = i := by rw [List.size_toArray, List.size_toArray, ← rv.length, ← rv2.length]; exact hx
    have D1 := drK (prog := X.prog) (w := X.w) (A := X.A.in1) k (I.ok.hd hc) i1 a h1 its.toArray
    have D2 := drK (prog := X.prog) (w := X.w) (A := X.A.in1) m (I.ok.hd hc) i2 b h2 its2.toArray
    have N := GoesN.zip2 (elts := elts) (x1 := kk) (pos := tpos) S D1 D2
    have hf4 : ∀ c ∈ [z, TO, i1, i2], FpOk X pins H c := fun c hc' => hf c (by
      rcases (show c = z ∨ c = TO ∨ c = i1 ∨ c = i2 by simpa using hc') with q | q | q | q <;> simp [q])
    refine N.stops s (fun s1 => Inv X pins σ H s1) E ?_ fun h' tk hk _ => I.turnedL (ch := [z, TO, i1, i2]) (fun b o hb q => hk b o hb q) hf4
    rw [hl]
    exact ⟨hz, hTI, hTO, ⟨q1, p⟩, ⟨q2, p2⟩⟩
  self := fun A i s Q E st h => wpAny_pyIter_zip st.1 h

/-! ### how they come -/
section
variable {X : Cx} {tg : Expr} {e e2 : Expr} {ta : TA} {te : TE} {p pos tpos : Pos} {elts : List Expr} {kk : Nat}
def itSeq (K : PySem.W.Frag) (a : Addr) : Kd → It
  | .l => Itl K a
  | .t => Itt K a
def iSeq (K : PySem.W.Frag) (te : TE) : TI := fun σ H R => te σ H fun x H1 => ∃ a k, x = .ref a ∧ (∃ xs, SqK K H1 a xs k) ∧ R (itSeq K a k) H1
theorem pi_seq (h : PE X e te) : PI X tg e (iSeq X.K te) := by
  refine ⟨fun pins s σ H R I hw => thn (h.run pins s σ H _ I hw) fun v s1 ⟨x, H1, I1, r1, q1⟩ => ?_⟩
  obtain ⟨a, k, rfl, ⟨xs, hq⟩, q⟩ := q1
  obtain rfl : v = Value.ref a := r1
  cases k with
  | l =>
    obtain ⟨its, rv, p, _⟩ := I1.list hq
    exact wpAny_pyIter_list p.isList (pi_one (tk := s1.toks) I1 _ (turn_list a _) ⟨_, Heap.get?_push_size _ rfl, rfl, rfl⟩ q)
  | t =>
    obtain ⟨its, rv, p, _⟩ := I1.tuple hq
    exact wpAny_pyIter_tuple p (pi_one (tk := s1.toks) I1 _ (turn_tuple a _) ⟨_, Heap.get?_push_size _ rfl, rfl, rfl⟩ q)
def iEnumK (K : PySem.W.Frag) (ta : TA) : TI := fun σ H R => ta σ H fun vs H1 => ∃ a k xs, vs = [.ref a] ∧ SqK K H1 a xs k ∧ R (ItE K a k) H1
theorem pi_enumK (hg : Gl X "enumerate") (hm : X.mg "enumerate" = none) (ha : PA X [e] ta) (hs : starEach [e] X.env = [(false, eval e X.env)] := by rfl) :
    PI X (.Tuple elts kk tpos) (.Call (.Name "enumerate" p) [e] [] pos) (iEnumK X.K ta) := by
  refine ⟨fun pins s σ H R I h => Call_ (ld_blt I hg hm boot_enumerate (PyProof.Rows.callWith_type1 (thn (ha.run pos pins s σ H _ I h) fun us s1 ⟨vs, H1, I1, r1, q1⟩ => ?_) hs rfl))⟩
  obtain ⟨a, k, xs, rfl, hq, q⟩ := q1
  obtain ⟨u, rfl, ru⟩ := vals1 r1
  obtain rfl : u = Value.ref a := ru
  obtain ⟨its, rv, p'⟩ := seqK I1 hq
  have la := p'.lt
  refine enum_begins1 (begK k a its.toArray) p' fun h' he hit hsz hk => wpAny_pyIter_enum he ?_
  have J : Inv X pins σ H1 { s1 with heap := h' } := I1.kept (t' := s1.toks) hk
  refine ⟨s1.heap.objs.size + 1, [s1.heap.objs.size + 1, s1.heap.objs.size], _, _, H1, rfl, J, turn_enumK k a (s1.heap.objs.size + 1) s1.heap.objs.size, ⟨⟨.none, he⟩, obK_it hit, Nat.succ_ne_self _, Nat.ne_of_lt la, Nat.ne_of_lt (Nat.lt_succ_of_lt la)⟩, fun b hb => ?_, q⟩
  have hle : s1.heap.objs.size ≤ b := by
    rcases (show b = s1.heap.objs.size + 1 ∨ b = s1.heap.objs.size by simpa using hb) with z | z
    · rw [z]; exact Nat.le_succ _
    · rw [z]; exact Nat.le_refl _
  exact I1.fpOk hle (I1.hok.fresh hle)
def iZipK (K : PySem.W.Frag) (ta : TA) : TI := fun σ H R => ta σ H fun vs H1 => ∃ a b k m xs ys, vs = [.ref a, .ref b] ∧ SqK K H1 a xs k ∧ SqK K H1 b ys m ∧ R (ItZ K a b k m) H1
theorem pi_zipK (hg : Gl X "zip") (hm : X.mg "zip" = none) (ha : PA X [e, e2] ta) (hs : starEach [e, e2] X.env = (false, eval e X.env) :: starEach [e2] X.env := by rfl) (hpl : (backTo pos (starEach [e2] X.env)).any (·.1) = false := by rfl) :
    PI X (.Tuple elts kk tpos) (.Call (.Name "zip" p) [e, e2] [] pos) (iZipK X.K ta) := by
  refine ⟨fun pins s σ H R I h => Call_ (ld_blt I hg hm PyProof.Rows.boot_zip (PyProof.Rows.callWith_type1 (thn (ha.run pos pins s σ H _ I h) fun us s1 ⟨vs, H1, I1, r1, q1⟩ => ?_) hs hpl))⟩
  obtain ⟨a, b, k, m, xs, ys, rfl, hqx, hqy, q⟩ := q1
  obtain ⟨u, u2, rfl, ru, ru2⟩ := vals2 r1
  obtain rfl : u = Value.ref a := ru
  obtain rfl : u2 = Value.ref b := ru2
  obtain ⟨its, rv, p1⟩ := seqK I1 hqx
  obtain ⟨its2, rv2, p2⟩ := seqK I1 hqy
  have la := p1.lt
  have lb := p2.lt
  refine zip_begins2 (begK k a its.toArray) (begK m b its2.toArray) p1 p2 fun h' hz hTI hTO hi1 hi2 hsz hk => wpAny_pyIter_zip hz ?_
  have J : Inv X pins σ H1 { s1 with heap := h' } := I1.kept (t' := s1.toks) hk
  refine ⟨s1.heap.objs.size + 4, [s1.heap.objs.size + 4, s1.heap.objs.size + 2, s1.heap.objs.size + 3, s1.heap.objs.size, s1.heap.objs.size + 1], _, _, H1, rfl, J,
    turn_zipK (k := k) (m := m) (a := a) (b := b) (zip_sep2 (N := s1.heap.objs.size) (fp1 := [a]) (fp2 := [b]) (by simpa using la) (by simpa using lb)) (Nat.ne_of_lt la) (Nat.ne_of_lt (Nat.lt_succ_of_lt lb)), ⟨hz, hTI, ⟨_, _, hTO⟩, obK_it hi1, obK_it hi2⟩, fun c hcm => ?_, q⟩
  have hle : s1.heap.objs.size ≤ c := by
    rcases (show c = s1.heap.objs.size + 4 ∨ c = s1.heap.objs.size + 2 ∨ c = s1.heap.objs.size + 3 ∨ c = s1.heap.objs.size ∨ c = s1.heap.objs.size + 1 by simpa using hcm) with z | z | z | z | z
    · rw [z]; exact Nat.le_add_right _ _
    · rw [z]; exact Nat.le_add_right _ _
    · rw [z]; exact Nat.le_add_right _ _
    · rw [z]; exact Nat.le_refl _
    · rw [z]; exact Nat.le_add_right _ _
  exact I1.fpOk hle (I1.hok.fresh hle)
end
end Wm
end

section
/-! Sources of loops, targets, for, while, comprehensions. -/
namespace Wm
open PySem PySem.Spec PyProof.Rows L2
/-- what is walked: its items; the slots whose lists of one's own are walked, as they must stay -/
structure Itm where
  xs : List D
  bor : List (Nat × SD)
def Itm.keep (m : Itm) (ρ : List SD) : Prop := ∀ p ∈ m.bor, ρ[p.1]? = some p.2
def Itm.slots (m : Itm) (σ σ' : L2.St) : Prop := ∀ p ∈ m.bor, σ'[p.1]? = σ[p.1]?
abbrev Src := List SD → Rs (Itm × List SD)
structure Wlk (G : Gx) (vs0 : List V) (O W : List Addr) (σ : L2.St) (H : Hp) (J : It) (m : Itm) : Prop where
  len : m.xs.length ≤ sizeLine
  go : ∀ O2 W2 σ2 H2 ρ2 i d, Stp O W H O2 W2 H2 → SR G vs0 O2 W2 σ2 H2 ρ2 → m.slots σ σ2 → m.keep ρ2 → m.xs[i]? = some d → J.go i H2 ∧ ∀ x H3, J.yld i H2 x H3 → Same H2 H3 ∧ Rp G O2 H3 d x
  stop : ∀ O2 W2 σ2 H2 ρ2, Stp O W H O2 W2 H2 → SR G vs0 O2 W2 σ2 H2 ρ2 → m.slots σ σ2 → m.keep ρ2 → J.stop m.xs.length H2
def AftI (G : Gx) (vs0 : List V) (Wx : WX) (O W : List Addr) (σ : L2.St) (H : Hp) (R : It → Hp → Prop) : Rs (Itm × List SD) → Prop
  | .ok (m, ρ') => ∀ J O' W' H', Stp O W H O' W' H' → SR G vs0 O' W' σ H' ρ' → m.keep ρ' → Wlk G vs0 O' W' σ H' J m → R J H'
  | .exc c fs ρ' => ExcA G vs0 Wx O W σ H c fs ρ'
  | .bad => False
structure IJ (X : Cx) (cl : Cl) (vs0 : List V) (Wx : WX) (tg iter : Expr) (src : Src) : Prop where
  ex : ∃ wi, PI X tg iter wi ∧ (∀ x, foldedSetIterable iter X.env x = pure x) ∧ ∀ O W σ H ρ R, SR (gx X cl) vs0 O W σ H ρ → AftI (gx X cl) vs0 Wx O W σ H R (src ρ) → wi σ H R
/-- a value that is a list or tuple, in all worlds to come -/
def Cn (G : Gx) (vs0 : List V) (O W : List Addr) (σ : L2.St) (H : Hp) (v : V) (m : Itm) : Prop :=
  m.xs.length ≤ sizeLine ∧ ∃ a k, v = .ref a ∧ ∀ O2 W2 σ2 H2 ρ2, Stp O W H O2 W2 H2 → SR G vs0 O2 W2 σ2 H2 ρ2 → m.slots σ σ2 → m.keep ρ2 → ∃ vs, SqK G.K H2 a vs k ∧ RpA G O2 H2 m.xs vs
def AftC (G : Gx) (vs0 : List V) (Wx : WX) (O W : List Addr) (σ : L2.St) (H : Hp) (R : V → Hp → Prop) : Rs (Itm × List SD) → Prop
  | .ok (m, ρ') => ∀ v O' W' H', Stp O W H O' W' H' → SR G vs0 O' W' σ H' ρ' → m.keep ρ' → Cn G vs0 O' W' σ H' v m → R v H'
  | .exc c fs ρ' => ExcA G vs0 Wx O W σ H c fs ρ'
  | .bad => False
def itemsOf : D → Rs (List D)
  | .lst xs => .ok xs
  | .tup xs => .ok xs
  | _ => .bad
def conV (i : Nat) : Src := fun ρ => match ρ[i]? with
  | some (.sh d) => (itemsOf d).bind fun xs => .ok (⟨xs, []⟩, ρ)
  | some (.own xs) => .ok (⟨xs, [(i, .own xs)]⟩, ρ)
  | some (.byr xs) => .ok (⟨xs, [(i, .byr xs)]⟩, ρ)
  | _ => .bad
def con : LOp → Src
  | .va i, ρ => conV i ρ
  | .ex f, ρ => (f ρ).bind fun p => (itemsOf p.1.frz).bind fun xs => .ok (⟨xs, []⟩, p.2)
section
variable {X : Cx} {cl : Cl} {vs0 : List V} {Wx : WX}
theorem cn_data {G : Gx} {O W : List Addr} {σ : L2.St} {H : Hp} {d : D} {v : V} {xs : List D} (w : Wf O W H) (h : Rp G O H d v) (e : itemsOf d = .ok xs) : Cn G vs0 O W σ H v ⟨xs, []⟩ := by
  cases d with
  | lst ds =>
    cases e
    have h' := h
    simp only [Rp] at h'
    obtain ⟨a, vs, ev, t, r⟩ := h'
    refine ⟨by rw [r.length]; exact t.1, a, .l, ev, fun O2 W2 σ2 H2 ρ2 st sr _ _ => ⟨vs, (LO.step (G := G) w st t).sq, r.step w st⟩⟩
  | tup ds =>
    cases e
    have h' := h
    simp only [Rp] at h'
    obtain ⟨a, vs, ev, t, r⟩ := h'
    refine ⟨by rw [r.length]; exact t.1, a, .t, ev, fun O2 W2 σ2 H2 ρ2 st sr _ _ => ⟨vs, (TO.step (G := G) w st t).sq, r.step w st⟩⟩
  | _ => cases e
theorem itemsOf_noexc {d : D} {c : Str} {fs : List (Str × D)} {ρ : List SD} : itemsOf d ≠ .exc c fs ρ := by
  cases d <;> exact fun z => nomatch z
theorem cn_own {G : Gx} {O W : List Addr} {σ : L2.St} {H : Hp} {ρ : List SD} {i : Nat} {s : SD} {xs : List D} {a : Addr} (sr : SR G vs0 O W σ H ρ) (e : σ[i]? = some (some (.ref a))) (o : OwnAt G O W H a xs) (hs : s = .own xs ∨ s = .byr xs) : Cn G vs0 O W σ H (.ref a) ⟨xs, [(i, s)]⟩ := by
  obtain ⟨_, vs, _, h3, h4⟩ := o
  refine ⟨by rw [h4.length]; exact h3, a, .l, rfl, fun O2 W2 σ2 H2 ρ2 st sr2 hsl hk => ?_⟩
  have k1 : ρ2[i]? = some s := hk (i, s) (by simp)
  have k2 : σ2[i]? = σ[i]? := hsl (i, s) (by simp)
  obtain ⟨b, eb, _, vs', h2', _, h4'⟩ := sr2.getOwn k1 hs
  rw [k2, e] at eb; cases eb
  exact ⟨vs', SqL.of h2', h4'⟩
theorem con_core {e : Expr} {o : LOp} (h : LJ X cl vs0 Wx e o) : ∃ t, PE X e t ∧ ∀ O W σ H ρ R, SR (gx X cl) vs0 O W σ H ρ → AftC (gx X cl) vs0 Wx O W σ H R (con o ρ) → t σ H R := by
  cases o with
  | va i =>
    refine ⟨tVar i, h, fun O W σ H ρ R sr hw => ?_⟩
    have hw : AftC (gx X cl) vs0 Wx O W σ H R (conV i ρ) := hw
    unfold conV at hw
    split at hw
    · rename_i d e
      obtain ⟨v, ev, r⟩ := sr.get e
      cases e2 : itemsOf d with
      | bad => rw [e2] at hw; exact hw.elim
      | exc c fs ρ' => exact absurd e2 itemsOf_noexc
      | ok xs =>
        rw [e2] at hw
        exact ⟨v, ev, hw v O W H Stp.refl sr (fun p hp => absurd hp (by simp)) (cn_data sr.wf r e2)⟩
    · rename_i xs e
      obtain ⟨a, ea, oa⟩ := sr.getOwn e (.inl rfl)
      exact ⟨_, ea, hw (.ref a) O W H Stp.refl sr (fun p hp => by
        have : p = (i, SD.own xs) := by simpa using hp
        rw [this]; exact e) (cn_own sr ea oa (.inl rfl))⟩
    · rename_i xs e
      obtain ⟨a, ea, oa⟩ := sr.getOwn e (.inr rfl)
      exact ⟨_, ea, hw (.ref a) O W H Stp.refl sr (fun p hp => by
        have : p = (i, SD.byr xs) := by simpa using hp
        rw [this]; exact e) (cn_own sr ea oa (.inr rfl))⟩
    · exact hw.elim
  | ex f =>
    obtain ⟨t, q1, q2⟩ := h.ex
    refine ⟨t, q1, fun O W σ H ρ R sr hw => q2 O W σ H ρ _ sr ?_⟩
    have hw : AftC (gx X cl) vs0 Wx O W σ H R ((f ρ).bind fun p => (itemsOf p.1.frz).bind fun xs => .ok (⟨xs, []⟩, p.2)) := hw
    cases e : f ρ with
    | bad => rw [e] at hw; exact hw
    | exc c fs ρ' => rw [e] at hw; exact hw
    | ok p =>
      obtain ⟨r, ρ1⟩ := p
      rw [e] at hw
      have hw2 : AftC (gx X cl) vs0 Wx O W σ H R ((itemsOf r.frz).bind fun xs => .ok (⟨xs, []⟩, ρ1)) := hw
      intro v O1 W1 H1 st1 sr1 rr
      obtain ⟨O2, W2, st2, sr2, rp⟩ := rr.frz sr1
      cases e2 : itemsOf r.frz with
      | bad => rw [e2] at hw2; exact hw2.elim
      | exc c fs ρ' => exact absurd e2 itemsOf_noexc
      | ok xs =>
        rw [e2] at hw2
        exact hw2 v O2 W2 H1 (st1.trans sr.wf st2) sr2 (fun p hp => absurd hp (by simp)) (cn_data sr2.wf rp e2)
/-! ### sources -/
theorem itemsV {G : Gx} {O : List Addr} {H : Hp} {ds : List D} {vs : List V} {i : Nat} {d : D} (r : RpA G O H ds vs) (e : ds[i]? = some d) : ∃ v, vs[i]? = some v ∧ Rp G O H d v := r.getD e
/-- a list or tuple to be walked -/
def CJ (X : Cx) (cl : Cl) (vs0 : List V) (Wx : WX) (e : Expr) (src : Src) : Prop := ∃ t, PE X e t ∧ ∀ O W σ H ρ R, SR (gx X cl) vs0 O W σ H ρ → AftC (gx X cl) vs0 Wx O W σ H R (src ρ) → t σ H R
/-- a name that a loop walks: the caller's list stays as it is, one's own is given up -/
def conF (i : Nat) : Src := fun ρ => match ρ[i]? with
  | some (.sh d) => (itemsOf d).bind fun xs => .ok (⟨xs, []⟩, ρ)
  | some (.own xs) => .ok (⟨xs, []⟩, ρ.set i (.sh (.lst xs)))
  | some (.byr xs) => .ok (⟨xs, [(i, .byr xs)]⟩, ρ)
  | _ => .bad
theorem cj_F {i : Nat} {e : Expr} (h : PE X e (tVar i)) : CJ X cl vs0 Wx e (conF i) := by
  refine ⟨tVar i, h, fun O W σ H ρ R sr hw => ?_⟩
  unfold conF at hw
  split at hw
  · rename_i d e
    obtain ⟨v, ev, r⟩ := sr.get e
    cases e2 : itemsOf d with
    | bad => rw [e2] at hw; exact hw.elim
    | exc c fs ρ' => exact absurd e2 itemsOf_noexc
    | ok xs =>
      rw [e2] at hw
      exact ⟨v, ev, hw v O W H Stp.refl sr (fun p hp => absurd hp (by simp)) (cn_data sr.wf r e2)⟩
  · rename_i xs e
    obtain ⟨a, O', W', e1, st, sr', r⟩ := sr.demote e (.inl rfl)
    exact ⟨_, e1, hw (.ref a) O' W' H st sr' (fun p hp => absurd hp (by simp)) (cn_data (d := .lst xs) sr'.wf r rfl)⟩
  · rename_i xs e
    obtain ⟨a, ea, oa⟩ := sr.getOwn e (.inr rfl)
    exact ⟨_, ea, hw (.ref a) O W H Stp.refl sr (fun p hp => by
      have : p = (i, SD.byr xs) := by simpa using hp
      rw [this]; exact e) (cn_own sr ea oa (.inr rfl))⟩
  · exact hw.elim
theorem ij_seqC {tg e : Expr} {src : Src} (h : CJ X cl vs0 Wx e src) (hs : ∀ x, foldedSetIterable e X.env x = pure x := by intro _; rfl) : IJ X cl vs0 Wx tg e src := by
  obtain ⟨t, p, q⟩ := h
  refine ⟨⟨_, pi_seq p, hs, fun O W σ H ρ R sr hw => q O W σ H ρ _ sr ?_⟩⟩
  cases e : src ρ with
  | bad => rw [e] at hw; exact hw
  | exc c fs ρ' => rw [e] at hw; exact hw
  | ok m =>
    obtain ⟨m, ρ1⟩ := m
    rw [e] at hw
    intro v O' W' H' st sr' hk ⟨hl, a, k, ev, hc⟩
    refine ⟨a, k, ev, ?_, hw _ O' W' H' st sr' hk ⟨hl, fun O2 W2 σ2 H2 ρ2 i d st2 sr2 h1 h2 hd => ?_, fun O2 W2 σ2 H2 ρ2 st2 sr2 h1 h2 => ?_⟩⟩
    · obtain ⟨vs, hq, _⟩ := hc O' W' σ H' ρ1 Stp.refl sr' (fun _ _ => rfl) hk
      exact ⟨vs, hq⟩
    · obtain ⟨vs, hq, ra⟩ := hc O2 W2 σ2 H2 ρ2 st2 sr2 h1 h2
      obtain ⟨v, hv, rv⟩ := ra.getD hd
      cases k with
      | l => exact ⟨⟨vs, v, hq, hv⟩, fun x H3 ⟨e3, hy⟩ => by
          subst e3
          have : x = v := Option.some.inj ((hy vs hq).symm.trans hv)
          subst this
          exact ⟨Same.refl _, rv⟩⟩
      | t => exact ⟨⟨vs, v, hq, hv⟩, fun x H3 ⟨e3, hy⟩ => by
          subst e3
          have : x = v := Option.some.inj ((hy vs hq).symm.trans hv)
          subst this
          exact ⟨Same.refl _, rv⟩⟩
    · obtain ⟨vs, hq, ra⟩ := hc O2 W2 σ2 H2 ρ2 st2 sr2 h1 h2
      cases k with
      | l => exact ⟨vs, hq, Nat.le_of_eq ra.length.symm⟩
      | t => exact ⟨vs, hq, Nat.le_of_eq ra.length.symm⟩
theorem ij_seq {tg e : Expr} {o : LOp} (h : LJ X cl vs0 Wx e o) (hs : ∀ x, foldedSetIterable e X.env x = pure x := by intro _; rfl) : IJ X cl vs0 Wx tg e (con o) := ij_seqC (con_core h) hs
theorem rp_tup' {G : Gx} {O W : List Addr} {H : Hp} {p : Addr} {vs : List V} {ds : List D} (w : Wf O W H) (n : H p = none) (hl : vs.length ≤ sizeLine) (h : RpA G O H ds vs) : Same H (upd H p (.tup vs)) ∧ Rp G O (upd H p (.tup vs)) (.tup ds) (.ref p) := ⟨same_upd n, rp_tup w n hl h⟩
def enumD (xs : List D) : List D := xs.mapIdx fun i x => .tup [.int (i : Nat), x]
def enumS (src : Src) : Src := fun ρ => (src ρ).bind fun p => .ok (⟨enumD p.1.xs, p.1.bor⟩, p.2)
abbrev srcEnum (o : LOp) : Src := enumS (con o)
theorem ij_enumC {e : Expr} {src : Src} {p pos tpos : Pos} {elts : List Expr} {kk : Nat} (hg : Gl X "enumerate") (hm : X.mg "enumerate" = none) (h : CJ X cl vs0 Wx e src) (hs : starEach [e] X.env = [(false, eval e X.env)] := by rfl) :
    IJ X cl vs0 Wx (.Tuple elts kk tpos) (.Call (.Name "enumerate" p) [e] [] pos) (enumS src) := by
  obtain ⟨t, p, q⟩ := h
  refine ⟨⟨_, pi_enumK hg hm (pa_cons p pa_nil hs) hs, fun _ => rfl, fun O W σ H ρ R sr hw => q O W σ H ρ _ sr ?_⟩⟩
  unfold enumS at hw
  cases e : src ρ with
  | bad => rw [e] at hw; exact hw
  | exc c fs ρ' => rw [e] at hw; exact hw
  | ok m =>
    obtain ⟨m, ρ1⟩ := m
    rw [e] at hw
    intro v O' W' H' st sr' hk ⟨hl, a, k, ev, hc⟩
    obtain ⟨vs, hq, _⟩ := hc O' W' σ H' ρ1 Stp.refl sr' (fun _ _ => rfl) hk
    refine ⟨a, k, vs, by rw [ev], hq, hw _ O' W' H' st sr' hk ⟨by simpa [enumD] using hl, fun O2 W2 σ2 H2 ρ2 i d st2 sr2 h1 h2 hd => ?_, fun O2 W2 σ2 H2 ρ2 st2 sr2 h1 h2 => ?_⟩⟩
    · obtain ⟨vs, hq, ra⟩ := hc O2 W2 σ2 H2 ρ2 st2 sr2 h1 h2
      have hd : (enumD m.xs)[i]? = some d := hd
      unfold enumD at hd
      rw [List.getElem?_mapIdx] at hd
      obtain ⟨x, hx, rfl⟩ := Option.map_eq_some_iff.mp hd
      obtain ⟨v, hv, rv⟩ := ra.getD hx
      refine ⟨⟨vs, v, hq, hv⟩, fun y H3 ⟨T, z, ey, hT, e3, hy⟩ => ?_⟩
      subst e3 ey
      have : z = v := Option.some.inj ((hy vs hq).symm.trans hv)
      subst this
      refine rp_tup' sr2.wf hT (by show 2 ≤ sizeLine; decide) ?_
      simp only [RpA, Rp]
      exact ⟨_, _, rfl, rfl, _, _, rfl, rv, rfl⟩
    · obtain ⟨vs, hq, ra⟩ := hc O2 W2 σ2 H2 ρ2 st2 sr2 h1 h2
      exact ⟨vs, hq, by simp [enumD, ra.length]⟩
theorem ij_enum {e : Expr} {o : LOp} {p pos tpos : Pos} {elts : List Expr} {kk : Nat} (hg : Gl X "enumerate") (hm : X.mg "enumerate" = none) (h : LJ X cl vs0 Wx e o) (hs : starEach [e] X.env = [(false, eval e X.env)] := by rfl) :
    IJ X cl vs0 Wx (.Tuple elts kk tpos) (.Call (.Name "enumerate" p) [e] [] pos) (srcEnum o) := ij_enumC hg hm (con_core h) hs
noncomputable instance (m : Itm) (ρ : List SD) : Decidable (m.keep ρ) := Classical.propDecidable _
def zipD (xs ys : List D) : List D := List.zipWith (fun x y => .tup [x, y]) xs ys
noncomputable def srcZip (o o2 : LOp) : Src := fun ρ => (con o ρ).bind fun p => (con o2 p.2).bind fun q => if p.1.keep q.2 then .ok (⟨zipD p.1.xs q.1.xs, p.1.bor ++ q.1.bor⟩, q.2) else .bad
theorem Cn.later {G : Gx} {O W O1 W1 : List Addr} {σ : L2.St} {H H1 : Hp} {v : V} {m : Itm} (w : Wf O W H) (s : Stp O W H O1 W1 H1) (h : Cn G vs0 O W σ H v m) : Cn G vs0 O1 W1 σ H1 v m := by
  obtain ⟨hl, a, k, ev, hc⟩ := h
  exact ⟨hl, a, k, ev, fun O2 W2 σ2 H2 ρ2 st => hc O2 W2 σ2 H2 ρ2 (s.trans w st)⟩
theorem ij_zip {e e2 : Expr} {o o2 : LOp} {p pos tpos : Pos} {elts : List Expr} {kk : Nat} (hg : Gl X "zip") (hm : X.mg "zip" = none) (h : LJ X cl vs0 Wx e o) (h2 : LJ X cl vs0 Wx e2 o2)
    (hs : starEach [e, e2] X.env = (false, eval e X.env) :: starEach [e2] X.env := by rfl) (hs2 : starEach [e2] X.env = (false, eval e2 X.env) :: starEach [] X.env := by rfl) (hpl : (backTo pos (starEach [e2] X.env)).any (·.1) = false := by rfl) :
    IJ X cl vs0 Wx (.Tuple elts kk tpos) (.Call (.Name "zip" p) [e, e2] [] pos) (srcZip o o2) := by
  obtain ⟨t, p, q⟩ := con_core h
  obtain ⟨t2, p2, q2⟩ := con_core h2
  refine ⟨⟨_, pi_zipK hg hm (pa_cons p (pa_cons p2 pa_nil hs2) hs) hs hpl, fun _ => rfl, fun O W σ H ρ R sr hw => q O W σ H ρ _ sr ?_⟩⟩
  unfold srcZip at hw
  cases e : con o ρ with
  | bad => rw [e] at hw; exact hw
  | exc c fs ρ' => rw [e] at hw; exact hw
  | ok m =>
    obtain ⟨m, ρ1⟩ := m
    rw [e] at hw
    have hw : AftI (gx X cl) vs0 Wx O W σ H R ((con o2 ρ1).bind fun q => if m.keep q.2 then .ok (⟨zipD m.xs q.1.xs, m.bor ++ q.1.bor⟩, q.2) else .bad) := hw
    intro v O1 W1 H1 st1 sr1 hk1 cn1
    refine q2 O1 W1 σ H1 ρ1 _ sr1 ?_
    cases e2 : con o2 ρ1 with
    | bad => rw [e2] at hw; exact hw
    | exc c fs ρ' => rw [e2] at hw; exact ExcA.back sr.wf st1 hw
    | ok m2 =>
      obtain ⟨m2, ρ2⟩ := m2
      rw [e2] at hw
      have hw : AftI (gx X cl) vs0 Wx O W σ H R (if m.keep ρ2 then .ok (⟨zipD m.xs m2.xs, m.bor ++ m2.bor⟩, ρ2) else .bad) := hw
      intro v2 O2 W2 H2 st2 sr2 hk2 cn2
      split at hw
      · rename_i hkk
        have cn1' := cn1.later sr1.wf st2
        obtain ⟨hl, a, k, ev, hc⟩ := cn1'
        obtain ⟨hl2, a2, k2, ev2, hc2⟩ := cn2
        obtain ⟨vs, hq, _⟩ := hc O2 W2 σ H2 ρ2 Stp.refl sr2 (fun _ _ => rfl) hkk
        obtain ⟨vs2, hq2, _⟩ := hc2 O2 W2 σ H2 ρ2 Stp.refl sr2 (fun _ _ => rfl) hk2
        have sl : ∀ {σ2 : L2.St}, Itm.slots ⟨zipD m.xs m2.xs, m.bor ++ m2.bor⟩ σ σ2 → m.slots σ σ2 ∧ m2.slots σ σ2 := fun z => ⟨fun p hp => z p (List.mem_append_left _ hp), fun p hp => z p (List.mem_append_right _ hp)⟩
        have kp : ∀ {ρ : List SD}, Itm.keep ⟨zipD m.xs m2.xs, m.bor ++ m2.bor⟩ ρ → m.keep ρ ∧ m2.keep ρ := fun z => ⟨fun p hp => z p (List.mem_append_left _ hp), fun p hp => z p (List.mem_append_right _ hp)⟩
        refine ⟨a, a2, k, k2, vs, vs2, by rw [ev, ev2], hq, hq2, hw _ O2 W2 H2 (st1.trans sr.wf st2) sr2 (fun p hp => (List.mem_append.mp hp).elim (hkk p) (hk2 p)) ⟨by simp only [zipD, List.length_zipWith]; omega, fun O3 W3 σ3 H3 ρ3 i d st3 sr3 h1 h2 hd => ?_, fun O3 W3 σ3 H3 ρ3 st3 sr3 h1 h2 => ?_⟩⟩
        · obtain ⟨us, hu, ra⟩ := hc O3 W3 σ3 H3 ρ3 st3 sr3 (sl h1).1 (kp h2).1
          obtain ⟨us2, hu2, ra2⟩ := hc2 O3 W3 σ3 H3 ρ3 st3 sr3 (sl h1).2 (kp h2).2
          have hd : (zipD m.xs m2.xs)[i]? = some d := hd
          unfold zipD at hd
          rw [List.getElem?_zipWith] at hd
          cases e3 : m.xs[i]? with
          | none => rw [e3] at hd; cases hd
          | some x =>
            cases e4 : m2.xs[i]? with
            | none => rw [e3, e4] at hd; cases hd
            | some y =>
              rw [e3, e4] at hd
              have hd : D.tup [x, y] = d := Option.some.inj hd
              subst hd
              obtain ⟨w1, hw1, rw1⟩ := ra.getD e3
              obtain ⟨w2, hw2, rw2⟩ := ra2.getD e4
              refine ⟨⟨us, us2, w1, w2, hu, hu2, hw1, hw2⟩, fun z H4 ⟨T, z1, z2, ez, hT, e4', hy1, hy2⟩ => ?_⟩
              subst e4' ez
              have q1 : z1 = w1 := Option.some.inj ((hy1 us hu).symm.trans hw1)
              have q2 : z2 = w2 := Option.some.inj ((hy2 us2 hu2).symm.trans hw2)
              subst q1 q2
              refine rp_tup' sr3.wf hT (by show 2 ≤ sizeLine; decide) ?_
              simp only [RpA]
              exact ⟨_, _, rfl, rw1, _, _, rfl, rw2, rfl⟩
        · obtain ⟨us, hu, ra⟩ := hc O3 W3 σ3 H3 ρ3 st3 sr3 (sl h1).1 (kp h2).1
          obtain ⟨us2, hu2, ra2⟩ := hc2 O3 W3 σ3 H3 ρ3 st3 sr3 (sl h1).2 (kp h2).2
          exact ⟨us, us2, hu, hu2, by simp [zipD, List.length_zipWith, ra.length, ra2.length]⟩
      · exact hw.elim
/-- range -/
def rangeD (lo : Int) (n : Nat) : List D := (List.range n).map fun (k : Nat) => .int (lo + k)
def rngOk (i : Int) : Prop := -(2 ^ 62) ≤ i ∧ i < 2 ^ 62
instance (i : Int) : Decidable (rngOk i) := by unfold rngOk; infer_instance
def rng1 (ρ : List SD) : List D → Rs (Itm × List SD)
  | [.int j] => if rngOk j ∧ j.toNat ≤ sizeLine then .ok (⟨rangeD 0 j.toNat, []⟩, ρ) else .bad
  | _ => .bad
def rng2 (ρ : List SD) : List D → Rs (Itm × List SD)
  | [.int i, .int j] => if rngOk i ∧ rngOk j ∧ (j - i).toNat ≤ sizeLine then .ok (⟨rangeD i (j - i).toNat, []⟩, ρ) else .bad
  | _ => .bad
def srcRng1 (fl : List LOp) : Src := fun ρ => (ops fl ρ).bind fun q => rng1 q.2 q.1
def srcRng2 (fl : List LOp) : Src := fun ρ => (ops fl ρ).bind fun q => rng2 q.2 q.1
theorem wlk_rng {G : Gx} {O W : List Addr} {σ : L2.St} {H : Hp} {lo : Int} {n : Nat} (h : n ≤ sizeLine) : Wlk G vs0 O W σ H (Itr lo n) ⟨rangeD lo n, []⟩ := by
  refine ⟨by simpa [rangeD] using h, fun O2 W2 σ2 H2 ρ2 i d st sr h1 h2 hd => ?_, fun O2 W2 σ2 H2 ρ2 st sr h1 h2 => ?_⟩
  · have hd : (rangeD lo n)[i]? = some d := hd
    unfold rangeD at hd
    rw [List.getElem?_map] at hd
    obtain ⟨k, hk, rfl⟩ := Option.map_eq_some_iff.mp hd
    obtain ⟨hl, e⟩ := List.getElem?_eq_some_iff.mp hk
    rw [List.getElem_range] at e
    subst e
    have hl' : i < n := by simpa using hl
    refine ⟨hl', fun x H3 ⟨e1, e2⟩ => ?_⟩
    subst e1 e2
    exact ⟨Same.refl _, by simp only [Rp]⟩
  · show n ≤ (rangeD lo n).length
    simp [rangeD]
theorem ij_rng1 {tg a : Expr} {fl : List LOp} {p pos : Pos} (hg : Gl X "range") (hm : X.mg "range" = none) (h : OJ X cl vs0 Wx [a] fl) (hs : starEach [a] X.env = [(false, eval a X.env)] := by rfl) : IJ X cl vs0 Wx tg (.Call (.Name "range" p) [a] [] pos) (srcRng1 fl) := by
  obtain ⟨ts, _, pa, q⟩ := h.ex
  refine ⟨⟨_, pi_range1 hg hm pa hs, fun _ => rfl, fun O W σ H ρ R sr hw => q O W σ H ρ _ sr ?_⟩⟩
  unfold srcRng1 at hw
  cases e : ops fl ρ with
  | bad => rw [e] at hw; exact hw
  | exc c fs ρ' => rw [e] at hw; exact hw
  | ok m =>
    obtain ⟨ds, ρ1⟩ := m
    rw [e] at hw
    intro vs O' W' H' st sr' ho
    have hw : AftI (gx X cl) vs0 Wx O W σ H R (rng1 ρ1 ds) := hw
    unfold rng1 at hw
    split at hw
    · split at hw
      · rename_i hz
        obtain ⟨v, ev, h1⟩ := ho.one
        refine ⟨_, by rw [ev, h1.int], hz.1.1, hz.1.2, hw _ O' W' H' st sr' (fun p hp => absurd hp (by simp)) (wlk_rng hz.2)⟩
      · exact hw.elim
    · exact hw.elim
theorem ij_rng2 {tg a b : Expr} {fl : List LOp} {p pos : Pos} (hg : Gl X "range") (hm : X.mg "range" = none) (h : OJ X cl vs0 Wx [a, b] fl) (hs : starEach [a, b] X.env = [(false, eval a X.env), (false, eval b X.env)] := by rfl) (hs2 : starEach [b] X.env = [(false, eval b X.env)] := by rfl) :
    IJ X cl vs0 Wx tg (.Call (.Name "range" p) [a, b] [] pos) (srcRng2 fl) := by
  obtain ⟨ts, _, pa, q⟩ := h.ex
  refine ⟨⟨_, pi_range2 hg hm pa hs hs2, fun _ => rfl, fun O W σ H ρ R sr hw => q O W σ H ρ _ sr ?_⟩⟩
  unfold srcRng2 at hw
  cases e : ops fl ρ with
  | bad => rw [e] at hw; exact hw
  | exc c fs ρ' => rw [e] at hw; exact hw
  | ok m =>
    obtain ⟨ds, ρ1⟩ := m
    rw [e] at hw
    intro vs O' W' H' st sr' ho
    have hw : AftI (gx X cl) vs0 Wx O W σ H R (rng2 ρ1 ds) := hw
    unfold rng2 at hw
    split at hw
    · split at hw
      · rename_i hz
        obtain ⟨v, u, ev, h1, h2⟩ := ho.two
        refine ⟨_, _, by rw [ev, h1.int, h2.int], ⟨hz.1.1, hz.1.2, hz.2.1.1, hz.2.1.2⟩, hw _ O' W' H' st sr' (fun p hp => absurd hp (by simp)) (wlk_rng hz.2.2)⟩
      · exact hw.elim
    · exact hw.elim
end
end Wm
end

section
/-! Targets, for, while, comprehensions. -/
namespace Wm
open PySem PySem.Spec PyProof.Rows L2
abbrev Tg := D → List SD → Option (List SD)
structure GJ (X : Cx) (cl : Cl) (vs0 : List V) (tg : Expr) (st : Tg) (is : List Nat) : Prop where
  ex : ∃ g, PG X tg g ∧ ∀ O W σ H ρ ρ' d v Q, SR (gx X cl) vs0 O W σ H ρ → Rp (gx X cl) O H d v → st d ρ = some ρ' → (∀ σ', SR (gx X cl) vs0 O W σ' H ρ' → (∀ vs, (∀ i ∈ is, i ∈ vs) → wipe σ' vs = wipe σ vs) → Q σ' H) → g v σ H Q
theorem wipe_set {σ : L2.St} {i : Nat} {x : Option V} : ∀ {vs : List Nat}, i ∈ vs → wipe (σ.set i x) vs = wipe σ vs
  | [], h => absurd h (by simp)
  | v :: vs, h => by
    unfold wipe
    by_cases e : i ∈ vs
    · rw [wipe_set e]
    · have ev : i = v := by
        rcases List.mem_cons.mp h with z | z
        · exact z
        · exact absurd z e
      subst ev
      have key : ∀ {ws : List Nat}, i ∉ ws → wipe (σ.set i x) ws = (wipe σ ws).set i x := by
        intro ws
        induction ws with
        | nil => intro _; rfl
        | cons w ws ih =>
          intro hn
          have hw : w ≠ i := fun z => hn (by simp [z])
          unfold wipe
          rw [ih (fun z => hn (List.mem_cons_of_mem _ z)), List.set_comm _ _ (Ne.symm hw)]
      rw [key e, List.set_set]
def stN (i : Nat) : Tg := fun d ρ => some (ρ.set i (.sh d))
def setO : List Nat → List D → List SD → Option (List SD)
  | [], [], ρ => some ρ
  | i :: is, d :: ds, ρ => setO is ds (ρ.set i (.sh d))
  | _, _, _ => none
def stT (is : List Nat) : Tg := fun d ρ => match d with
  | .tup ds => setO is ds ρ
  | _ => none
section
variable {X : Cx} {cl : Cl} {vs0 : List V} {Wx : WX}
theorem gj_name {i : Nat} {x : Str} {pos : Pos} (hN : X.N.Nodup) (hi : X.N[i]? = some x) (hx : Loc X.env.scope x) (hf : X.fn x = true ∨ X.env.scope.names.lookup x = some .local := by first | exact .inl rfl | exact .inr rfl | assumption) : GJ X cl vs0 (.Name x pos) (stN i) [i] :=
  ⟨⟨_, pg_name hN hi hx hf, fun O W σ H ρ ρ' d v Q sr rp e q => by
    cases e
    exact q _ (sr.set rp) fun vs h => wipe_set (h i (by simp))⟩⟩
theorem gNamesO_ok {G : Gx} {O W : List Addr} {H : Hp} {Q : L2.St → Hp → Prop} : ∀ {is : List Nat} {ds : List D} {vs : List V} {σ : L2.St} {ρ ρ' : List SD}, SR G vs0 O W σ H ρ → RpA G O H ds vs → setO is ds ρ = some ρ' →
    (∀ σ', SR G vs0 O W σ' H ρ' → (∀ vs, (∀ i ∈ is, i ∈ vs) → wipe σ' vs = wipe σ vs) → Q σ' H) → gNames is vs σ H Q
  | [], [], vs, σ, ρ, ρ', sr, ra, h, q => by
    simp only [RpA] at ra
    cases h
    exact ⟨ra, q σ sr fun _ _ => rfl⟩
  | i :: is, d :: ds, vs, σ, ρ, ρ', sr, ra, h, q => by
    simp only [RpA] at ra
    obtain ⟨v, r, e, h1, h2⟩ := ra
    exact ⟨v, r, e, gNamesO_ok (sr.set h1) h2 h fun σ' sr' hw => q σ' sr' fun vs hv => (hw vs fun j hj => hv j (List.mem_cons_of_mem _ hj)).trans (wipe_set (hv i (by simp)))⟩
  | [], _ :: _, _, _, _, _, _, _, h, _ => by cases h
  | _ :: _, [], _, _, _, _, _, _, h, _ => by cases h
theorem setO_len : ∀ {is : List Nat} {ds : List D} {ρ ρ2 : List SD}, setO is ds ρ = some ρ2 → is.length = ds.length
  | [], [], _, _, _ => rfl
  | i :: is, d :: ds, _, _, h => congrArg (· + 1) (setO_len (is := is) (ds := ds) h)
  | [], _ :: _, _, _, h => by cases h
  | _ :: _, [], _, _, h => by cases h
theorem gj_tup {es : List Expr} {k n : Nat} {is : List Nat} {pos : Pos} (hc : X.calm = true) (hg : PGs X es (gNames is)) (hl : is.length = n) (hn : (assignEach es X.env).length = n := by rfl) (hst : (assignEach es X.env).findIdx? (·.1) = none := by rfl) : GJ X cl vs0 (.Tuple es k pos) (stT is) is := by
  refine ⟨⟨_, pg_tup hc hg hn hst, fun O W σ H ρ ρ' d v Q sr rp e q => ?_⟩⟩
  cases d with
  | tup ds =>
    have e : setO is ds ρ = some ρ' := e
    simp only [Rp] at rp
    obtain ⟨a, vs, ev, t, ra⟩ := rp
    exact ⟨a, vs, ev, t.sq, by rw [← ra.length, ← setO_len e]; exact hl, gNamesO_ok sr ra e q⟩
  | _ => cases e

/-! ### for -/
def forL (st : Tg) (body : Ss) : List D → List SD → Rs Fl
  | [], ρ => .ok (.nx ρ)
  | d :: ds, ρ => match st d ρ with
    | some ρ1 => (body ρ1).bind fun fl => match fl with
      | .nx ρ2 => forL st body ds ρ2
      | .ct ρ2 => forL st body ds ρ2
      | .bk ρ2 => .ok (.nx ρ2)
      | .rt r ρ2 => .ok (.rt r ρ2)
    | none => .bad
/-- .. over a caller's list that stays -/
noncomputable def forK (m : Itm) (st : Tg) (body : Ss) : List D → List SD → Rs Fl
  | [], ρ => if m.keep ρ then .ok (.nx ρ) else .bad
  | d :: ds, ρ => if m.keep ρ then (match st d ρ with
    | some ρ1 => (body ρ1).bind fun fl => match fl with
      | .nx ρ2 => forK m st body ds ρ2
      | .ct ρ2 => forK m st body ds ρ2
      | .bk ρ2 => .ok (.nx ρ2)
      | .rt r ρ2 => .ok (.rt r ρ2)
    | none => .bad) else .bad
def SD.isByr : SD → Bool
  | .byr _ => true
  | _ => false
noncomputable def sFor (src : Src) (st : Tg) (body : Ss) : Ss := fun ρ => (src ρ).bind fun p => match p.1.bor with
  | [] => forL st body p.1.xs p.2
  | bs => if bs.all (fun b => b.2.isByr) then forK p.1 st body p.1.xs p.2 else .bad
theorem sj_for {tg iter : Expr} {body : List Stmt} {src : Src} {st : Tg} {is : List Nat} {g : Ss} {pos : Pos} (hp : PassesOwn (model X.prog X.w) X.A X.env X.xe) (hc : X.calm = true) (hi : IJ X cl vs0 Wx tg iter src) (hg : GJ X cl vs0 tg st is) (hb : BJ X cl vs0 Wx body g) :
    SJ X cl vs0 Wx (.For tg iter body [] pos) (sFor src st g) := by
  obtain ⟨wi, p1, hs, q1⟩ := hi.ex
  obtain ⟨tg', p2, q2⟩ := hg.ex
  obtain ⟨tb, p3, q3⟩ := hb.ex
  refine ⟨⟨_, ps_for hp hc p1 p2 p3 hs, fun O W σ H ρ E sr hw => q1 O W σ H ρ _ sr ?_⟩⟩
  unfold sFor at hw
  cases e : src ρ with
  | bad => rw [e] at hw; exact hw
  | exc c fs ρ' => rw [e] at hw; exact hw σ
  | ok p =>
    obtain ⟨⟨xs, bor⟩, ρ1⟩ := p
    rw [e] at hw
    cases bor with
    | cons b bs =>
      have hw : AftS (gx X cl) vs0 Wx O W H E (if (b :: bs).all (fun b => b.2.isByr) then forK ⟨xs, b :: bs⟩ st g xs ρ1 else .bad) := hw
      split at hw
      · rename_i hby
        generalize hm : (⟨xs, b :: bs⟩ : Itm) = mm at hw
        intro J O1 W1 H1 st1 sr1 hk wk
        have hxs : mm.xs = xs := by rw [← hm]
        have byr : ∀ p ∈ mm.bor, p.2.isByr = true := fun p hp => List.all_eq_true.mp hby p (by rw [← hm] at hp; exact hp)
        have slo : ∀ {O2 W2 σ2 H2 ρ2}, SR (gx X cl) vs0 O2 W2 σ2 H2 ρ2 → mm.keep ρ2 → mm.slots σ σ2 := fun {O2 W2 σ2 H2 ρ2} sr2 hk2 p hp => by
          have k1 := hk p hp
          have k2 := hk2 p hp
          have kb := byr p hp
          obtain ⟨i, s⟩ := p
          cases s with
          | byr ys =>
            obtain ⟨a, e1, e2, _⟩ := sr1.slot i _ k1
            obtain ⟨c, f1, f2, _⟩ := sr2.slot i _ k2
            rw [e2] at f2
            cases f2
            show σ2[i]? = σ[i]?
            rw [join_some e1, join_some f1]
          | _ => cases kb
        refine ⟨fun i m σ' H' => ∃ O2 W2 ρ2 ds, m = ds.length ∧ i + ds.length = xs.length ∧ xs.drop i = ds ∧ Stp O1 W1 H1 O2 W2 H' ∧ SR (gx X cl) vs0 O2 W2 σ' H' ρ2 ∧ AftS (gx X cl) vs0 Wx O2 W2 H' E (forK mm st g ds ρ2),
          ⟨xs.length, O1, W1, ρ1, xs, rfl, Nat.zero_add _, rfl, Stp.refl, sr1, AftS.back sr.wf st1 hw⟩, ?_⟩
        rintro i m σ2 H2 ⟨O2, W2, ρ2, ds, rfl, hlen, hdrop, st2, sr2, hf⟩
        cases ds with
        | nil =>
          have hf : AftS (gx X cl) vs0 Wx O2 W2 H2 E (if mm.keep ρ2 then .ok (.nx ρ2) else .bad) := hf
          split at hf
          · rename_i hkk
            have hi : i = mm.xs.length := by rw [hxs]; simpa using hlen
            subst hi
            exact .inl ⟨wk.stop O2 W2 σ2 H2 ρ2 st2 sr2 (slo sr2 hkk) hkk, hf σ2 O2 W2 H2 Stp.refl sr2⟩
          · exact hf.elim
        | cons d ds =>
          have hf : AftS (gx X cl) vs0 Wx O2 W2 H2 E (if mm.keep ρ2 then (match st d ρ2 with
            | some ρ1 => (g ρ1).bind fun fl => match fl with
              | .nx ρ2 => forK mm st g ds ρ2
              | .ct ρ2 => forK mm st g ds ρ2
              | .bk ρ2 => .ok (.nx ρ2)
              | .rt r ρ2 => .ok (.rt r ρ2)
            | none => .bad) else .bad) := hf
          split at hf
          · rename_i hkk
            have hd : mm.xs[i]? = some d := by
              have : (xs.drop i)[0]? = some d := by rw [hdrop]; rfl
              rw [List.getElem?_drop] at this
              rw [hxs]
              simpa using this
            obtain ⟨hgo, hy⟩ := wk.go O2 W2 σ2 H2 ρ2 i d st2 sr2 (slo sr2 hkk) hkk hd
            refine .inr ⟨hgo, _, fun σ' H' hN => ⟨ds.length, Nat.lt_succ_self _, hN⟩, fun x H3 hyl => ?_⟩
            obtain ⟨sm, rp⟩ := hy x H3 hyl
            have sr3 := sr2.same sm
            have st3 : Stp O2 W2 H2 O2 W2 H3 := Stp.same sm
            cases es : st d ρ2 with
            | none => rw [es] at hf; exact hf.elim
            | some ρ3 =>
              rw [es] at hf
              refine q2 O2 W2 σ2 H3 ρ2 ρ3 d x _ sr3 rp es fun σ4 sr4 _ => q3 O2 W2 σ4 H3 ρ3 _ sr4 ?_
              have hf : AftS (gx X cl) vs0 Wx O2 W2 H3 E ((g ρ3).bind fun fl => match fl with
                | .nx ρ2 => forK mm st g ds ρ2
                | .ct ρ2 => forK mm st g ds ρ2
                | .bk ρ2 => .ok (.nx ρ2)
                | .rt r ρ2 => .ok (.rt r ρ2)) := AftS.back sr2.wf st3 hf
              have hdr : xs.drop (i + 1) = ds := by
                rw [← List.drop_drop, hdrop]; rfl
              have hln : i + 1 + ds.length = xs.length := by rw [← hlen, List.length_cons]; omega
              have st23 := st2.trans sr1.wf st3
              cases eb : g ρ3 with
              | bad => rw [eb] at hf; exact hf
              | exc c fs ρ' => rw [eb] at hf; exact hf
              | ok fl =>
                rw [eb] at hf
                cases fl with
                | nx ρ4 => exact fun σ5 O5 W5 H5 st5 sr5 => ⟨O5, W5, ρ4, ds, rfl, hln, hdr, st23.trans sr1.wf st5, sr5, AftS.back sr3.wf st5 hf⟩
                | ct ρ4 => exact fun σ5 O5 W5 H5 st5 sr5 => ⟨O5, W5, ρ4, ds, rfl, hln, hdr, st23.trans sr1.wf st5, sr5, AftS.back sr3.wf st5 hf⟩
                | bk ρ4 => exact hf
                | rt r ρ4 => exact hf
          · exact hf.elim
      · exact (show False from hw).elim
    | nil =>
      have hw : AftS (gx X cl) vs0 Wx O W H E (forL st g xs ρ1) := hw
      intro J O1 W1 H1 st1 sr1 hk wk
      refine ⟨fun i m σ' H' => ∃ O2 W2 ρ2 ds, m = ds.length ∧ i + ds.length = xs.length ∧ xs.drop i = ds ∧ Stp O1 W1 H1 O2 W2 H' ∧ SR (gx X cl) vs0 O2 W2 σ' H' ρ2 ∧ AftS (gx X cl) vs0 Wx O2 W2 H' E (forL st g ds ρ2),
        ⟨xs.length, O1, W1, ρ1, xs, rfl, Nat.zero_add _, rfl, Stp.refl, sr1, AftS.back sr.wf st1 hw⟩, ?_⟩
      rintro i m σ2 H2 ⟨O2, W2, ρ2, ds, rfl, hlen, hdrop, st2, sr2, hf⟩
      have hsl : Itm.slots ⟨xs, []⟩ σ σ2 := fun p hp => absurd hp (by simp)
      have hkk : Itm.keep ⟨xs, []⟩ ρ2 := fun p hp => absurd hp (by simp)
      cases ds with
      | nil =>
        have hi : i = xs.length := by simpa using hlen
        subst hi
        exact .inl ⟨wk.stop O2 W2 σ2 H2 ρ2 st2 sr2 hsl hkk, hf σ2 O2 W2 H2 Stp.refl sr2⟩
      | cons d ds =>
        have hd : xs[i]? = some d := by
          have : (xs.drop i)[0]? = some d := by rw [hdrop]; rfl
          rw [List.getElem?_drop] at this
          simpa using this
        obtain ⟨hgo, hy⟩ := wk.go O2 W2 σ2 H2 ρ2 i d st2 sr2 hsl hkk hd
        have hf : AftS (gx X cl) vs0 Wx O2 W2 H2 E (match st d ρ2 with
          | some ρ1 => (g ρ1).bind fun fl => match fl with
            | .nx ρ2 => forL st g ds ρ2
            | .ct ρ2 => forL st g ds ρ2
            | .bk ρ2 => .ok (.nx ρ2)
            | .rt r ρ2 => .ok (.rt r ρ2)
          | none => .bad) := hf
        refine .inr ⟨hgo, _, fun σ' H' hN => ⟨ds.length, Nat.lt_succ_self _, hN⟩, fun x H3 hyl => ?_⟩
        obtain ⟨sm, rp⟩ := hy x H3 hyl
        have sr3 := sr2.same sm
        have st3 : Stp O2 W2 H2 O2 W2 H3 := Stp.same sm
        cases es : st d ρ2 with
        | none => rw [es] at hf; exact hf.elim
        | some ρ3 =>
          rw [es] at hf
          refine q2 O2 W2 σ2 H3 ρ2 ρ3 d x _ sr3 rp es fun σ4 sr4 _ => q3 O2 W2 σ4 H3 ρ3 _ sr4 ?_
          have hf : AftS (gx X cl) vs0 Wx O2 W2 H3 E ((g ρ3).bind fun fl => match fl with
            | .nx ρ2 => forL st g ds ρ2
            | .ct ρ2 => forL st g ds ρ2
            | .bk ρ2 => .ok (.nx ρ2)
            | .rt r ρ2 => .ok (.rt r ρ2)) := AftS.back sr2.wf st3 hf
          have hdr : xs.drop (i + 1) = ds := by
            rw [← List.drop_drop, hdrop]; rfl
          have hln : i + 1 + ds.length = xs.length := by rw [← hlen, List.length_cons]; omega
          have st23 := st2.trans sr1.wf st3
          cases eb : g ρ3 with
          | bad => rw [eb] at hf; exact hf
          | exc c fs ρ' => rw [eb] at hf; exact hf
          | ok fl =>
            rw [eb] at hf
            cases fl with
            | nx ρ4 => exact fun σ5 O5 W5 H5 st5 sr5 => ⟨O5, W5, ρ4, ds, rfl, hln, hdr, st23.trans sr1.wf st5, sr5, AftS.back sr3.wf st5 hf⟩
            | ct ρ4 => exact fun σ5 O5 W5 H5 st5 sr5 => ⟨O5, W5, ρ4, ds, rfl, hln, hdr, st23.trans sr1.wf st5, sr5, AftS.back sr3.wf st5 hf⟩
            | bk ρ4 => exact hf
            | rt r ρ4 => exact hf

/-! ### while -/
def whl (t : Sb) (body : Ss) : Nat → List SD → Rs Fl
  | 0, _ => .bad
  | n + 1, ρ => (t ρ).bind fun p => if p.1 then (body p.2).bind fun fl => match fl with
      | .nx ρ2 => whl t body n ρ2
      | .ct ρ2 => whl t body n ρ2
      | .bk ρ2 => .ok (.nx ρ2)
      | .rt r ρ2 => .ok (.rt r ρ2)
    else .ok (.nx p.2)
def sWhile (fuel : List SD → Nat) (t : Sb) (body : Ss) : Ss := fun ρ => whl t body (fuel ρ) ρ
theorem sj_while {c : Expr} {body : List Stmt} {t : Sb} {g : Ss} {pos : Pos} (fuel : List SD → Nat) (hp : PassesOwn (model X.prog X.w) X.A X.env X.xe) (hc : TJ X cl vs0 Wx c t) (hb : BJ X cl vs0 Wx body g) : SJ X cl vs0 Wx (.While c body [] pos) (sWhile fuel t g) := by
  obtain ⟨tc, p1, q1⟩ := hc.ex
  obtain ⟨tb, p3, q3⟩ := hb.ex
  refine ⟨⟨_, ps_while hp p1 p3, fun O W σ H ρ E sr hw => ?_⟩⟩
  refine ⟨fun m σ' H' => ∃ O2 W2 ρ2, SR (gx X cl) vs0 O2 W2 σ' H' ρ2 ∧ AftS (gx X cl) vs0 Wx O2 W2 H' E (whl t g m ρ2), ⟨fuel ρ, O, W, ρ, sr, hw⟩, ?_⟩
  rintro m σ2 H2 ⟨O2, W2, ρ2, sr2, hf⟩
  cases m with
  | zero => exact (show False from hf).elim
  | succ n =>
    refine q1 O2 W2 σ2 H2 ρ2 _ sr2 (t_core sr2.wf hf fun b ρ3 O3 W3 H3 sr3 hk => ?_)
    cases b with
    | false => exact hk σ2 O3 W3 H3 Stp.refl sr3
    | true =>
      have hk : AftS (gx X cl) vs0 Wx O3 W3 H3 E ((g ρ3).bind fun fl => match fl with
        | .nx ρ2 => whl t g n ρ2
        | .ct ρ2 => whl t g n ρ2
        | .bk ρ2 => .ok (.nx ρ2)
        | .rt r ρ2 => .ok (.rt r ρ2)) := hk
      refine ⟨_, fun σ' H' hN => ⟨n, Nat.lt_succ_self n, hN⟩, q3 O3 W3 σ2 H3 ρ3 _ sr3 ?_⟩
      cases eb : g ρ3 with
      | bad => rw [eb] at hk; exact hk
      | exc c fs ρ' => rw [eb] at hk; exact hk
      | ok fl =>
        rw [eb] at hk
        cases fl with
        | nx ρ4 => exact fun σ5 O5 W5 H5 st5 sr5 => ⟨O5, W5, ρ4, sr5, AftS.back sr3.wf st5 hk⟩
        | ct ρ4 => exact fun σ5 O5 W5 H5 st5 sr5 => ⟨O5, W5, ρ4, sr5, AftS.back sr3.wf st5 hk⟩
        | bk ρ4 => exact hk
        | rt r ρ4 => exact hk

/-! ### comprehensions -/
abbrev WX0 : WX := fun _ _ _ _ => False
/-- the slots of the block's own names are empty -/
def wipeR (ρ : List SD) : List Nat → List SD
  | [] => ρ
  | v :: vs => (wipeR ρ vs).set v .no
def keptSD : Option SD → SD
  | some (.sh d) => .sh d
  | _ => .no
/-- behind the block: its own names' slots as they were ahead -/
def backR (ρ0 ρ : List SD) : List Nat → List SD
  | [] => ρ
  | v :: vs => (backR ρ0 ρ vs).set v (keptSD ρ0[v]?)
theorem wipeR_len (ρ : List SD) : ∀ vs : List Nat, (wipeR ρ vs).length = ρ.length
  | [] => rfl
  | v :: vs => by unfold wipeR; rw [List.length_set, wipeR_len ρ vs]
theorem wipeR_get {ρ : List SD} {i : Nat} {s : SD} : ∀ {vs : List Nat}, (wipeR ρ vs)[i]? = some s → (i ∉ vs ∧ ρ[i]? = some s) ∨ (i ∈ vs ∧ s = .no)
  | [], h => .inl ⟨by simp, h⟩
  | v :: vs, h => by
    unfold wipeR at h
    by_cases hi : v = i
    · subst hi
      have hl : v < (wipeR ρ vs).length := by
        have := (List.getElem?_eq_some_iff.mp h).1
        rw [List.length_set] at this
        exact this
      rw [List.getElem?_set_self hl] at h
      cases h
      exact .inr ⟨by simp, rfl⟩
    · rw [List.getElem?_set_ne hi] at h
      rcases wipeR_get h with ⟨a, b⟩ | ⟨a, b⟩
      · exact .inl ⟨by simp only [List.mem_cons, not_or]; exact ⟨fun e => hi e.symm, a⟩, b⟩
      · exact .inr ⟨List.mem_cons_of_mem _ a, b⟩
theorem wipe_get {σ : L2.St} {i : Nat} : ∀ {vs : List Nat}, i ∉ vs → (wipe σ vs)[i]? = σ[i]?
  | [], _ => rfl
  | v :: vs, h => by
    unfold wipe
    rw [List.getElem?_set_ne (fun e => h (by simp [e])), wipe_get fun z => h (List.mem_cons_of_mem _ z)]
theorem backR_len (ρ0 ρ : List SD) : ∀ vs : List Nat, (backR ρ0 ρ vs).length = ρ.length
  | [] => rfl
  | v :: vs => by unfold backR; rw [List.length_set, backR_len ρ0 ρ vs]
theorem backR_get {ρ0 ρ : List SD} {i : Nat} {s : SD} : ∀ {vs : List Nat}, (backR ρ0 ρ vs)[i]? = some s → (i ∉ vs ∧ ρ[i]? = some s) ∨ (i ∈ vs ∧ s = keptSD ρ0[i]?)
  | [], h => .inl ⟨by simp, h⟩
  | v :: vs, h => by
    unfold backR at h
    by_cases hi : v = i
    · subst hi
      have hl : v < (backR ρ0 ρ vs).length := by
        have := (List.getElem?_eq_some_iff.mp h).1
        rw [List.length_set] at this
        exact this
      rw [List.getElem?_set_self hl] at h
      cases h
      exact .inr ⟨by simp, rfl⟩
    · rw [List.getElem?_set_ne hi] at h
      rcases backR_get h with ⟨a, b⟩ | ⟨a, b⟩
      · exact .inl ⟨by simp only [List.mem_cons, not_or]; exact ⟨fun e => hi e.symm, a⟩, b⟩
      · exact .inr ⟨List.mem_cons_of_mem _ a, b⟩
theorem noD_upd {H : Hp} {p b : Addr} {o' : HO} (hb : ¬ NoD H b) (ht' : ∀ ps, o' ≠ .tbl ps := by intro _ z; cases z) : ¬ NoD (upd H p o') b := by
  by_cases e : b = p
  · rw [e]; exact noD_not upd_same ht'
  · intro z; exact hb fun o h => z o (by rw [upd_ne e]; exact h)
theorem SR.wipe {G : Gx} {O W : List Addr} {σ : L2.St} {H : Hp} {ρ : List SD} (vs : List Nat) (r : SR G vs0 O W σ H ρ) : SR G vs0 O W (wipe σ vs) H (wipeR ρ vs) := by
  refine ⟨r.wf, by rw [wipe_length, wipeR_len, r.len], fun i s e => ?_, fun i j s t a e1 e2 m1 m2 s1 s2 => ?_, r.tabs⟩
  · rcases wipeR_get e with ⟨h1, h2⟩ | ⟨_, h2⟩
    · rw [wipe_get h1]; exact r.slot i s h2
    · subst h2; trivial
  · rcases wipeR_get e1 with ⟨h1, h2⟩ | ⟨_, h2⟩
    · rcases wipeR_get e2 with ⟨h3, h4⟩ | ⟨_, h4⟩
      · rw [wipe_get h1] at s1
        rw [wipe_get h3] at s2
        exact r.apart i j s t a h2 h4 m1 m2 s1 s2
      · subst h4; cases m2
    · subst h2; cases m1
/-- behind the block -/
theorem SR.unwipe {G : Gx} {O W O' W' : List Addr} {σ : L2.St} {H H' : Hp} {ρ ρ' : List SD} {vs : List Nat} (r : SR G vs0 O W σ H ρ) (st : Stp O W H O' W' H') (r' : SR G vs0 O' W' (L2.wipe σ vs) H' ρ') : SR G vs0 O' W' σ H' (backR ρ ρ' vs) := by
  have nm : ∀ {i : Nat} {s : SD}, i ∈ vs → s = keptSD ρ[i]? → s.mine = true → False := fun {i s} _ e m => by
    rw [e] at m
    unfold keptSD at m
    split at m <;> cases m
  refine ⟨r'.wf, by rw [backR_len, ← r'.len, wipe_length], fun i s e => ?_, fun i j s t a e1 e2 m1 m2 s1 s2 => ?_, r'.tabs⟩
  · rcases backR_get e with ⟨h1, h2⟩ | ⟨h1, h2⟩
    · rw [← wipe_get (σ := σ) h1]; exact r'.slot i s h2
    · rw [h2]
      unfold keptSD
      split
      · rename_i d e3
        obtain ⟨v, e4, rp⟩ := r.slot i _ e3
        exact ⟨v, e4, rp.step r.wf st⟩
      · trivial
  · rcases backR_get e1 with ⟨h1, h2⟩ | ⟨h1, h2⟩
    · rcases backR_get e2 with ⟨h3, h4⟩ | ⟨h3, h4⟩
      · rw [← wipe_get (σ := σ) h1] at s1
        rw [← wipe_get (σ := σ) h3] at s2
        exact r'.apart i j s t a h2 h4 m1 m2 s1 s2
      · exact (nm h3 h4 m2).elim
    · exact (nm h1 h2 m1).elim
/-- a list that is being made, met by nothing and written by none: it grows -/
theorem SR.grow {G : Gx} {O W : List Addr} {σ : L2.St} {H : Hp} {ρ : List SD} {p : Addr} {o o' : HO} (r : SR G vs0 O W σ H ρ) (hO : p ∈ O) (hW : p ∉ W) (hp : H p = some o) (ht' : ∀ ps, o' ≠ .tbl ps := by intro _ z; cases z) (ht : ∀ ps, o ≠ .tbl ps := by intro _ z; cases z) (hx : ∀ f, o ≠ .ext f := by intro _ z; cases z) : SR G vs0 O W σ (upd H p o') ρ ∧ (∀ {d v}, Rp G O H d v → Rp G O (upd H p o') d v) ∧ (∀ {ds vs}, RpA G O H ds vs → RpA G O (upd H p o') ds vs) := by
  have w2 : Wf O (p :: W) H := ⟨fun b hb => by
    rcases List.mem_cons.mp hb with e | e
    · rw [e]; exact hO
    · exact r.wf.sub b e, r.wf.trk⟩
  have trk : ∀ b, ¬ NoD H b → ¬ NoD (upd H p o') b := fun b hb => by
    by_cases e : b = p
    · rw [e]; exact noD_not upd_same ht'
    · intro z; exact hb fun o h => z o (by rw [upd_ne e]; exact h)
  have st : Stp O (p :: W) H O (p :: W) (upd H p o') := ⟨fun b u e hb _ => by
    rw [upd_ne (fun z => hb (by simp [z]))]; exact e, fun _ h => .inl h, fun _ h => .inl h, trk, fun _ h _ => h⟩
  have own : ∀ {a xs}, OwnAt G O W H a xs → OwnAt G O W (upd H p o') a xs := fun {a xs} h => by
    obtain ⟨h1, vs, h2, h3, h4⟩ := h
    exact ⟨h1, vs, by rw [upd_ne (show a ≠ p from fun z => hW (by rw [← z]; exact h1))]; exact h2, h3, h4.step w2 st⟩
  refine ⟨⟨⟨r.wf.sub, fun b hb => trk b (r.wf.trk b hb)⟩, r.len, fun i s e => ?_, r.apart, tabs_but r.tabs.tc hp (fun b u n h => by rw [upd_ne n]; exact h) ht hx, fun q hq => (r.tabs.k q hq).step w2 st⟩, fun h => h.step w2 st, fun h => h.step w2 st⟩
  have q := r.slot i s e
  cases s with
  | no => trivial
  | sh d => obtain ⟨v, e, r⟩ := q; exact ⟨v, e, r.step w2 st⟩
  | own xs => obtain ⟨a, e, r⟩ := q; exact ⟨a, e, own r⟩
  | byr xs => obtain ⟨a, e, e0, r⟩ := q; exact ⟨a, e, e0, own r⟩
  | xn c fs => obtain ⟨a, q, gs, e, x, t, n, r⟩ := q; exact ⟨a, q, gs, e, x, (st.at w2 t n).1, n, RpF.step w2 st r⟩
  | gv => exact q
/-- one reading for all blocks -/
theorem ej_all {ι : Type} {Xs : ι → Cx} {K : PySem.W.Frag} {e : Expr} {f : Sx} (hK : ∀ c, (Xs c).K = K) (h : ∀ c, EJ (Xs c) cl vs0 Wx e f) : ∃ t : TE, (∀ c, PE (Xs c) e t) ∧ ∀ O W σ H ρ Q, SR (gk K cl) vs0 O W σ H ρ → AftE (gk K cl) vs0 Wx O W σ H Q (f ρ) → t σ H Q := by
  refine ⟨fun σ H Q => ∃ O W ρ, SR (gk K cl) vs0 O W σ H ρ ∧ AftE (gk K cl) vs0 Wx O W σ H Q (f ρ), fun c => ⟨fun pins s σ H Q I hw => ?_⟩, fun O W σ H ρ Q sr hw => ⟨O, W, ρ, sr, hw⟩⟩
  obtain ⟨t, p, q⟩ := (h c).ex
  obtain ⟨O, W, ρ, sr, hw⟩ := hw
  have e := hK c
  subst e
  exact p.run pins s σ H Q I (q O W σ H ρ Q sr hw)
/-- a clause's tests -/
def bYes : Sb := fun ρ => .ok (true, ρ)
structure FJ (X : Cx) (cl : Cl) (vs0 : List V) (Wx : WX) (ifs : List Expr) (f : Sb) : Prop where
  ex : ∃ t, PTs X ifs t ∧ ∀ O W σ H ρ Q, SR (gx X cl) vs0 O W σ H ρ → AftB (gx X cl) vs0 Wx O W σ H Q (f ρ) → t σ H Q
theorem fj_all {ι : Type} {Xs : ι → Cx} {K : PySem.W.Frag} {ifs : List Expr} {f : Sb} (hK : ∀ c, (Xs c).K = K) (h : ∀ c, FJ (Xs c) cl vs0 Wx ifs f) :
    ∃ t : TT, (∀ c, PTs (Xs c) ifs t) ∧ ∀ O W σ H ρ Q, SR (gk K cl) vs0 O W σ H ρ → AftB (gk K cl) vs0 Wx O W σ H Q (f ρ) → t σ H Q := by
  refine ⟨fun σ H Q => ∃ O W ρ, SR (gk K cl) vs0 O W σ H ρ ∧ AftB (gk K cl) vs0 Wx O W σ H Q (f ρ), fun c => ⟨fun pins s σ H Q I hw => ?_⟩, fun O W σ H ρ Q sr hw => ⟨O, W, ρ, sr, hw⟩⟩
  obtain ⟨t, p, q⟩ := (h c).ex
  obtain ⟨O, W, ρ, sr, hw⟩ := hw
  have e := hK c
  subst e
  exact p.run pins s σ H Q I (q O W σ H ρ Q sr hw)
theorem gj_all {ι : Type} {Xs : ι → Cx} {K : PySem.W.Frag} {tg : Expr} {st : Tg} {is : List Nat} (hK : ∀ c, (Xs c).K = K) (h : ∀ c, GJ (Xs c) cl vs0 tg st is) :
    ∃ g : TG, (∀ c, PG (Xs c) tg g) ∧ ∀ O W σ H ρ ρ' d v Q, SR (gk K cl) vs0 O W σ H ρ → Rp (gk K cl) O H d v → st d ρ = some ρ' → (∀ σ', SR (gk K cl) vs0 O W σ' H ρ' → (∀ vs, (∀ i ∈ is, i ∈ vs) → L2.wipe σ' vs = L2.wipe σ vs) → Q σ' H) → g v σ H Q := by
  refine ⟨fun v σ H Q => ∃ O W ρ ρ' d, SR (gk K cl) vs0 O W σ H ρ ∧ Rp (gk K cl) O H d v ∧ st d ρ = some ρ' ∧ (∀ σ', SR (gk K cl) vs0 O W σ' H ρ' → (∀ vs, (∀ i ∈ is, i ∈ vs) → L2.wipe σ' vs = L2.wipe σ vs) → Q σ' H), fun c => ⟨fun pins s σ H v u Q I r hw => ?_⟩, fun O W σ H ρ ρ' d v Q sr rp e hw => ⟨O, W, ρ, ρ', d, sr, rp, e, hw⟩⟩
  obtain ⟨t, p, q⟩ := (h c).ex
  obtain ⟨O, W, ρ, ρ', d, sr, rp, es, hw⟩ := hw
  have e := hK c
  subst e
  exact p.run pins s σ H v u Q I r (q O W σ H ρ ρ' d v Q sr rp es hw)
theorem fj_nil : FJ X cl vs0 Wx [] bYes := ⟨⟨_, pts_nil, fun O W σ H ρ Q sr h => h O W H Stp.refl sr⟩⟩
theorem fj_one {c : Expr} {f : Sb} (h : TJ X cl vs0 Wx c f) : FJ X cl vs0 Wx [c] f := by
  obtain ⟨t, p, q⟩ := h.ex
  exact ⟨⟨t, pts_one p, q⟩⟩
noncomputable def lcL (m : Itm) (st : Tg) (test : Sb) (elt : Sx) (vs : List Nat) : List D → List SD → Rs (List D × List SD)
  | [], ρ => .ok ([], ρ)
  | d :: ds, ρ => match st d ρ with
    | some ρ1 => match test ρ1 with
      | .ok (true, ρ2) => match elt ρ2 with
        | .ok (r, ρ3) => if m.keep (wipeR ρ3 vs) then (lcL m st test elt vs ds (wipeR ρ3 vs)).bind fun q => .ok (r.frz :: q.1, q.2) else .bad
        | _ => .bad
      | .ok (false, ρ2) => if m.keep (wipeR ρ2 vs) then lcL m st test elt vs ds (wipeR ρ2 vs) else .bad
      | _ => .bad
    | none => .bad
noncomputable def xLc (src : Src) (st : Tg) (test : Sb) (elt : Sx) (vs : List Nat) : Sx := fun ρ => (src ρ).bind fun p => if p.1.keep (wipeR p.2 vs) ∧ (∀ b ∈ p.1.bor, b.1 ∉ vs) then
  match lcL p.1 st test elt vs p.1.xs (wipeR p.2 vs) with
  | .ok (ds, ρ') => .ok (.own ds, backR p.2 ρ' vs)
  | _ => .bad
  else .bad
end
end Wm
end

section
/-! List comprehensions. -/
namespace Wm
open PySem PySem.Spec PyProof.Rows L2
section
variable {X : Cx} {cl : Cl} {vs0 : List V} {Wx : WX}
theorem wipe_wipe {σ : L2.St} : ∀ {vs : List Nat}, wipe (wipe σ vs) vs = wipe σ vs := by
  intro vs
  apply List.ext_getElem?
  intro i
  by_cases h : i ∈ vs
  · have key : ∀ (τ : L2.St) (ws : List Nat), i ∈ ws → (wipe τ ws)[i]? = if i < τ.length then some none else none := by
      intro τ ws
      induction ws with
      | nil => intro h; cases h
      | cons w ws ih =>
        intro h
        unfold wipe
        by_cases e : w = i
        · subst e
          by_cases hl : w < τ.length
          · rw [List.getElem?_set_self (by rw [wipe_length]; exact hl), if_pos hl]
          · rw [if_neg hl]
            exact List.getElem?_eq_none (by rw [List.length_set, wipe_length]; omega)
        · rw [List.getElem?_set_ne e]
          rcases List.mem_cons.mp h with z | z
          · exact absurd z.symm e
          · exact ih z
    rw [key _ _ h, key _ _ h, wipe_length]
  · rw [wipe_get h]
theorem SR.addW {G : Gx} {O W : List Addr} {σ : L2.St} {H : Hp} {ρ : List SD} {p : Addr} (r : SR G vs0 O W σ H ρ) (h : p ∈ O) : SR G vs0 O (p :: W) σ H ρ := by
  refine ⟨⟨fun b hb => ?_, r.wf.trk⟩, r.len, fun i s e => ?_, r.apart, r.tabs⟩
  · rcases List.mem_cons.mp hb with z | z
    · rw [z]; exact h
    · exact r.wf.sub b z
  · have q := r.slot i s e
    cases s with
    | no => trivial
    | sh d => exact q
    | own xs => obtain ⟨a, e, h1, r⟩ := q; exact ⟨a, e, List.mem_cons_of_mem _ h1, r⟩
    | byr xs => obtain ⟨a, e, e0, h1, r⟩ := q; exact ⟨a, e, e0, List.mem_cons_of_mem _ h1, r⟩
    | xn c fs => exact q
    | gv => exact q
theorem Stp.addW {O W O' W' : List Addr} {H H' : Hp} {p : Addr} (s : Stp O W H O' W' H') (n : H p = none) : Stp O W H O' (p :: W') H' :=
  ⟨s.keep, fun b hb => by
    rcases List.mem_cons.mp hb with z | z
    · right; rw [z]; exact noD_none n
    · exact s.wnew b z, s.onew, s.trk, s.ofz⟩
theorem Stp.addO {O W : List Addr} {H H' : Hp} {p : Addr} (h : Same H H') (n : H p = none) : Stp O W H (p :: O) W H' :=
  ⟨fun b o e _ _ => h b o e, fun b hb => .inl hb, fun b hb => by
    rcases List.mem_cons.mp hb with z | z
    · right; rw [z]; exact noD_none n
    · exact .inl z, (Stp.same (O := O) (W := W) h).trk, fun b hb _ => List.mem_cons_of_mem _ hb⟩
theorem RpA.snoc {G : Gx} {O : List Addr} {H : Hp} {ds : List D} {vs : List V} {d : D} {v : V} (r : RpA G O H ds vs) (h : Rp G O H d v) : RpA G O H (ds ++ [d]) (vs ++ [v]) := r.append (by simp only [RpA]; exact ⟨v, [], rfl, h, rfl⟩)
/-- a list that is being made is not met -/
structure Held (p : Addr) (acc : List V) (O W : List Addr) (H : Hp) : Prop where
  o : p ∈ O
  w : p ∉ W
  h : H p = some (.lst acc)
theorem Held.step {p : Addr} {acc : List V} {O W O' W' : List Addr} {H H' : Hp} (h : Held p acc O W H) (s : Stp O W H O' W' H') : Held p acc O' W' H' :=
  ⟨s.ofz p h.o h.w, (fun z => by
    rcases s.wnew p z with q | q
    · exact h.w q
    · exact noD_not h.h (by intro _ z; cases z) q), s.keep p _ h.h h.w (fun _ z => by cases z)⟩
theorem lc_sound {wi : TI} {g : TG} {tt : TT} {te : TE} {src : Src} {st : Tg} {is : List Nat} {test : Sb} {f : Sx} {vs : List Nat} (his : ∀ i ∈ is, i ∈ vs)
    (q1 : ∀ O W σ H ρ R, SR (gx X cl) vs0 O W σ H ρ → AftI (gx X cl) vs0 Wx O W σ H R (src ρ) → wi σ H R)
    (q2 : ∀ O W σ H ρ ρ' d v Q, SR (gx X cl) vs0 O W σ H ρ → Rp (gx X cl) O H d v → st d ρ = some ρ' → (∀ σ', SR (gx X cl) vs0 O W σ' H ρ' → (∀ vs, (∀ i ∈ is, i ∈ vs) → wipe σ' vs = wipe σ vs) → Q σ' H) → g v σ H Q)
    (q3 : ∀ O W σ H ρ Q, SR (gx X cl) vs0 O W σ H ρ → AftB (gx X cl) vs0 WX0 O W σ H Q (test ρ) → tt σ H Q)
    (q4 : ∀ O W σ H ρ Q, SR (gx X cl) vs0 O W σ H ρ → AftE (gx X cl) vs0 WX0 O W σ H Q (f ρ) → te σ H Q) :
    ∀ O W σ H ρ Q, SR (gx X cl) vs0 O W σ H ρ → AftE (gx X cl) vs0 Wx O W σ H Q (xLc src st test f vs ρ) → tLc wi g tt te vs σ H Q := by
  intro O W σ H ρ Q sr hw
  refine q1 O W σ H ρ _ sr ?_
  unfold xLc at hw
  cases e : src ρ with
  | bad => rw [e] at hw; exact hw
  | exc c fs ρ' => rw [e] at hw; exact hw
  | ok pm =>
    obtain ⟨m, ρ1⟩ := pm
    rw [e] at hw
    have hw : AftE (gx X cl) vs0 Wx O W σ H Q (if m.keep (wipeR ρ1 vs) ∧ (∀ b ∈ m.bor, b.1 ∉ vs) then
      match lcL m st test f vs m.xs (wipeR ρ1 vs) with
      | .ok (ds, ρ') => .ok (.own ds, backR ρ1 ρ' vs)
      | _ => .bad
      else .bad) := hw
    intro J O1 W1 H1 st1 sr1 hk wk p np
    split at hw
    · rename_i hcond
      cases eL : lcL m st test f vs m.xs (wipeR ρ1 vs) with
      | bad => rw [eL] at hw; exact hw.elim
      | exc c fs ρ' => rw [eL] at hw; exact hw.elim
      | ok pe =>
        obtain ⟨all, ρe⟩ := pe
        rw [eL] at hw
        have hslots : m.slots σ (wipe σ vs) := fun b hb => wipe_get (hcond.2 b hb)
        have sm0 : Same H1 (upd H1 p (.lst [])) := same_upd np
        have st0 : Stp O1 W1 H1 (p :: O1) W1 (upd H1 p (.lst [])) := Stp.addO sm0 np
        have w0 : Wf (p :: O1) W1 (upd H1 p (.lst [])) := ⟨fun b hb => List.mem_cons_of_mem _ (sr1.wf.sub b hb), fun b hb => by
          rcases List.mem_cons.mp hb with z | z
          · rw [z]; exact noD_not upd_same
          · exact (sr1.wf.same sm0).trk b z⟩
        have pW : p ∉ W1 := fun z => sr1.wf.trk p (sr1.wf.sub p z) (noD_none np)
        have sr0 : SR (gx X cl) vs0 (p :: O1) W1 (wipe σ vs) (upd H1 p (.lst [])) (wipeR ρ1 vs) := (sr1.wipe vs).step w0 st0 (fun _ h => h) (fun b o _ e => sm0 b o e) (sr1.tabs.tc.ext sm0)
        refine ⟨fun i k H2 => ∃ O2 W2 ρ2 ds acc ads es, k = ds.length ∧ i + ds.length = m.xs.length ∧ m.xs.drop i = ds ∧ Stp O1 W1 H1 O2 W2 H2 ∧ Held p acc O2 W2 H2 ∧ acc.length ≤ i ∧ RpA (gx X cl) O2 H2 ads acc ∧
          SR (gx X cl) vs0 O2 W2 (wipe σ vs) H2 ρ2 ∧ m.keep ρ2 ∧ lcL m st test f vs ds ρ2 = .ok (es, ρe) ∧ ads ++ es = all,
          ⟨m.xs.length, p :: O1, W1, _, m.xs, [], [], all, rfl, Nat.zero_add _, rfl, st0, ⟨by simp, pW, upd_same⟩, Nat.le_refl _, by simp only [RpA], sr0, hcond.1, eL, rfl⟩, ?_⟩
        rintro i k H2 ⟨O2, W2, ρ2, ds, acc, ads, es, rfl, hlen, hdrop, st2, hd2, hal, ra, sr2, hkp, hL, hall⟩
        cases ds with
        | nil =>
          have hi : i = m.xs.length := by simpa using hlen
          subst hi
          have hL : Rs.ok (([] : List D), ρ2) = .ok (es, ρe) := hL
          injection hL with hL
          injection hL with e1 e2
          subst e1 e2
          rw [List.append_nil] at hall
          subst hall
          refine .inl ⟨wk.stop O2 W2 (wipe σ vs) H2 ρ2 st2 sr2 hslots hkp, ?_⟩
          refine hw (.ref p) O2 (p :: W2) H2 (st1.trans sr.wf (st2.addW np)) ((sr1.unwipe st2 sr2).addW hd2.o) ⟨p, rfl, ⟨List.mem_cons_self, acc, hd2.h, Nat.le_trans hal wk.len, ra⟩, fun j s es ms z => ?_⟩
          have sr3 := sr1.unwipe st2 sr2
          have : ∃ xs, s = .own xs ∨ s = .byr xs := by
            cases s with
            | own xs => exact ⟨xs, .inl rfl⟩
            | byr xs => exact ⟨xs, .inr rfl⟩
            | xn _ _ => cases ms
            | gv => cases ms
            | no => cases ms
            | sh d => cases ms
          obtain ⟨ys, hs⟩ := this
          obtain ⟨b, eb, ob⟩ := sr3.getOwn es hs
          rw [eb] at z; cases z
          exact hd2.w ob.1
        | cons d ds =>
          have hd : m.xs[i]? = some d := by
            have : (m.xs.drop i)[0]? = some d := by rw [hdrop]; rfl
            rw [List.getElem?_drop] at this
            simpa using this
          have hlt : i < m.xs.length := (List.getElem?_eq_some_iff.mp hd).1
          obtain ⟨hgo, hy⟩ := wk.go O2 W2 (wipe σ vs) H2 ρ2 i d st2 sr2 hslots hkp hd
          have hdr : m.xs.drop (i + 1) = ds := by rw [← List.drop_drop, hdrop]; rfl
          have hln : i + 1 + ds.length = m.xs.length := by rw [← hlen, List.length_cons]; omega
          refine .inr ⟨hgo, _, fun H' hN => ⟨ds.length, Nat.lt_succ_self _, hN⟩, fun x H3 hyl => ?_⟩
          obtain ⟨sm, rp⟩ := hy x H3 hyl
          have sr3 := sr2.same sm
          have st3 : Stp O2 W2 H2 O2 W2 H3 := Stp.same sm
          have st13 := st2.trans sr1.wf st3
          have hd3 := hd2.step st3
          have ra3 := ra.step sr2.wf st3
          unfold lcL at hL
          cases es1 : st d ρ2 with
          | none => rw [es1] at hL; cases hL
          | some ρ3 =>
            rw [es1] at hL
            dsimp only at hL
            refine q2 O2 W2 (wipe σ vs) H3 ρ2 ρ3 d x _ sr3 rp es1 fun σ4 sr4 hwp => ?_
            have hwp : wipe σ4 vs = wipe σ vs := (hwp vs his).trans wipe_wipe
            refine ⟨hwp, q3 O2 W2 σ4 H3 ρ3 _ sr4 ?_⟩
            cases et : test ρ3 with
            | bad => rw [et] at hL; cases hL
            | exc c fs ρ' => rw [et] at hL; cases hL
            | ok bt =>
              obtain ⟨b, ρ4⟩ := bt
              intro O5 W5 H5 st5 sr5
              have hd5 := hd3.step st5
              have ra5 := ra3.step sr3.wf st5
              have st15 := st13.trans sr1.wf st5
              cases b with
              | false =>
                rw [et] at hL
                have hL : (if m.keep (wipeR ρ4 vs) then lcL m st test f vs ds (wipeR ρ4 vs) else .bad) = .ok (es, ρe) := hL
                split at hL
                · rename_i hkp5
                  have sr6 := sr5.wipe vs
                  rw [hwp] at sr6
                  exact ⟨O5, W5, _, ds, acc, ads, es, rfl, hln, hdr, st15, hd5, by omega, ra5, sr6, hkp5, hL, hall⟩
                · cases hL
              | true =>
                rw [et] at hL
                dsimp only at hL
                refine q4 O5 W5 σ4 H5 ρ4 _ sr5 ?_
                cases ef : f ρ4 with
                | bad => rw [ef] at hL; cases hL
                | exc c fs ρ' => rw [ef] at hL; cases hL
                | ok pr =>
                  obtain ⟨r, ρ5⟩ := pr
                  rw [ef] at hL
                  have hL : (if m.keep (wipeR ρ5 vs) then (lcL m st test f vs ds (wipeR ρ5 vs)).bind fun q => .ok (r.frz :: q.1, q.2) else .bad) = .ok (es, ρe) := hL
                  split at hL
                  · rename_i hkp6
                    intro y O6 W6 H6 st6 sr6 rr
                    obtain ⟨O7, W7, st7, sr7, rp7⟩ := rr.frz sr6
                    have hd7 := (hd5.step st6).step st7
                    have ra7 := (ra5.step sr5.wf st6).step sr6.wf st7
                    have st17 := (st15.trans sr1.wf st6).trans sr1.wf st7
                    refine ⟨acc, hd7.h, Nat.lt_of_le_of_lt hal (Nat.lt_of_lt_of_le hlt wk.len), ?_⟩
                    have sr8 := sr7.wipe vs
                    rw [hwp] at sr8
                    obtain ⟨sr9, gr, gra⟩ := sr8.grow (o' := .lst (acc ++ [y])) hd7.o hd7.w hd7.h
                    cases eq : lcL m st test f vs ds (wipeR ρ5 vs) with
                    | bad => rw [eq] at hL; cases hL
                    | exc c fs ρ' => rw [eq] at hL; cases hL
                    | ok qq =>
                      obtain ⟨es2, ρe2⟩ := qq
                      rw [eq] at hL
                      have hL : Rs.ok (r.frz :: es2, ρe2) = Rs.ok (es, ρe) := hL
                      injection hL with hL
                      injection hL with e1 e2
                      subst e1 e2
                      refine ⟨O7, W7, _, ds, acc ++ [y], ads ++ [r.frz], es2, rfl, hln, hdr, ?_, ⟨hd7.o, hd7.w, upd_same⟩, by rw [List.length_append]; simp only [List.length_cons, List.length_nil]; omega, (gra ra7).snoc (gr rp7), sr9, hkp6, eq, by rw [List.append_assoc]; exact hall⟩
                      have nop : ∀ b, H1 b ≠ none → b ≠ p := fun b hb z => hb (z ▸ np)
                      exact ⟨fun b o eo hb ht => by rw [upd_ne (nop b (by rw [eo]; simp))]; exact st17.keep b o eo hb ht, st17.wnew, st17.onew, fun b hb => noD_upd (st17.trk b hb), st17.ofz⟩
                  · cases hL
    · exact hw.elim
variable {elt tg iter : Expr} {ifs : List Expr} {scope : Scope} {own : List (Str × Nat)} {pos : Pos} {src : Src} {st : Tg} {is : List Nat} {test : Sb} {f : Sx}
theorem ej_lc (hc : X.calm = true) (hN : X.N.Nodup) (hi : IJ X cl vs0 Wx tg iter src) (ok : BlkOk X.N X.env.scope scope own)
    (hg : ∀ (s : Shared) (H : Hp) (C : Addr) (cs : List (Str × Addr)) (fp : List Addr), GJ (X.blk s H scope (compEnvC scope cs C X.env) fp) cl vs0 tg st is)
    (ht : ∀ (s : Shared) (H : Hp) (C : Addr) (cs : List (Str × Addr)) (fp : List Addr), FJ (X.blk s H scope (compEnvC scope cs C X.env) fp) cl vs0 WX0 ifs test)
    (he : ∀ (s : Shared) (H : Hp) (C : Addr) (cs : List (Str × Addr)) (fp : List Addr), EJ (X.blk s H scope (compEnvC scope cs C X.env) fp) cl vs0 WX0 elt f) (his : ∀ i ∈ is, i ∈ own.map (·.2)) :
    EJ X cl vs0 Wx (.ListComp elt [⟨tg, iter, ifs, 0⟩] scope pos) (xLc src st test f (own.map (·.2))) := by
  obtain ⟨wi, p1, hs, q1⟩ := hi.ex
  let Xs : Shared × Hp × Addr × List (Str × Addr) × List Addr → Cx := fun c => X.blk c.1 c.2.1 scope (compEnvC scope c.2.2.2.1 c.2.2.1 X.env) c.2.2.2.2
  obtain ⟨g, p2, q2⟩ := gj_all (Xs := Xs) (K := X.K) (fun _ => rfl) fun c => hg c.1 c.2.1 c.2.2.1 c.2.2.2.1 c.2.2.2.2
  obtain ⟨tt, p3, q3⟩ := fj_all (Xs := Xs) (K := X.K) (fun _ => rfl) fun c => ht c.1 c.2.1 c.2.2.1 c.2.2.2.1 c.2.2.2.2
  obtain ⟨te, p4, q4⟩ := ej_all (Xs := Xs) (K := X.K) (fun _ => rfl) fun c => he c.1 c.2.1 c.2.2.1 c.2.2.2.1 c.2.2.2.2
  exact ⟨⟨_, pe_lc hc hN p1 ok (fun s H C cs fp => p2 (s, H, C, cs, fp)) (fun s H C cs fp => p3 (s, H, C, cs, fp)) (fun s H C cs fp => p4 (s, H, C, cs, fp)) hs, lc_sound his q1 q2 q3 q4⟩⟩
/-- y = [..] -/
theorem sj_setLc {i : Nat} {y : Str} {py spos : Pos} (hc : X.calm = true) (hN : X.N.Nodup) (hy : X.N[i]? = some y) (hyl : X.env.scope.names.lookup y = some .local)
    (hsw : swapsWith (.ListComp elt [⟨tg, iter, ifs, 0⟩] scope pos) (some (.Name y py)) spos.line X.env = pure true) (hi : IJ X cl vs0 Wx tg iter src) (ok : BlkOk X.N X.env.scope scope own)
    (hg : ∀ (s : Shared) (H : Hp) (C : Addr) (cs : List (Str × Addr)) (fp : List Addr), GJ (X.blk s H scope (compEnvC scope cs C X.env) fp) cl vs0 tg st is)
    (ht : ∀ (s : Shared) (H : Hp) (C : Addr) (cs : List (Str × Addr)) (fp : List Addr), FJ (X.blk s H scope (compEnvC scope cs C X.env) fp) cl vs0 WX0 ifs test)
    (he : ∀ (s : Shared) (H : Hp) (C : Addr) (cs : List (Str × Addr)) (fp : List Addr), EJ (X.blk s H scope (compEnvC scope cs C X.env) fp) cl vs0 WX0 elt f) (his : ∀ i ∈ is, i ∈ own.map (·.2)) :
    SJ X cl vs0 Wx (.Assign [.Name y py] (.ListComp elt [⟨tg, iter, ifs, 0⟩] scope pos) spos) (sSet i (xLc src st test f (own.map (·.2)))) := by
  obtain ⟨wi, p1, hs, q1⟩ := hi.ex
  let Xs : Shared × Hp × Addr × List (Str × Addr) × List Addr → Cx := fun c => X.blk c.1 c.2.1 scope (compEnvC scope c.2.2.2.1 c.2.2.1 X.env) c.2.2.2.2
  obtain ⟨g, p2, q2⟩ := gj_all (Xs := Xs) (K := X.K) (fun _ => rfl) fun c => hg c.1 c.2.1 c.2.2.1 c.2.2.2.1 c.2.2.2.2
  obtain ⟨tt, p3, q3⟩ := fj_all (Xs := Xs) (K := X.K) (fun _ => rfl) fun c => ht c.1 c.2.1 c.2.2.1 c.2.2.2.1 c.2.2.2.2
  obtain ⟨te, p4, q4⟩ := ej_all (Xs := Xs) (K := X.K) (fun _ => rfl) fun c => he c.1 c.2.1 c.2.2.1 c.2.2.2.1 c.2.2.2.2
  exact ⟨⟨_, ps_setLc hc hN hy hyl hsw p1 ok (fun s H C cs fp => p2 (s, H, C, cs, fp)) (fun s H C cs fp => p3 (s, H, C, cs, fp)) (fun s H C cs fp => p4 (s, H, C, cs, fp)) hs,
    fun O W σ H ρ E sr hw => lc_sound his q1 q2 q3 q4 O W σ H ρ _ sr (e_core sr.wf hw fun v s ρ' O' W' H' sr' rr hk => hk _ O' W' H' Stp.refl (sr'.put rr))⟩⟩
end
end Wm
end

section
/-! Defs and their calls. -/
namespace Wm
open PySem PySem.Spec PyProof.Rows L2
/-- what a def computes: of its arguments (data, or lists that it may write) a result, and how it leaves them -/
abbrev Fn := List SD → Rs (SD × List SD)
/-- the wish of a def's exceptions -/
abbrev wxE (E : XK) : WX := fun c d _ H => E c d H
def spF (G : Gx) (n : Nat) (F : Fn) : Sp := fun vs H Q E => vs.length = n ∧ ∃ O W as, SR G vs O W (vs.map some) H as ∧ AftE G vs (wxE E) O W (vs.map some) H Q (F as)
def trim1 : SD → SD
  | .byr xs => .byr xs
  | _ => .no
def trim (n : Nat) (ρ : List SD) : List SD := (List.range n).map fun i => trim1 (ρ[i]?.getD .no)
def bodyF (N : Nat) (g : Ss) : Fn := fun as => match g (as ++ List.replicate (N - as.length) .no) with
  | .ok (.rt r ρ') => .ok (r, trim as.length ρ')
  | .ok (.nx ρ') => .ok (.sh .non, trim as.length ρ')
  | .exc c fs ρ' => .exc c fs (trim as.length ρ')
  | _ => .bad
section
variable {G : Gx} {O W O' W' : List Addr} {σ : L2.St} {H H' : Hp} {ρ : List SD} {vs : List V} {as : List SD}
theorem trim_get {n i : Nat} {s : SD} (h : (trim n ρ)[i]? = some s) : i < n ∧ (s = .no ∨ ∃ xs, ρ[i]? = some (.byr xs) ∧ s = .byr xs) := by
  unfold trim at h
  rw [List.getElem?_map] at h
  obtain ⟨k, h1, h2⟩ := Option.map_eq_some_iff.mp h
  obtain ⟨hl, e⟩ := List.getElem?_eq_some_iff.mp h1
  rw [List.getElem_range] at e
  subst e
  refine ⟨by simpa using hl, ?_⟩
  cases q : ρ[i]? with
  | none => rw [q] at h2; exact .inl h2.symm
  | some s0 =>
    rw [q] at h2
    cases s0 with
    | byr xs => exact .inr ⟨xs, rfl, h2.symm⟩
    | no => exact .inl h2.symm
    | xn _ _ => exact .inl h2.symm
    | gv => exact .inl h2.symm
    | sh d => exact .inl h2.symm
    | own xs => exact .inl h2.symm
theorem SR.enter {N : List Str} (r : SR G vs O W (vs.map some) H as) (hN : vs.length ≤ N.length) : SR G vs O W (L2.start N vs) H (as ++ List.replicate (N.length - as.length) .no) := by
  have hl : vs.length = as.length := by have := r.len; rw [List.length_map] at this; exact this
  have gs : ∀ {i : Nat} {s : SD}, (as ++ List.replicate (N.length - as.length) .no)[i]? = some s → (i < as.length ∧ as[i]? = some s) ∨ s = .no := fun {i s} e => by
    by_cases h : i < as.length
    · rw [List.getElem?_append_left h] at e; exact .inl ⟨h, e⟩
    · rw [List.getElem?_append_right (by omega), List.getElem?_replicate] at e
      split at e
      · cases e; exact .inr rfl
      · cases e
  have sg : ∀ {i : Nat}, i < as.length → (L2.start N vs)[i]? = (vs.map some)[i]? := fun {i} h => by
    unfold L2.start
    exact List.getElem?_append_left (by rw [List.length_map]; omega)
  refine ⟨r.wf, ?_, fun i s e => ?_, fun i j s t a e1 e2 m1 m2 s1 s2 => ?_, r.tabs⟩
  · unfold L2.start
    rw [List.length_append, List.length_map, List.length_replicate, List.length_append, List.length_replicate, hl]
  · rcases gs e with ⟨h, e⟩ | e
    · rw [sg h]; exact r.slot i s e
    · subst e; trivial
  · rcases gs e1 with ⟨h1, e1⟩ | e1
    · rcases gs e2 with ⟨h2, e2⟩ | e2
      · rw [sg h1] at s1
        rw [sg h2] at s2
        exact r.apart i j s t a e1 e2 m1 m2 s1 s2
      · subst e2; cases m2
    · subst e1; cases m1
theorem SR.leave {n : Nat} (r : SR G vs O W σ H ρ) (hn : n = vs.length) : SR G vs O W (vs.map some) H (trim n ρ) := by
  have key : ∀ {i : Nat} {s0 : SD} {xs : List D}, ρ[i]? = some s0 → s0 = .byr xs → ∃ a, vs[i]? = some (.ref a) ∧ σ[i]? = some (some (.ref a)) ∧ OwnAt G O W H a xs := fun {i s0 xs} e h => by
    subst h
    obtain ⟨a, h1, h2, h3⟩ := r.slot i _ e
    exact ⟨a, h2, join_some h1, h3⟩
  have mi : ∀ {i : Nat} {s : SD}, (trim n ρ)[i]? = some s → s.mine = true → ∃ xs, ρ[i]? = some (.byr xs) ∧ s = .byr xs := fun {i s} e m => by
    rcases (trim_get e).2 with z | z
    · subst z; cases m
    · exact z
  refine ⟨r.wf, ?_, fun i s e => ?_, fun i j s t a e1 e2 m1 m2 s1 s2 => ?_, r.tabs⟩
  · unfold trim
    rw [List.length_map, List.length_map, List.length_range, hn]
  · rcases (trim_get e).2 with z | ⟨xs, h1, z⟩
    · subst z; trivial
    · subst z
      obtain ⟨a, h3, h4, h5⟩ := key h1 rfl
      refine ⟨a, ?_, h3, h5⟩
      rw [List.getElem?_map, h3]; rfl
  · obtain ⟨xs, h1, rfl⟩ := mi e1 m1
    obtain ⟨ys, h2, rfl⟩ := mi e2 m2
    obtain ⟨b, h3, h4, _⟩ := key h1 rfl
    obtain ⟨c, h5, h6, _⟩ := key h2 rfl
    rw [List.getElem?_map, h3] at s1
    rw [List.getElem?_map, h5] at s2
    cases s1
    cases s2
    exact r.apart i j _ _ a h1 h2 rfl rfl h4 h6
theorem ResR.leave {n : Nat} {v : V} {s : SD} (r : SR G vs O W σ H ρ) (h : ResR G O W σ H ρ v s) : ResR G O W (vs.map some) H (trim n ρ) v s := by
  cases s with
  | no => exact h
  | byr xs => exact h
  | xn _ _ => exact h
  | gv => exact h
  | sh d => exact h
  | own xs =>
    obtain ⟨a, e, o, hn⟩ := h
    refine ⟨a, e, o, fun i s es ms z => ?_⟩
    rcases (trim_get es).2 with y | ⟨ys, h1, y⟩
    · subst y; cases ms
    · obtain ⟨b, q1, q2, _⟩ := r.slot i _ h1
      rw [List.getElem?_map, q2] at z
      cases z
      exact hn i _ h1 rfl (join_some q1)
end
section
variable {P : Program} {w : World} {K : PySem.W.Frag} {mg : Str → Option Value} {base : Heap}
/-- a def by its body -/
theorem fn_sound {qual : Str} {scope : Scope} {f : Addr} {cdv : Value} {A : Around} {outer : List Env} {s : Shared} {H : Hp} {N ps : List Str} {cl : Cl} {body : List Stmt} {g : Ss} {vs : List V} {Q : VK} {E : XK} (S : FnScope N ps scope) (hlen : vs.length = ps.length)
    (hb : BJ (cxOf (L2.CX P w) P w K mg base N qual scope f cdv A outer s H E) cl vs (wxE E) body g) (h : spF (gk K cl) ps.length (bodyF N.length g) vs H Q E) :
    ∃ t, PSs (cxOf (L2.CX P w) P w K mg base N qual scope f cdv A outer s H E) body t ∧ t { nx := fun _ H' => Q .non H', rt := Q } (L2.start N vs) H := by
  obtain ⟨t, p, q⟩ := hb.ex
  obtain ⟨_, O, W, as, sr, hw⟩ := h
  have hl : vs.length = as.length := by have := sr.len; rw [List.length_map] at this; exact this
  have hpl : ps.length ≤ N.length := by have := congrArg List.length S.pre; rw [List.length_take] at this; omega
  refine ⟨t, p, q O W (L2.start N vs) H _ _ (sr.enter (by omega)) ?_⟩
  unfold bodyF at hw
  cases e : g (as ++ List.replicate (N.length - as.length) .no) with
  | bad => rw [e] at hw; exact hw
  | exc c fs ρ' =>
    rw [e] at hw
    exact fun σ' p gs O' W' H' st sr' hp hf => hw p gs O' W' H' st (sr'.leave hl.symm) hp hf
  | ok fl =>
    rw [e] at hw
    cases fl with
    | nx ρ' =>
      exact fun σ' O' W' H' st sr' => hw .non O' W' H' st (sr'.leave hl.symm) (show Rp (gk K cl) O' H' .non .non by simp only [Rp])
    | rt r ρ' =>
      exact fun v σ' O' W' H' st sr' rr => hw v O' W' H' st (sr'.leave hl.symm) (rr.leave sr')
    | bk ρ' => exact hw.elim
    | ct ρ' => exact hw.elim
theorem fn_ok {x qual : Str} {st : Stmt} {f : Addr} {fd : FuncData} {N ps : List Str} {k : Nat} {cl : Cl} {g : Ss} (F : Fun K x qual st f fd) (S : FnScope N ps (defScope st))
    (hb : ∀ (cdv : Value) (A : Around) (outer : List Env) (s : Shared) (H : Hp) (vs : List V) (E : XK), Room k (A.deeper (envOfC qual (defScope st) s.heap.objs.size f cdv)) →
      BJ (cxOf (L2.CX P w) P w K mg base N qual (defScope st) f cdv A outer s H E) cl vs (wxE E) (defBody st) g) : FnOk P w K mg base (L2.CX P w) (k + 1) f fd ps (spF (gk K cl) ps.length (bodyF N.length g)) :=
  F.okX S (fun vs H Q E h => h.1) fun cdv A outer s H vs Q E hr h => fn_sound S h.1 (hb cdv A outer s H vs E hr) h
end

/-! ### calls -/
/-- the arguments of a call: a name hands on what it holds, a list of one's own to be written; anything else is data -/
def passSD : SD → SD
  | .own xs => .byr xs
  | s => s
def argOf (ρ : List SD) (i : Nat) : Rs SD := match ρ[i]? with
  | some (.sh d) => .ok (.sh d)
  | some (.own xs) => .ok (.byr xs)
  | some (.byr xs) => .ok (.byr xs)
  | _ => .bad
/-- arguments, and the slots that they were read from -/
def cargs : List LOp → List SD → Rs (List (SD × Option Nat) × List SD)
  | [], ρ => .ok ([], ρ)
  | .va i :: r, ρ => (argOf ρ i).bind fun _ => (cargs r ρ).bind fun p => (argOf p.2 i).bind fun s => .ok ((s, some i) :: p.1, p.2)
  | .ex f :: r, ρ => (f ρ).bind fun p => (cargs r p.2).bind fun q => .ok ((.sh p.1.frz, none) :: q.1, q.2)
/-- the slots whose lists are handed on -/
def lent : List (SD × Option Nat) → List Nat
  | [] => []
  | (.byr _, some i) :: r => i :: lent r
  | _ :: r => lent r
/-- a slot behind a call -/
def backS : SD → SD → SD
  | .own _, .byr xs => .own xs
  | .byr _, .byr xs => .byr xs
  | .sh d, _ => .sh d
  | _, _ => .no
def backAll : List (SD × Option Nat) → List SD → List SD → List SD
  | (.byr _, some i) :: r, s :: ss, ρ => (backAll r ss ρ).set i (backS (ρ[i]?.getD .no) s)
  | _ :: r, _ :: ss, ρ => backAll r ss ρ
  | _, _, ρ => ρ
def xCall (F : Fn) (fl : List LOp) : Sx := fun ρ => (cargs fl ρ).bind fun p => if (lent p.1).Nodup then
    match F (p.1.map (·.1)) with
    | .ok (r, as') => .ok (r, backAll p.1 as' p.2)
    | .exc c fs as' => .exc c fs (backAll p.1 as' p.2)
    | .bad => .bad
  else .bad
end Wm
end

section
/-! Calls of defs. -/
namespace Wm
open PySem PySem.Spec PyProof.Rows L2
def CR1 (G : Gx) (O W : List Addr) (σ : L2.St) (H : Hp) (ρ : List SD) : SD × Option Nat → V → Prop
  | (.sh d, _), v => Rp G O H d v
  | (.byr xs, some i), v => ∃ a, v = .ref a ∧ σ[i]? = some (some (.ref a)) ∧ OwnAt G O W H a xs ∧ (ρ[i]? = some (.own xs) ∨ ρ[i]? = some (.byr xs))
  | _, _ => False
def CRs (G : Gx) (O W : List Addr) (σ : L2.St) (H : Hp) (ρ : List SD) : List (SD × Option Nat) → List V → Prop
  | [], vs => vs = []
  | p :: ps, vs => ∃ v r, vs = v :: r ∧ CR1 G O W σ H ρ p v ∧ CRs G O W σ H ρ ps r
def AftK (G : Gx) (vs0 : List V) (Wx : WX) (O W : List Addr) (σ : L2.St) (H : Hp) (Q : List V → Hp → Prop) : Rs (List (SD × Option Nat) × List SD) → Prop
  | .ok (ps, ρ') => ∀ vs O' W' H', Stp O W H O' W' H' → SR G vs0 O' W' σ H' ρ' → CRs G O' W' σ H' ρ' ps vs → Q vs H'
  | .exc c fs ρ' => ExcA G vs0 Wx O W σ H c fs ρ'
  | .bad => False
structure KJ (X : Cx) (cl : Cl) (vs0 : List V) (Wx : WX) (es : List Expr) (fl : List LOp) : Prop where
  ex : ∃ ts, PEs X es ts ∧ PA X es (tAll ts) ∧ ∀ O W σ H ρ R, SR (gx X cl) vs0 O W σ H ρ → AftK (gx X cl) vs0 Wx O W σ H R (cargs fl ρ) → tAll ts σ H R
section
variable {X : Cx} {cl : Cl} {vs0 : List V} {Wx : WX}
theorem argOf_noexc {ρ : List SD} {i : Nat} {c : Str} {fs : List (Str × D)} {ρ' : List SD} : argOf ρ i ≠ .exc c fs ρ' := by
  unfold argOf
  split <;> exact fun z => nomatch z
theorem argOf_sr {G : Gx} {O W : List Addr} {σ : L2.St} {H : Hp} {ρ : List SD} {i : Nat} {s : SD} (sr : SR G vs0 O W σ H ρ) (h : argOf ρ i = .ok s) : ∃ v, σ[i]? = some (some v) ∧ CR1 G O W σ H ρ (s, some i) v := by
  unfold argOf at h
  split at h
  · rename_i d e
    cases h
    obtain ⟨v, e1, r⟩ := sr.get e
    exact ⟨v, e1, r⟩
  · rename_i xs e
    cases h
    obtain ⟨a, e1, o⟩ := sr.getOwn e (.inl rfl)
    exact ⟨_, e1, a, rfl, e1, o, .inl e⟩
  · rename_i xs e
    cases h
    obtain ⟨a, e1, o⟩ := sr.getOwn e (.inr rfl)
    exact ⟨_, e1, a, rfl, e1, o, .inr e⟩
  · cases h
theorem kj_nil : KJ X cl vs0 Wx [] [] := ⟨⟨[], .nil, pa_nil, fun O W σ H ρ R sr h => h [] O W H Stp.refl sr rfl⟩⟩
theorem kj_cons {e : Expr} {es : List Expr} {o : LOp} {fl : List LOp} (h : LJ X cl vs0 Wx e o) (hr : KJ X cl vs0 Wx es fl) (hs : starEach (e :: es) X.env = (false, eval e X.env) :: starEach es X.env := by rfl) : KJ X cl vs0 Wx (e :: es) (o :: fl) := by
  obtain ⟨ts, p1, p2, p3⟩ := hr.ex
  cases o with
  | va i =>
    refine ⟨⟨tVar i :: ts, .cons h p1, pa_cons h p2 hs, fun O W σ H ρ R sr hw => ?_⟩⟩
    have hw' : AftK (gx X cl) vs0 Wx O W σ H R ((argOf ρ i).bind fun _ => (cargs fl ρ).bind fun p => (argOf p.2 i).bind fun s => .ok ((s, some i) :: p.1, p.2)) := hw
    cases e0 : argOf ρ i with
    | bad => rw [e0] at hw'; exact hw'.elim
    | exc c fs ρ' => exact absurd e0 argOf_noexc
    | ok d0 =>
      rw [e0] at hw'
      obtain ⟨v, ev, _⟩ := argOf_sr sr e0
      refine ⟨v, ev, p3 O W σ H ρ _ sr ?_⟩
      have hw2 : AftK (gx X cl) vs0 Wx O W σ H R ((cargs fl ρ).bind fun p => (argOf p.2 i).bind fun s => .ok ((s, some i) :: p.1, p.2)) := hw'
      cases e1 : cargs fl ρ with
      | bad => rw [e1] at hw2; exact hw2
      | exc c fs ρ' => rw [e1] at hw2; exact hw2
      | ok p =>
        obtain ⟨ps, ρ1⟩ := p
        rw [e1] at hw2
        have hw3 : AftK (gx X cl) vs0 Wx O W σ H R ((argOf ρ1 i).bind fun s => .ok ((s, some i) :: ps, ρ1)) := hw2
        intro vs O' W' H' st sr' ho
        cases e2 : argOf ρ1 i with
        | bad => rw [e2] at hw3; exact hw3.elim
        | exc c fs ρ' => exact absurd e2 argOf_noexc
        | ok d =>
          rw [e2] at hw3
          obtain ⟨v', ev', r'⟩ := argOf_sr sr' e2
          rw [ev] at ev'; cases ev'
          exact hw3 (v :: vs) O' W' H' st sr' ⟨v, vs, rfl, r', ho⟩
  | ex f =>
    obtain ⟨t, q1, q2⟩ := h.ex
    refine ⟨⟨t :: ts, .cons q1 p1, pa_cons q1 p2 hs, fun O W σ H ρ R sr hw => ?_⟩⟩
    have hw' : AftK (gx X cl) vs0 Wx O W σ H R ((f ρ).bind fun p => (cargs fl p.2).bind fun q => .ok ((.sh p.1.frz, none) :: q.1, q.2)) := hw
    refine q2 O W σ H ρ _ sr ?_
    cases e0 : f ρ with
    | bad => rw [e0] at hw'; exact hw'
    | exc c fs ρ' => rw [e0] at hw'; exact hw'
    | ok p =>
      obtain ⟨r, ρ1⟩ := p
      rw [e0] at hw'
      have hw2 : AftK (gx X cl) vs0 Wx O W σ H R ((cargs fl ρ1).bind fun q => .ok ((.sh r.frz, none) :: q.1, q.2)) := hw'
      intro v O1 W1 H1 st1 sr1 rr
      obtain ⟨O2, W2, st2, sr2, rp⟩ := rr.frz sr1
      have st12 := st1.trans sr.wf st2
      refine p3 O2 W2 σ H1 ρ1 _ sr2 ?_
      cases e1 : cargs fl ρ1 with
      | bad => rw [e1] at hw2; exact hw2
      | exc c fs ρ' => rw [e1] at hw2; exact ExcA.back sr.wf st12 hw2
      | ok q =>
        obtain ⟨ps, ρ2⟩ := q
        rw [e1] at hw2
        intro vs O' W' H' st sr' ho
        exact hw2 (v :: vs) O' W' H' (st12.trans sr.wf st) sr' ⟨v, vs, rfl, rp.step sr2.wf st, ho⟩

/-! ### into the callee's world and back -/
def wcs : List (SD × Option Nat) → List V → List Addr
  | (.byr _, some _) :: r, .ref a :: vr => a :: wcs r vr
  | _ :: r, _ :: vr => wcs r vr
  | _, _ => []
variable {G : Gx} {O W O' W' : List Addr} {σ : L2.St} {H H' : Hp} {ρ : List SD}
theorem CRs.len : ∀ {ps : List (SD × Option Nat)} {vs : List V}, CRs G O W σ H ρ ps vs → ps.length = vs.length
  | [], vs, h => by have h : vs = [] := h; rw [h]; rfl
  | p :: ps, vs, h => by
    obtain ⟨v, r, e, _, h2⟩ := h
    rw [e, List.length_cons, List.length_cons, CRs.len h2]
theorem CRs.get : ∀ {ps : List (SD × Option Nat)} {vs : List V} {j : Nat} {p : SD × Option Nat}, CRs G O W σ H ρ ps vs → ps[j]? = some p → ∃ v, vs[j]? = some v ∧ CR1 G O W σ H ρ p v
  | [], vs, j, p, h, e => by cases j <;> cases e
  | q :: ps, vs, j, p, h, e => by
    obtain ⟨v, r, ev, h1, h2⟩ := h
    subst ev
    cases j with
    | zero => cases e; exact ⟨v, rfl, h1⟩
    | succ j => exact CRs.get (j := j) h2 e
theorem mem_wcs : ∀ {ps : List (SD × Option Nat)} {vs : List V} {a : Addr}, CRs G O W σ H ρ ps vs → (a ∈ wcs ps vs ↔ ∃ (j : Nat) (xs : List D) (i : Nat), ps[j]? = some (SD.byr xs, some i) ∧ vs[j]? = some (V.ref a))
  | [], vs, a, h => by
    have h : vs = [] := h
    subst h
    constructor
    · intro z; cases z
    · rintro ⟨j, xs, i, h1, _⟩; cases j <;> cases h1
  | p :: ps, vs, a, h => by
    obtain ⟨v, r, ev, h1, h2⟩ := h
    subst ev
    have ih := mem_wcs (a := a) h2
    have shift : (∃ (j : Nat) (xs : List D) (i : Nat), ps[j]? = some (SD.byr xs, some i) ∧ r[j]? = some (V.ref a)) → ∃ (j : Nat) (xs : List D) (i : Nat), (p :: ps)[j]? = some (SD.byr xs, some i) ∧ (v :: r)[j]? = some (V.ref a) := fun ⟨j, xs, i, z1, z2⟩ => ⟨j + 1, xs, i, z1, z2⟩
    obtain ⟨s, o⟩ := p
    have plain : wcs ((s, o) :: ps) (v :: r) = wcs ps r → (∀ xs i, (s, o) ≠ (SD.byr xs, some i)) → (a ∈ wcs ((s, o) :: ps) (v :: r) ↔ ∃ (j : Nat) (xs : List D) (i : Nat), ((s, o) :: ps)[j]? = some (SD.byr xs, some i) ∧ (v :: r)[j]? = some (V.ref a)) := fun e hn => by
      rw [e, ih]
      refine ⟨shift, ?_⟩
      rintro ⟨j, xs, i, z1, z2⟩
      cases j with
      | zero => exact absurd (Option.some.inj z1) (hn xs i)
      | succ j => exact ⟨j, xs, i, z1, z2⟩
    cases s with
    | sh d => exact plain rfl fun xs i z => by cases z
    | no => exact h1.elim
    | own xs => exact h1.elim
    | xn _ _ => exact h1.elim
    | gv => exact h1.elim
    | byr xs =>
      cases o with
      | none => exact h1.elim
      | some i =>
        obtain ⟨b, eb, h3, h4, h5⟩ := h1
        subst eb
        show a ∈ b :: wcs ps r ↔ _
        rw [List.mem_cons, ih]
        constructor
        · rintro (z | z)
          · exact ⟨0, xs, i, rfl, by rw [z]; rfl⟩
          · exact shift z
        · rintro ⟨j, ys, i', z1, z2⟩
          cases j with
          | zero =>
            left
            have z2 : some (V.ref b) = some (V.ref a) := z2
            cases z2; rfl
          | succ j => exact .inr ⟨j, ys, i', z1, z2⟩
theorem mem_lent : ∀ {ps : List (SD × Option Nat)} {i : Nat}, i ∈ lent ps ↔ ∃ (j : Nat) (xs : List D), ps[j]? = some (.byr xs, some i)
  | [], i => by
    constructor
    · intro z; cases z
    · rintro ⟨j, xs, h1⟩; cases j <;> cases h1
  | (s, o) :: ps, i => by
    have ih := mem_lent (ps := ps) (i := i)
    have plain : lent ((s, o) :: ps) = lent ps → (∀ xs i, (s, o) ≠ (SD.byr xs, some i)) → (i ∈ lent ((s, o) :: ps) ↔ ∃ (j : Nat) (xs : List D), ((s, o) :: ps)[j]? = some (.byr xs, some i)) := fun e hn => by
      rw [e, ih]
      constructor
      · rintro ⟨j, xs, z⟩; exact ⟨j + 1, xs, z⟩
      · rintro ⟨j, xs, z1⟩
        cases j with
        | zero => exact absurd (Option.some.inj z1) (hn xs i)
        | succ j => exact ⟨j, xs, z1⟩
    cases s with
    | sh d => exact plain rfl fun xs i z => by cases z
    | no => exact plain rfl fun xs i z => by cases z
    | own xs => exact plain rfl fun xs i z => by cases z
    | xn _ _ => exact plain rfl fun xs i z => by cases z
    | gv => exact plain rfl fun xs i z => by cases z
    | byr xs =>
      cases o with
      | none => exact plain rfl fun xs i z => by cases z
      | some k =>
        show i ∈ k :: lent ps ↔ _
        rw [List.mem_cons, ih]
        constructor
        · rintro (z | ⟨j, ys, z⟩)
          · exact ⟨0, xs, by rw [z]; rfl⟩
          · exact ⟨j + 1, ys, z⟩
        · rintro ⟨j, ys, z1⟩
          cases j with
          | zero =>
            left
            have z1 : some (SD.byr xs, some k) = some (SD.byr ys, some i) := z1
            cases z1; rfl
          | succ j => exact .inr ⟨j, ys, z1⟩
theorem lent_inj : ∀ {ps : List (SD × Option Nat)} {i j k : Nat} {xs ys : List D}, (lent ps).Nodup → ps[j]? = some (.byr xs, some i) → ps[k]? = some (.byr ys, some i) → j = k
  | [], i, j, k, xs, ys, _, h, _ => by cases j <;> cases h
  | (s, o) :: ps, i, j, k, xs, ys, nd, h1, h2 => by
    have sub : (lent ps).Nodup := by
      cases s <;> cases o <;> first
        | exact nd
        | exact (List.nodup_cons.mp nd).2
    cases j with
    | zero =>
      cases k with
      | zero => rfl
      | succ k =>
        have h1 : some (s, o) = some (SD.byr xs, some i) := h1
        cases h1
        exact absurd (mem_lent.mpr ⟨k, ys, h2⟩) (List.nodup_cons.mp nd).1
    | succ j =>
      cases k with
      | zero =>
        have h2 : some (s, o) = some (SD.byr ys, some i) := h2
        cases h2
        exact absurd (mem_lent.mpr ⟨j, xs, h1⟩) (List.nodup_cons.mp nd).1
      | succ k => exact congrArg (· + 1) (lent_inj (j := j) (k := k) sub h1 h2)
theorem back_out : ∀ {ps : List (SD × Option Nat)} {as : List SD} {i : Nat}, i ∉ lent ps → (backAll ps as ρ)[i]? = ρ[i]?
  | [], as, i, _ => by cases as <;> rfl
  | (s, o) :: ps, [], i, _ => by cases s <;> cases o <;> rfl
  | (s, o) :: ps, a :: as, i, h => by
    have plain : backAll ((s, o) :: ps) (a :: as) ρ = backAll ps as ρ → lent ((s, o) :: ps) = lent ps → (backAll ((s, o) :: ps) (a :: as) ρ)[i]? = ρ[i]? := fun e1 e2 => by
      rw [e1]; rw [e2] at h; exact back_out h
    cases s with
    | sh d => exact plain rfl rfl
    | no => exact plain rfl rfl
    | own xs => exact plain rfl rfl
    | xn _ _ => exact plain rfl rfl
    | gv => exact plain rfl rfl
    | byr xs =>
      cases o with
      | none => exact plain rfl rfl
      | some k =>
        have h : i ∉ k :: lent ps := h
        rw [List.mem_cons, not_or] at h
        show ((backAll ps as ρ).set k _)[i]? = _
        rw [List.getElem?_set_ne (Ne.symm h.1)]
        exact back_out h.2
theorem back_len : ∀ {ps : List (SD × Option Nat)} {as : List SD}, (backAll ps as ρ).length = ρ.length
  | [], as => by cases as <;> rfl
  | (s, o) :: ps, [] => by cases s <;> cases o <;> rfl
  | (s, o) :: ps, a :: as => by
    cases s <;> cases o <;> first
      | exact back_len (ps := ps) (as := as)
      | (show ((backAll ps as ρ).set _ _).length = _
         rw [List.length_set]; exact back_len (ps := ps) (as := as))
theorem back_in : ∀ {ps : List (SD × Option Nat)} {as : List SD} {i j : Nat} {xs : List D} {s : SD}, (lent ps).Nodup → ps[j]? = some (.byr xs, some i) → as[j]? = some s → i < ρ.length → (backAll ps as ρ)[i]? = some (backS (ρ[i]?.getD .no) s)
  | [], as, i, j, xs, s, _, h, _, _ => by cases j <;> cases h
  | (t, o) :: ps, [], i, j, xs, s, _, _, h, _ => by cases j <;> cases h
  | (t, o) :: ps, a :: as, i, j, xs, s, nd, h1, h2, hl => by
    cases j with
    | zero =>
      have h1 : some (t, o) = some (SD.byr xs, some i) := h1
      have h2 : some a = some s := h2
      cases h1
      cases h2
      show ((backAll ps as ρ).set i _)[i]? = _
      rw [List.getElem?_set_self (by rw [back_len]; exact hl)]
    | succ j =>
      have plain : backAll ((t, o) :: ps) (a :: as) ρ = backAll ps as ρ → lent ((t, o) :: ps) = lent ps → (backAll ((t, o) :: ps) (a :: as) ρ)[i]? = some (backS (ρ[i]?.getD .no) s) := fun e1 e2 => by
        rw [e1]; rw [e2] at nd; exact back_in (j := j) nd h1 h2 hl
      cases t with
      | sh d => exact plain rfl rfl
      | no => exact plain rfl rfl
      | own xs => exact plain rfl rfl
      | xn _ _ => exact plain rfl rfl
      | gv => exact plain rfl rfl
      | byr ys =>
        cases o with
        | none => exact plain rfl rfl
        | some k =>
          have nd : (k :: lent ps).Nodup := nd
          have hk : i ≠ k := fun z => (List.nodup_cons.mp nd).1 (mem_lent.mpr ⟨j, xs, z ▸ h1⟩)
          show ((backAll ps as ρ).set k _)[i]? = _
          rw [List.getElem?_set_ne (Ne.symm hk)]
          exact back_in (j := j) (List.nodup_cons.mp nd).2 h1 h2 hl
end
end Wm
end

section
namespace Wm
open PySem PySem.Spec PyProof.Rows L2
section
variable {X : Cx} {cl : Cl} {vs0 : List V} {Wx : WX}
variable {G : Gx} {O W O' W' : List Addr} {σ : L2.St} {H H' : Hp} {ρ : List SD} {ps : List (SD × Option Nat)} {vs : List V} {as : List SD}
theorem call_enter (sr : SR G vs0 O W σ H ρ) (hc : CRs G O W σ H ρ ps vs) (nd : (lent ps).Nodup) : SR G vs O (wcs ps vs) (vs.map some) H (ps.map (·.1)) := by
  have pg : ∀ {i : Nat} {s : SD}, (ps.map (·.1))[i]? = some s → ∃ o, ps[i]? = some (s, o) := fun {i s} e => by
    rw [List.getElem?_map] at e
    obtain ⟨⟨s', o⟩, h1, h2⟩ := Option.map_eq_some_iff.mp e
    have h2 : s' = s := h2
    subst h2
    exact ⟨o, h1⟩
  have mi : ∀ {i : Nat} {s : SD}, (ps.map (·.1))[i]? = some s → s.mine = true → ∃ xs k, ps[i]? = some (SD.byr xs, some k) ∧ s = .byr xs := fun {i s} e m => by
    obtain ⟨o, h1⟩ := pg e
    obtain ⟨v, h2, h3⟩ := hc.get h1
    cases s with
    | byr xs =>
      cases o with
      | none => exact h3.elim
      | some k => exact ⟨xs, k, h1, rfl⟩
    | own xs => exact h3.elim
    | xn _ _ => cases m
    | gv => cases m
    | no => cases m
    | sh d => cases m
  refine ⟨⟨fun b hb => ?_, sr.wf.trk⟩, by rw [List.length_map, List.length_map, hc.len], fun i s e => ?_, fun i j s t a e1 e2 m1 m2 s1 s2 => ?_, sr.tabs⟩
  · obtain ⟨j, xs, i, h1, h2⟩ := (mem_wcs hc).mp hb
    obtain ⟨v, h3, a, h4, h5, h6, _⟩ := hc.get h1
    rw [h2] at h3; cases h3; cases h4
    exact sr.wf.sub b h6.1
  · obtain ⟨o, h1⟩ := pg e
    obtain ⟨v, h2, h3⟩ := hc.get h1
    have e2 : ((vs.map some)[i]?).join = some v := by rw [List.getElem?_map, h2]; rfl
    rw [e2, h2]
    cases s with
    | sh d => exact ⟨v, rfl, h3⟩
    | xn _ _ => exact h3.elim
    | gv => exact h3.elim
    | byr xs =>
      cases o with
      | none => exact h3.elim
      | some k =>
        obtain ⟨a, h4, h5, ⟨h6, h7⟩, _⟩ := h3
        subst h4
        exact ⟨a, rfl, rfl, (mem_wcs hc).mpr ⟨i, xs, k, h1, h2⟩, h7⟩
    | own xs => exact h3.elim
    | no => trivial
  · obtain ⟨xs, k, h1, rfl⟩ := mi e1 m1
    obtain ⟨ys, l, h2, rfl⟩ := mi e2 m2
    obtain ⟨v, h3, b, h4, h5, _, h6⟩ := hc.get h1
    obtain ⟨u, h7, c, h8, h9, _, h10⟩ := hc.get h2
    subst h4 h8
    rw [List.getElem?_map, h3] at s1
    rw [List.getElem?_map, h7] at s2
    cases s1
    cases s2
    have hkl : k = l := by
      rcases h6 with h6 | h6 <;> rcases h10 with h10 | h10 <;> exact sr.apart k l _ _ a h6 h10 rfl rfl h5 h9
    subst hkl
    exact lent_inj nd h1 h2
theorem back_step (sr : SR G vs0 O W σ H ρ) (hc : CRs G O W σ H ρ ps vs) (nd : (lent ps).Nodup) (st : Stp O (wcs ps vs) H O' W' H') (sr' : SR G vs O' W' (vs.map some) H' as) :
    ∃ W'', Stp O W H O' W'' H' ∧ SR G vs0 O' W'' σ H' (backAll ps as ρ) ∧ ∀ v r, ResR G O' W' (vs.map some) H' as v r → ResR G O' W'' σ H' (backAll ps as ρ) v r := by
  have wc : Wf O (wcs ps vs) H := (call_enter sr hc nd).wf
  have wsub : ∀ b ∈ wcs ps vs, b ∈ W := fun b hb => by
    obtain ⟨j, xs, i, h1, h2⟩ := (mem_wcs hc).mp hb
    obtain ⟨v, h3, a, h4, h5, h6, _⟩ := hc.get h1
    rw [h2] at h3; cases h3; cases h4
    exact h6.1
  have hlen : as.length = ps.length := by
    have := sr'.len
    rw [List.length_map] at this
    rw [← this, hc.len]
  have w2 : ∀ {b : Addr}, b ∈ W' ++ W.filter (fun b => decide (b ∉ wcs ps vs)) ↔ b ∈ W' ∨ (b ∈ W ∧ b ∉ wcs ps vs) := by
    intro b
    rw [List.mem_append, List.mem_filter, decide_eq_true_eq]
  -- a slot of one's own that was not lent keeps its list
  have kept : ∀ {i : Nat} {s : SD} {xs : List D}, ρ[i]? = some s → (s = .own xs ∨ s = .byr xs) → i ∉ lent ps → ∃ a, σ[i]? = some (some (.ref a)) ∧ a ∉ wcs ps vs ∧ OwnAt G O' (W' ++ W.filter (fun b => decide (b ∉ wcs ps vs))) H' a xs := fun {i s xs} e hs hn => by
    obtain ⟨a, ea, h1, us, h2, h3, h4⟩ := sr.getOwn e hs
    have na : a ∉ wcs ps vs := fun z => by
      obtain ⟨j, ys, k, z1, z2⟩ := (mem_wcs hc).mp z
      obtain ⟨v, z3, b, z4, z5, _, z6⟩ := hc.get z1
      rw [z2] at z3; cases z3; cases z4
      have hm : s.mine = true := by rcases hs with rfl | rfl <;> rfl
      have : i = k := by rcases z6 with z6 | z6 <;> exact sr.apart i k s _ a e z6 hm rfl ea z5
      subst this
      exact hn (mem_lent.mpr ⟨j, ys, z1⟩)
    exact ⟨a, ea, na, w2.mpr (.inr ⟨h1, na⟩), us, st.keep a _ h2 na (fun _ z => by cases z), h3, h4.step wc st⟩
  -- a slot that was lent
  have lentS : ∀ {i : Nat}, i ∈ lent ps → ∃ (j : Nat) (xs : List D) (s : SD) (a : Addr), ps[j]? = some (SD.byr xs, some i) ∧ as[j]? = some s ∧ vs[j]? = some (V.ref a) ∧ σ[i]? = some (some (.ref a)) ∧ (ρ[i]? = some (.own xs) ∨ ρ[i]? = some (.byr xs)) ∧ (backAll ps as ρ)[i]? = some (backS (ρ[i]?.getD .no) s) := fun {i} hi => by
    obtain ⟨j, xs, h1⟩ := mem_lent.mp hi
    obtain ⟨v, h3, a, h4, h5, _, h6⟩ := hc.get h1
    subst h4
    have hj : j < as.length := by rw [hlen]; exact (List.getElem?_eq_some_iff.mp h1).1
    have hil : i < ρ.length := by
      rcases h6 with h6 | h6 <;> exact (List.getElem?_eq_some_iff.mp h6).1
    exact ⟨j, xs, as[j], a, h1, List.getElem?_eq_getElem hj, h3, h5, h6, back_in nd h1 (List.getElem?_eq_getElem hj) hil⟩
  have own' : ∀ {a : Addr} {xs : List D}, OwnAt G O' W' H' a xs → OwnAt G O' (W' ++ W.filter (fun b => decide (b ∉ wcs ps vs))) H' a xs := fun h => ⟨w2.mpr (.inl h.1), h.2⟩
  -- what stands in a slot that is one's own behind the call
  have mine : ∀ {i : Nat} {s : SD}, (backAll ps as ρ)[i]? = some s → s.mine = true → ∃ a, σ[i]? = some (some (.ref a)) ∧ ((a ∉ wcs ps vs ∧ a ∈ W ∧ ∃ s0, ρ[i]? = some s0 ∧ s0.mine = true) ∨ (∃ (j : Nat) (ys : List D), as[j]? = some (SD.byr ys) ∧ vs[j]? = some (V.ref a) ∧ ∃ s0, ρ[i]? = some s0 ∧ s0.mine = true)) := fun {i s} e m => by
    by_cases hi : i ∈ lent ps
    · obtain ⟨j, xs, s1, a, h1, h2, h3, h4, h5, h6⟩ := lentS hi
      rw [h6] at e
      cases e
      have h0 : ∃ s0, ρ[i]? = some s0 ∧ s0.mine = true := by rcases h5 with h5 | h5 <;> exact ⟨_, h5, rfl⟩
      cases s1 with
      | byr ys => exact ⟨a, h4, .inr ⟨j, ys, h2, h3, h0⟩⟩
      | no => rcases h5 with h5 | h5 <;> (rw [h5] at m; cases m)
      | xn _ _ => rcases h5 with h5 | h5 <;> (rw [h5] at m; cases m)
      | gv => rcases h5 with h5 | h5 <;> (rw [h5] at m; cases m)
      | sh d => rcases h5 with h5 | h5 <;> (rw [h5] at m; cases m)
      | own ys => rcases h5 with h5 | h5 <;> (rw [h5] at m; cases m)
    · rw [back_out hi] at e
      have : ∃ xs, s = .own xs ∨ s = .byr xs := by
        cases s with
        | own xs => exact ⟨xs, .inl rfl⟩
        | byr xs => exact ⟨xs, .inr rfl⟩
        | xn _ _ => cases m
        | gv => cases m
        | no => cases m
        | sh d => cases m
      obtain ⟨xs, hs⟩ := this
      obtain ⟨a, ea, na, _⟩ := kept e hs hi
      obtain ⟨b, eb, hb, _⟩ := sr.getOwn e hs
      rw [ea] at eb; cases eb
      exact ⟨a, ea, .inl ⟨na, hb, s, e, m⟩⟩
  refine ⟨W' ++ W.filter (fun b => decide (b ∉ wcs ps vs)), ⟨fun b o e hb ht => st.keep b o e (fun z => hb (wsub b z)) ht, fun b hb => ?_, st.onew, st.trk, fun b hb hn => st.ofz b hb fun z => hn (wsub b z)⟩, ⟨⟨fun b hb => ?_, sr'.wf.trk⟩, by rw [back_len, sr.len], fun i s e => ?_, fun i j s t a e1 e2 m1 m2 s1 s2 => ?_, sr'.tabs⟩, fun v r hr => ?_⟩
  · rcases w2.mp hb with z | z
    · rcases st.wnew b z with y | y
      · exact .inl (wsub b y)
      · exact .inr y
    · exact .inl z.1
  · rcases w2.mp hb with z | z
    · exact sr'.wf.sub b z
    · exact st.ofz b (sr.wf.sub b z.1) z.2
  · by_cases hi : i ∈ lent ps
    · obtain ⟨j, xs, s1, a, h1, h2, h3, h4, h5, h6⟩ := lentS hi
      rw [h6] at e
      cases e
      cases s1 with
      | byr ys =>
        obtain ⟨b, z1, z2, z3⟩ := sr'.slot j _ h2
        rw [h3] at z2; cases z2
        rw [h4]
        rcases h5 with h5 | h5
        · rw [h5]; exact ⟨a, rfl, own' z3⟩
        · rw [h5]
          obtain ⟨b, q1, q2, _⟩ := sr.slot i _ h5
          rw [h4] at q1
          cases q1
          exact ⟨a, rfl, q2, own' z3⟩
      | no => rcases h5 with h5 | h5 <;> (rw [h5]; trivial)
      | xn _ _ => rcases h5 with h5 | h5 <;> (rw [h5]; trivial)
      | gv => rcases h5 with h5 | h5 <;> (rw [h5]; trivial)
      | sh d => rcases h5 with h5 | h5 <;> (rw [h5]; trivial)
      | own ys => rcases h5 with h5 | h5 <;> (rw [h5]; trivial)
    · rw [back_out hi] at e
      have q := sr.slot i s e
      cases s with
      | no => trivial
      | xn c fs => obtain ⟨a, p, gs, e, x, t, n, r⟩ := q; exact ⟨a, p, gs, e, x, (st.at wc t n).1, (st.at wc t n).2, RpF.step wc st r⟩
      | gv => exact q
      | sh d => obtain ⟨v, ev, r⟩ := q; exact ⟨v, ev, r.step wc st⟩
      | own xs =>
        obtain ⟨a, ea, _, o⟩ := kept e (.inl rfl) hi
        exact ⟨a, by rw [ea]; rfl, o⟩
      | byr xs =>
        obtain ⟨a, ea, _, o⟩ := kept e (.inr rfl) hi
        obtain ⟨b, q1, q2, _⟩ := q
        rw [ea] at q1
        cases q1
        exact ⟨a, by rw [ea]; rfl, q2, o⟩
  · have orig : ∀ {i : Nat} {s : SD}, (backAll ps as ρ)[i]? = some s → s.mine = true → ∃ s0, ρ[i]? = some s0 ∧ s0.mine = true := fun {i s} e m => by
      obtain ⟨_, _, h⟩ := mine e m
      rcases h with ⟨_, _, h⟩ | ⟨_, _, _, _, h⟩
      · exact h
      · exact h
    obtain ⟨u1, q1, q2⟩ := orig e1 m1
    obtain ⟨u2, q3, q4⟩ := orig e2 m2
    exact sr.apart i j u1 u2 a q1 q3 q2 q4 s1 s2
  · cases r with
    | sh d => exact hr
    | xn _ _ => exact hr
    | gv => exact hr
    | no => exact hr
    | byr xs => exact hr
    | own xs =>
      obtain ⟨a, ev, o, hn⟩ := hr
      refine ⟨a, ev, own' o, fun i s e m z => ?_⟩
      obtain ⟨b, hb, h⟩ := mine e m
      rw [hb] at z; cases z
      rcases h with ⟨n1, n2, _⟩ | ⟨j, ys, y1, y2, _⟩
      · rcases st.wnew a o.1 with y | y
        · exact n1 y
        · exact sr.wf.trk a (sr.wf.sub a n2) y
      · exact hn j _ y1 rfl (by rw [List.getElem?_map, y2]; rfl)
/-- f(e, ..) -/
theorem call_core {F : Fn} {n : Nat} {t : TA} {fl : List LOp} (hn : fl.length = n) (h : ∀ O W σ H ρ R, SR (gx X cl) vs0 O W σ H ρ → AftK (gx X cl) vs0 Wx O W σ H R (cargs fl ρ) → t σ H R) :
    ∀ O W σ H ρ Q (R : List V → Hp → Prop), SR (gx X cl) vs0 O W σ H ρ → AftE (gx X cl) vs0 Wx O W σ H Q (xCall F fl ρ) → (∀ vs H1, (spF (gx X cl) n F vs H1 Q fun c d H' => Wx c d σ H') → R vs H1) → t σ H R := by
  intro O W σ H ρ Q R sr hw hR
  refine h O W σ H ρ _ sr ?_
  have clen : ∀ {fl : List LOp} {ρ : List SD} {p : List (SD × Option Nat) × List SD}, cargs fl ρ = .ok p → p.1.length = fl.length := by
    intro fl
    induction fl with
    | nil => intro ρ p e; cases e; rfl
    | cons o fl ih =>
      intro ρ p e
      cases o with
      | va i =>
        have e : ((argOf ρ i).bind fun _ => (cargs fl ρ).bind fun p => (argOf p.2 i).bind fun s => .ok ((s, some i) :: p.1, p.2)) = .ok p := e
        cases e0 : argOf ρ i with
        | bad => rw [e0] at e; cases e
        | exc c fs ρ' => rw [e0] at e; cases e
        | ok d0 =>
          rw [e0] at e
          have e : ((cargs fl ρ).bind fun p => (argOf p.2 i).bind fun s => .ok ((s, some i) :: p.1, p.2)) = .ok p := e
          cases e1 : cargs fl ρ with
          | bad => rw [e1] at e; cases e
          | exc c fs ρ' => rw [e1] at e; cases e
          | ok q =>
            rw [e1] at e
            have e : ((argOf q.2 i).bind fun s => .ok ((s, some i) :: q.1, q.2)) = .ok p := e
            cases e2 : argOf q.2 i with
            | bad => rw [e2] at e; cases e
            | exc c fs ρ' => rw [e2] at e; cases e
            | ok d =>
              rw [e2] at e
              cases e
              exact congrArg (· + 1) (ih e1)
      | ex f =>
        have e : ((f ρ).bind fun p => (cargs fl p.2).bind fun q => .ok ((.sh p.1.frz, none) :: q.1, q.2)) = .ok p := e
        cases e0 : f ρ with
        | bad => rw [e0] at e; cases e
        | exc c fs ρ' => rw [e0] at e; cases e
        | ok d0 =>
          rw [e0] at e
          have e : ((cargs fl d0.2).bind fun q => .ok ((.sh d0.1.frz, none) :: q.1, q.2)) = .ok p := e
          cases e1 : cargs fl d0.2 with
          | bad => rw [e1] at e; cases e
          | exc c fs ρ' => rw [e1] at e; cases e
          | ok q =>
            rw [e1] at e
            cases e
            exact congrArg (· + 1) (ih e1)
  unfold xCall at hw
  cases e : cargs fl ρ with
  | bad => rw [e] at hw; exact hw
  | exc c fs ρ' => rw [e] at hw; exact hw
  | ok p =>
    have hl := clen e
    obtain ⟨ps, ρ1⟩ := p
    rw [e] at hw
    have hw : AftE (gx X cl) vs0 Wx O W σ H Q (if (lent ps).Nodup then
      match F (ps.map (·.1)) with
      | .ok (r, as') => .ok (r, backAll ps as' ρ1)
      | .exc c fs as' => .exc c fs (backAll ps as' ρ1)
      | .bad => .bad
      else .bad) := hw
    intro vs O1 W1 H1 st1 sr1 hc
    split at hw
    · rename_i nd
      refine hR _ _ ⟨by rw [← hc.len]; exact hl.trans hn, O1, _, _, call_enter sr1 hc nd, ?_⟩
      cases eF : F (ps.map (·.1)) with
      | bad => rw [eF] at hw; exact hw
      | exc c fs as' =>
        rw [eF] at hw
        intro p gs O2 W2 H2 st2 sr2 hp hf
        obtain ⟨W3, st3, sr3, _⟩ := back_step sr1 hc nd st2 sr2
        exact hw p gs O2 W3 H2 (st1.trans sr.wf st3) sr3 hp hf
      | ok q =>
        obtain ⟨r, as'⟩ := q
        rw [eF] at hw
        intro v O2 W2 H2 st2 sr2 rr
        obtain ⟨W3, st3, sr3, hr⟩ := back_step sr1 hc nd st2 sr2
        exact hw v O2 W3 H2 (st1.trans sr.wf st3) sr3 (hr v r rr)
    · exact hw.elim
variable {k : Nat} {f : Addr} {fd : FuncData} {pn : List Str} {F : Fn} {x : Str} {p pos : Pos} {e : Expr} {es : List Expr} {fl : List LOp} {n : Nat}
theorem ej_call (hF : FnOk X.prog X.w X.K X.mg X.base (L2.CX X.prog X.w) k f fd pn (spF (gx X cl) n F)) (hr : Room k X.A) (hg : Gl X x) (hm : X.mg x = some (.ref f)) (hk : PySem.W.keepIn X.K (.ref f) = true) (hb : Binds X.K fd pn []) (tk : Takes X Wx)
    (h : KJ X cl vs0 Wx (e :: es) fl) (hn : fl.length = n) (hdb : (x == ("__debug__" : Str)) = false := by decide) (he : starEach (e :: es) X.env = (false, eval e X.env) :: starEach es X.env := by rfl) (hpl : (backTo pos (starEach es X.env)).any (·.1) = false := by rfl) :
    EJ X cl vs0 Wx (.Call (.Name x p) (e :: es) [] pos) (xCall F fl) := by
  obtain ⟨ts, _, pa, q⟩ := h.ex
  refine ⟨⟨_, pe_callSD (dvs := []) (ds := []) (E := fun σ c d H => Wx c d σ H) hF hr hg hm hk hb .nil (fun σ => passAt tk σ) pa hdb he hpl, fun O W σ H ρ Q sr hw => ?_⟩⟩
  have z := call_core (F := F) hn q O W σ H ρ Q _ sr hw fun _ _ h => h
  unfold tCallSD
  simp only [List.append_nil]
  exact z
end
end Wm
end

section
/-! Lists that are written; a list handed on just made. -/
namespace Wm
open PySem PySem.Spec PyProof.Rows L2
section
variable {X : Cx} {cl : Cl} {vs0 : List V} {Wx : WX}
/-- a slot's own list, replaced -/
def ownSet (ρ : List SD) (i : Nat) (xs : List D) : List SD := match ρ[i]? with
  | some (.own _) => ρ.set i (.own xs)
  | some (.byr _) => ρ.set i (.byr xs)
  | _ => ρ
def SD.like (ys : List D) : SD → SD
  | .byr _ => .byr ys
  | _ => .own ys
def ownGet (ρ : List SD) (i : Nat) : Rs (List D) := match ρ[i]? with
  | some (.own xs) => .ok xs
  | some (.byr xs) => .ok xs
  | _ => .bad
theorem ownGet_noexc {ρ : List SD} {i : Nat} {c : Str} {fs : List (Str × D)} {ρ' : List SD} : ownGet ρ i ≠ .exc c fs ρ' := by
  unfold ownGet
  split <;> exact fun z => nomatch z
theorem ownGet_at {G : Gx} {O W : List Addr} {σ : L2.St} {H : Hp} {ρ : List SD} {i : Nat} {xs : List D} (sr : SR G vs0 O W σ H ρ) (h : ownGet ρ i = .ok xs) : ∃ a, σ[i]? = some (some (.ref a)) ∧ OwnAt G O W H a xs := by
  unfold ownGet at h
  split at h
  · rename_i ys e
    cases h
    exact sr.getOwn e (.inl rfl)
  · rename_i ys e
    cases h
    exact sr.getOwn e (.inr rfl)
  · cases h
theorem SR.write {G : Gx} {O W : List Addr} {σ : L2.St} {H : Hp} {ρ : List SD} {i : Nat} {xs ys : List D} {a : Addr} {vs : List V} (sr : SR G vs0 O W σ H ρ) (h : ownGet ρ i = .ok xs) (ea : σ[i]? = some (some (.ref a))) (hl : vs.length ≤ sizeLine) (hr : RpA G O H ys vs) :
    Stp O W H O W (upd H a (.lst vs)) ∧ SR G vs0 O W σ (upd H a (.lst vs)) (ownSet ρ i ys) := by
  obtain ⟨b, eb, oW, us, h2, h3, h4⟩ := ownGet_at sr h
  rw [ea] at eb; cases eb
  have trk : ∀ b, ¬ NoD H b → ¬ NoD (upd H a (.lst vs)) b := fun b hb => noD_upd hb
  have st : Stp O W H O W (upd H a (.lst vs)) := ⟨fun b o e hb _ => by rw [upd_ne (show b ≠ a from fun z => hb (by rw [z]; exact oW))]; exact e, fun _ h => .inl h, fun _ h => .inl h, trk, fun _ h _ => h⟩
  have mine : ∃ s, ρ[i]? = some s ∧ s.mine = true ∧ (s = .own xs ∨ s = .byr xs) := by
    unfold ownGet at h
    split at h
    · rename_i zs e; cases h; exact ⟨_, e, rfl, .inl rfl⟩
    · rename_i zs e; cases h; exact ⟨_, e, rfl, .inr rfl⟩
    · cases h
  obtain ⟨s0, e0, m0, hs0⟩ := mine
  have other : ∀ {j : Nat} {s : SD} {zs : List D}, j ≠ i → ρ[j]? = some s → (s = .own zs ∨ s = .byr zs) → ∃ b, σ[j]? = some (some (.ref b)) ∧ OwnAt G O W (upd H a (.lst vs)) b zs := fun {j s zs} hj e hs => by
    obtain ⟨b, eb, h1, ws, h2', h3', h4'⟩ := sr.getOwn e hs
    have hm : s.mine = true := by rcases hs with rfl | rfl <;> rfl
    have nb : b ≠ a := fun z => by
      subst z
      exact hj (sr.apart j i s s0 b e e0 hm m0 eb ea)
    exact ⟨b, eb, h1, ws, by rw [upd_ne nb]; exact h2', h3', h4'.step sr.wf st⟩
  have il : i < ρ.length := (List.getElem?_eq_some_iff.mp e0).1
  have self : OwnAt G O W (upd H a (.lst vs)) a ys := ⟨oW, vs, upd_same, hl, hr.step sr.wf st⟩
  have os : ownSet ρ i ys = ρ.set i (s0.like ys) := by
    unfold ownSet
    rcases hs0 with rfl | rfl <;> rw [e0] <;> rfl
  rw [os]
  refine ⟨st, ⟨⟨sr.wf.sub, fun b hb => trk b (sr.wf.trk b hb)⟩, by rw [List.length_set, sr.len], fun j s e => ?_, fun j k s t b e1 e2 m1 m2 s1 s2 => ?_, tabs_but sr.tabs.tc h2 (fun b u n h => by rw [upd_ne n]; exact h), fun q hq => (sr.tabs.k q hq).step sr.wf st⟩⟩
  · by_cases hj : i = j
    · subst hj
      rw [List.getElem?_set_self il] at e
      rw [ea]
      rcases hs0 with rfl | rfl
      · cases e
        exact ⟨a, rfl, self⟩
      · cases e
        obtain ⟨b, q1, q2, _⟩ := sr.slot i _ e0
        rw [ea] at q1; cases q1
        exact ⟨a, rfl, q2, self⟩
    · rw [List.getElem?_set_ne hj] at e
      have q := sr.slot j s e
      cases s with
      | no => trivial
      | xn c fs => obtain ⟨a, p, gs, e, x, t, n, r⟩ := q; exact ⟨a, p, gs, e, x, (st.at sr.wf t n).1, (st.at sr.wf t n).2, RpF.step sr.wf st r⟩
      | gv => exact q
      | sh d => obtain ⟨v, ev, r⟩ := q; exact ⟨v, ev, r.step sr.wf st⟩
      | own zs =>
        obtain ⟨b, eb, ob⟩ := other (Ne.symm hj) e (.inl rfl)
        exact ⟨b, by rw [eb]; rfl, ob⟩
      | byr zs =>
        obtain ⟨b, eb, ob⟩ := other (Ne.symm hj) e (.inr rfl)
        obtain ⟨c, q1, q2, _⟩ := q
        rw [eb] at q1; cases q1
        exact ⟨b, by rw [eb]; rfl, q2, ob⟩
  · have orig : ∀ {j : Nat} {s : SD}, (ρ.set i (s0.like ys))[j]? = some s → s.mine = true → ∃ s', ρ[j]? = some s' ∧ s'.mine = true := fun {j s} e m => by
      by_cases hj : i = j
      · subst hj; exact ⟨s0, e0, m0⟩
      · rw [List.getElem?_set_ne hj] at e; exact ⟨s, e, m⟩
    obtain ⟨u1, q1, q2⟩ := orig e1 m1
    obtain ⟨u2, q3, q4⟩ := orig e2 m2
    exact sr.apart j k u1 u2 b q1 q3 q2 q4 s1 s2
/-! ### x[i] = e -/
def setAt (xs : List D) (k : Int) (d : D) : Option (List D) := (ixN xs.length k).map fun j => xs.set j d
def storeD (ρ : List SD) (x : Nat) (k d : D) : Rs Fl := match k with
  | .int k => (ownGet ρ x).bind fun xs => match setAt xs k d with
    | some ys => .ok (.nx (ownSet ρ x ys))
    | none => .bad
  | _ => .bad
theorem RpA.set {G : Gx} {O : List Addr} {H : Hp} {d : D} {v : V} (h : Rp G O H d v) : ∀ {ds : List D} {vs : List V} (j : Nat), RpA G O H ds vs → RpA G O H (ds.set j d) (vs.set j v)
  | [], vs, j, r => by simp only [RpA] at r; subst r; simp only [List.set_nil, RpA]
  | e :: ds, vs, 0, r => by
    simp only [RpA] at r
    obtain ⟨w, us, rfl, h1, h2⟩ := r
    simp only [List.set_cons_zero, RpA]
    exact ⟨v, us, rfl, h, h2⟩
  | e :: ds, vs, j + 1, r => by
    simp only [RpA] at r
    obtain ⟨w, us, rfl, h1, h2⟩ := r
    simp only [List.set_cons_succ, RpA]
    exact ⟨w, _, rfl, h1, RpA.set h j h2⟩
/-- the slot's value at x is there as long as the slot is its own -/
def sStore (x : Nat) (f : Sx) (o : LOp) : Ss := fun ρ => (f ρ).bind fun p => (ownGet p.2 x).bind fun _ => (ops [o] p.2).bind fun q => match q.1 with
  | [k] => storeD q.2 x k p.1.frz
  | _ => .bad
theorem sj_store {x : Nat} {ex ei e : Expr} {f : Sx} {o : LOp} {pos tpos : Pos} (hx : PE X ex (tVar x)) (hi : OJ X cl vs0 Wx [ei] [o]) (h : EJ X cl vs0 Wx e f)
    (ha : ∀ v, assign (.Subscript ex ei tpos) X.env v = (do
      let ov ← holding [v] (eval ex X.env)
      let iv ← holding [v, ov] (eval ei X.env)
      standAt tpos
      holding [v, ov, iv] (setItem ov iv v)
      release [v, ov, iv] []) := by intro _; rfl)
    (hs : swapsWithSole [.Subscript ex ei tpos] e pos.line X.env = pure false := by rfl) (hw : swappedStores [.Subscript ex ei tpos] e X.env = pure none := by rfl) (h1 : (assignEach [.Subscript ex ei tpos] X.env).map (·.2) = [assign (.Subscript ex ei tpos) X.env] := by rfl) :
    SJ X cl vs0 Wx (.Assign [.Subscript ex ei tpos] e pos) (sStore x f o) := by
  obtain ⟨t, p, q⟩ := h.ex
  obtain ⟨ti, pi, qi⟩ := one_of hi
  refine ⟨⟨_, ps_asg p (pg_sub hx pi set_list ha) hs hw h1, fun O W σ H ρ E sr hw => q O W σ H ρ _ sr (e_core sr.wf hw fun v s ρ1 O1 W1 H1 sr1 rr hk => ?_)⟩⟩
  obtain ⟨O2, W2, st2, sr2, rp⟩ := rr.frz sr1
  have hk := AftS.back sr1.wf st2 hk
  have hk : AftS (gx X cl) vs0 Wx O2 W2 H1 E ((ownGet ρ1 x).bind fun _ => (ops [o] ρ1).bind fun q => match q.1 with
    | [k] => storeD q.2 x k s.frz
    | _ => .bad) := hk
  cases eg : ownGet ρ1 x with
  | bad => rw [eg] at hk; exact hk.elim
  | exc c fs ρ' => exact absurd eg ownGet_noexc
  | ok xs0 =>
    rw [eg] at hk
    obtain ⟨a, ea, _⟩ := ownGet_at sr2 eg
    refine ⟨.ref a, ea, qi O2 W2 σ H1 ρ1 (fun vs H' => match vs with
      | [y] => rSetL (.ref a) y v H' fun H3 => E.nx σ H3
      | _ => False) sr2 ?_⟩
    have hk : AftS (gx X cl) vs0 Wx O2 W2 H1 E ((ops [o] ρ1).bind fun q => match q.1 with
      | [k] => storeD q.2 x k s.frz
      | _ => .bad) := hk
    cases eo : ops [o] ρ1 with
    | bad => rw [eo] at hk; exact hk
    | exc c fs ρ' => rw [eo] at hk; exact hk σ
    | ok w =>
      obtain ⟨ds, ρ2⟩ := w
      rw [eo] at hk
      intro vs O3 W3 H3 st3 sr3 ho
      have hk := AftS.back sr2.wf st3 hk
      cases ds with
      | nil => exact (show False from hk).elim
      | cons d ds =>
        cases ds with
        | cons _ _ => exact (show False from hk).elim
        | nil =>
          obtain ⟨y, rfl, h1⟩ := OpA.one ho
          have hk : AftS (gx X cl) vs0 Wx O3 W3 H3 E (storeD ρ2 x d s.frz) := hk
          cases d with
          | int k =>
            have hk : AftS (gx X cl) vs0 Wx O3 W3 H3 E ((ownGet ρ2 x).bind fun xs => match setAt xs k s.frz with
              | some ys => .ok (.nx (ownSet ρ2 x ys))
              | none => .bad) := hk
            cases eg2 : ownGet ρ2 x with
            | bad => rw [eg2] at hk; exact hk.elim
            | exc c fs ρ' => exact absurd eg2 ownGet_noexc
            | ok xs =>
              rw [eg2] at hk
              have hk : AftS (gx X cl) vs0 Wx O3 W3 H3 E (match setAt xs k s.frz with
                | some ys => .ok (.nx (ownSet ρ2 x ys))
                | none => .bad) := hk
              obtain ⟨b, eb, oW, us, h2, h3, h4⟩ := ownGet_at sr3 eg2
              rw [ea] at eb; cases eb
              unfold setAt at hk
              rw [h4.length] at hk
              cases ej : ixN us.length k with
              | none => rw [ej] at hk; exact hk.elim
              | some j =>
                rw [ej] at hk
                have rv := rp.step sr2.wf st3
                obtain ⟨st4, sr4⟩ := sr3.write (vs := us.set j v) eg2 ea (by rw [List.length_set]; exact h3) (h4.set rv j)
                exact ⟨a, us, k, j, rfl, h1.int, h2, ej, hk σ O3 W3 _ st4 sr4⟩
          | _ => exact hk.elim
/-! ### x.append(e) -/
def sApp (x : Nat) (f : Sx) : Ss := fun ρ => (ownGet ρ x).bind fun _ => (f ρ).bind fun p => (ownGet p.2 x).bind fun xs => if xs.length < sizeLine then .ok (.nx (ownSet p.2 x (xs ++ [p.1.frz]))) else .bad
theorem sj_app {x : Nat} {ex e : Expr} {f : Sx} {pos apos cpos : Pos} (hx : PE X ex (tVar x)) (h : EJ X cl vs0 Wx e f)
    (hbase : attributeBase ex "append" X.env (eval ex X.env) = eval ex X.env := by rfl)
    (hfew : ((backTo cpos (starEach [e] X.env)).all (fun x => !x.1) && (backToKw cpos (keywordEach [] X.env)).all (fun x => x.1.isSome)
      && decide ([e].length + ([] : List Keyword).length + (if ([] : List Keyword).isEmpty then 0 else 1) < 30)) = true := by rfl)
    (hline : (apos.endLine == cpos.line) = true := by rfl) (hs : starEach [e] X.env = (false, eval e X.env) :: starEach [] X.env := by rfl) (hplain : (backTo cpos (starEach [] X.env)).any (·.1) = false := by rfl)
    (hsw : swapsWith (.Call (.Attribute ex "append" apos) [e] [] cpos) none pos.line X.env = pure false := by rfl) :
    SJ X cl vs0 Wx (.Expr (.Call (.Attribute ex "append" apos) [e] [] cpos) pos) (sApp x f) := by
  obtain ⟨t, p, q⟩ := h.ex
  refine ⟨⟨_, ps_expr (pe_bm PySem.F.plainAttrs_list PySem.F.slot_list_append PySem.F.type_list_append mt_append hx (pa_cons p pa_nil hs) hbase hfew hline hs hplain) hsw, fun O W σ H ρ E sr hw => ?_⟩⟩
  unfold sApp at hw
  cases eg : ownGet ρ x with
  | bad => rw [eg] at hw; exact hw.elim
  | exc c fs ρ' => exact absurd eg ownGet_noexc
  | ok xs0 =>
    rw [eg] at hw
    obtain ⟨a, ea, oa⟩ := ownGet_at sr eg
    obtain ⟨_, us0, h20, _⟩ := oa
    refine ⟨.ref a, ea, .inl ⟨rfl, _, SqL.of h20⟩, q O W σ H ρ _ sr (e_core sr.wf hw fun v s ρ1 O1 W1 H1 sr1 rr hk => ?_)⟩
    obtain ⟨O2, W2, st2, sr2, rp⟩ := rr.frz sr1
    have hk := AftS.back sr1.wf st2 hk
    have hk : AftS (gx X cl) vs0 Wx O2 W2 H1 E ((ownGet ρ1 x).bind fun xs => if xs.length < sizeLine then .ok (.nx (ownSet ρ1 x (xs ++ [s.frz]))) else .bad) := hk
    cases eg2 : ownGet ρ1 x with
    | bad => rw [eg2] at hk; exact hk.elim
    | exc c fs ρ' => exact absurd eg2 ownGet_noexc
    | ok xs =>
      rw [eg2] at hk
      have hk : AftS (gx X cl) vs0 Wx O2 W2 H1 E (if xs.length < sizeLine then .ok (.nx (ownSet ρ1 x (xs ++ [s.frz]))) else .bad) := hk
      split at hk
      · rename_i hz
        obtain ⟨b, eb, oW, us, h2, h3, h4⟩ := ownGet_at sr2 eg2
        rw [ea] at eb; cases eb
        have hl : us.length < sizeLine := by rw [← h4.length]; exact hz
        obtain ⟨st4, sr4⟩ := sr2.write (vs := us ++ [v]) eg2 ea (by rw [List.length_append]; exact hl) (h4.snoc rp)
        exact ⟨a, us, v, rfl, rfl, h2, hl, hk σ O2 W2 _ st4 sr4⟩
      · exact hk.elim
/-! ### f([..]): the list just made may be written by f -/
def xCallT (F : Fn) (f : Sx) : Sx := fun ρ => (f ρ).bind fun p => match p.1 with
  | .own xs => match F [.byr xs] with
    | .ok (r, _) => .ok (r, p.2)
    | .exc c fs _ => .exc c fs p.2
    | .bad => .bad
  | _ => .bad
theorem ej_callT {k : Nat} {f : Addr} {fd : FuncData} {pn : List Str} {F : Fn} {x : Str} {p pos : Pos} {e : Expr} {fx : Sx} (hF : FnOk X.prog X.w X.K X.mg X.base (L2.CX X.prog X.w) k f fd pn (spF (gx X cl) 1 F)) (hr : Room k X.A) (hg : Gl X x) (hm : X.mg x = some (.ref f)) (hk : PySem.W.keepIn X.K (.ref f) = true) (hb : Binds X.K fd pn []) (tk : Takes X Wx)
    (h : EJ X cl vs0 Wx e fx) (hdb : (x == ("__debug__" : Str)) = false := by decide) (he : starEach [e] X.env = (false, eval e X.env) :: starEach [] X.env := by rfl) (hpl : (backTo pos (starEach [] X.env)).any (·.1) = false := by rfl) :
    EJ X cl vs0 Wx (.Call (.Name x p) [e] [] pos) (xCallT F fx) := by
  obtain ⟨t, pe, q⟩ := h.ex
  refine ⟨⟨_, pe_callSD (dvs := []) (ds := []) (E := fun σ c d H => Wx c d σ H) hF hr hg hm hk hb .nil (fun σ => passAt tk σ) (pa_cons pe pa_nil he) hdb he hpl, fun O W σ H ρ Q sr hw => ?_⟩⟩
  unfold xCallT at hw
  refine q O W σ H ρ _ sr ?_
  cases ef : fx ρ with
  | bad => rw [ef] at hw; exact hw
  | exc c fs ρ' => rw [ef] at hw; exact hw
  | ok w =>
    obtain ⟨s, ρ1⟩ := w
    rw [ef] at hw
    intro v O1 W1 H1 st1 sr1 rr
    cases s with
    | sh d => exact hw.elim
    | no => exact hw.elim
    | xn _ _ => exact hw.elim
    | gv => exact hw.elim
    | byr xs => exact hw.elim
    | own xs =>
      have hw : AftE (gx X cl) vs0 Wx O W σ H Q (match F [.byr xs] with
        | .ok (r, _) => .ok (r, ρ1)
        | .exc c fs _ => .exc c fs ρ1
        | .bad => .bad) := hw
      obtain ⟨a, ev, oa, na⟩ := rr
      subst ev
      -- the callee's world: the list alone
      have en : SR (gx X cl) [.ref a] O1 [a] ([V.ref a].map some) H1 [.byr xs] := by
        refine ⟨⟨fun b hb => ?_, sr1.wf.trk⟩, rfl, fun i s e => ?_, fun i j s t b e1 e2 m1 m2 s1 s2 => ?_, sr1.tabs⟩
        · have : b = a := by simpa using hb
          rw [this]; exact sr1.wf.sub a oa.1
        · cases i with
          | zero =>
            cases e
            exact ⟨a, rfl, rfl, by simp, oa.2⟩
          | succ i => cases e
        · cases i with
          | zero =>
            cases j with
            | zero => rfl
            | succ j => cases e2
          | succ i => cases e1
      have back : ∀ {O2 W2 : List Addr} {H2 : Hp}, Stp O1 [a] H1 O2 W2 H2 → Wf O2 W2 H2 → KT (gx X cl) O2 H2 → ∃ W3, Stp O1 W1 H1 O2 W3 H2 ∧ SR (gx X cl) vs0 O2 W3 σ H2 ρ1 ∧ (∀ b ∈ W2, b ∈ W3) ∧ ∀ b ∈ W2, ∀ (i : Nat) (s : SD), ρ1[i]? = some s → s.mine = true → σ[i]? ≠ some (some (.ref b)) := fun {O2 W2 H2} st w2 tb => by
        have mW : ∀ {b : Addr}, b ∈ W2 ++ W1.filter (fun b => decide (b ≠ a)) ↔ b ∈ W2 ∨ (b ∈ W1 ∧ b ≠ a) := by
          intro b
          rw [List.mem_append, List.mem_filter, decide_eq_true_eq]
        have st3 : Stp O1 W1 H1 O2 (W2 ++ W1.filter (fun b => decide (b ≠ a))) H2 := ⟨fun b o e hb ht => st.keep b o e (fun z => hb (by rw [show b = a by simpa using z]; exact oa.1)) ht, fun b hb => by
          rcases mW.mp hb with z | z
          · rcases st.wnew b z with y | y
            · exact .inl (by rw [show b = a by simpa using y]; exact oa.1)
            · exact .inr y
          · exact .inl z.1, st.onew, st.trk, fun b hb hn => st.ofz b hb fun z => hn (by rw [show b = a by simpa using z]; exact oa.1)⟩
        have wf3 : Wf O2 (W2 ++ W1.filter (fun b => decide (b ≠ a))) H2 := ⟨fun b hb => by
          rcases mW.mp hb with z | z
          · exact w2.sub b z
          · exact st.ofz b (sr1.wf.sub b z.1) (by simpa using z.2), w2.trk⟩
        have own3 : ∀ {i : Nat} {s : SD} {zs : List D}, ρ1[i]? = some s → (s = .own zs ∨ s = .byr zs) → ∃ b, σ[i]? = some (some (.ref b)) ∧ b ≠ a ∧ OwnAt (gx X cl) O2 (W2 ++ W1.filter (fun b => decide (b ≠ a))) H2 b zs := fun {i s zs} e hs => by
          obtain ⟨b, eb, h1, us, h2, h3, h4⟩ := sr1.getOwn e hs
          have nb : b ≠ a := fun z => na i s e (by rcases hs with rfl | rfl <;> rfl) (by rw [← z]; exact eb)
          exact ⟨b, eb, nb, mW.mpr (.inr ⟨h1, nb⟩), us, st.keep b _ h2 (by simpa using nb) (fun _ z => by cases z), h3, h4.step en.wf st⟩
        refine ⟨_, st3, ⟨wf3, sr1.len, fun i s e => ?_, sr1.apart, tb⟩, fun b hb => mW.mpr (.inl hb), fun b hb i s e m z => ?_⟩
        · have qs := sr1.slot i s e
          cases s with
          | no => trivial
          | xn c fs => obtain ⟨a, p, gs, e, x, t, n, r⟩ := qs; exact ⟨a, p, gs, e, x, (st.at en.wf t n).1, (st.at en.wf t n).2, RpF.step en.wf st r⟩
          | gv => exact qs
          | sh d => obtain ⟨u, eu, r⟩ := qs; exact ⟨u, eu, r.step en.wf st⟩
          | own zs =>
            obtain ⟨b, eb, _, ob⟩ := own3 e (.inl rfl)
            exact ⟨b, by rw [eb]; rfl, ob⟩
          | byr zs =>
            obtain ⟨b, eb, _, ob⟩ := own3 e (.inr rfl)
            obtain ⟨c, q1, q2, _⟩ := qs
            rw [eb] at q1; cases q1
            exact ⟨b, by rw [eb]; rfl, q2, ob⟩
        · have : ∃ zs, s = .own zs ∨ s = .byr zs := by
            cases s with
            | own zs => exact ⟨zs, .inl rfl⟩
            | byr zs => exact ⟨zs, .inr rfl⟩
            | xn _ _ => cases m
            | gv => cases m
            | no => cases m
            | sh d => cases m
          obtain ⟨zs, hs⟩ := this
          obtain ⟨c, ec, nc, _⟩ := own3 e hs
          obtain ⟨c', ec', h1, _⟩ := sr1.getOwn e hs
          rw [z] at ec ec'
          cases ec
          cases ec'
          rcases st.wnew b hb with y | y
          · exact nc (by simpa using y)
          · exact sr1.wf.trk b (sr1.wf.sub b h1) y
      refine ⟨rfl, O1, [a], [.byr xs], en, ?_⟩
      cases eF : F [.byr xs] with
      | bad => rw [eF] at hw; exact hw
      | exc c fs as' =>
        rw [eF] at hw
        intro p gs O2 W2 H2 st2 sr2 hp hf
        obtain ⟨W3, st3, sr3, _⟩ := back st2 sr2.wf sr2.tabs
        exact hw p gs O2 W3 H2 (st1.trans sr.wf st3) sr3 hp hf
      | ok qq =>
        obtain ⟨r, as'⟩ := qq
        rw [eF] at hw
        intro u O2 W2 H2 st2 sr2 rr2
        obtain ⟨W3, st3, sr3, sub, np⟩ := back st2 sr2.wf sr2.tabs
        refine hw u O2 W3 H2 (st1.trans sr.wf st3) sr3 ?_
        cases r with
        | sh d => exact rr2
        | xn _ _ => exact rr2
        | gv => exact rr2
        | no => exact rr2
        | byr ys => exact rr2
        | own ys =>
          obtain ⟨b, eb, ob, _⟩ := rr2
          exact ⟨b, eb, ⟨sub b ob.1, ob.2⟩, np b ob.1⟩
end
end Wm
end

section
/-! Short words for printed derivations. -/
namespace Wm
open PySem PySem.Spec PyProof.Rows L2
section
variable {X : Cx} {cl : Cl} {vs0 : List V} {Wx : WX} {a b e : Expr} {pos : Pos} {fl : List LOp}
theorem lj_va {i : Nat} (h : PE X e (tVar i)) : LJ X cl vs0 Wx e (.va i) := h
theorem lj_ex {f : Sx} (h : EJ X cl vs0 Wx e f) : LJ X cl vs0 Wx e (.ex f) := h
theorem tj_lt (h : OJ X cl vs0 Wx [a, b] fl) : TJ X cl vs0 Wx (.Compare a [.Lt] [b] pos) (bT (xPrim fl pLt)) := tj_cmp op_lt (pr_I0 fun _ _ _ _ _ => by simp only [Rp]) h (nomark _)
theorem tj_le (h : OJ X cl vs0 Wx [a, b] fl) : TJ X cl vs0 Wx (.Compare a [.LtE] [b] pos) (bT (xPrim fl pLe)) := tj_cmp op_le (pr_I0 fun _ _ _ _ _ => by simp only [Rp]) h (nomark _)
theorem tj_gt (h : OJ X cl vs0 Wx [a, b] fl) : TJ X cl vs0 Wx (.Compare a [.Gt] [b] pos) (bT (xPrim fl pGt)) := tj_cmp op_gt (pr_I0 fun _ _ _ _ _ => by simp only [Rp]) h (nomark _)
theorem tj_ge (h : OJ X cl vs0 Wx [a, b] fl) : TJ X cl vs0 Wx (.Compare a [.GtE] [b] pos) (bT (xPrim fl pGe)) := tj_cmp op_ge (pr_I0 fun _ _ _ _ _ => by simp only [Rp]) h (nomark _)
theorem tj_eq (hu : X.A.units + 64 < cLine) (h : OJ X cl vs0 Wx [a, b] fl) : TJ X cl vs0 Wx (.Compare a [.Eq] [b] pos) (bT (xPrim fl pEq)) := tj_cmp (op_eqD hu) pr_eq h (nomark _)
theorem tj_ne (hu : X.A.units + 64 < cLine) (h : OJ X cl vs0 Wx [a, b] fl) : TJ X cl vs0 Wx (.Compare a [.NotEq] [b] pos) (bT (xPrim fl pNe)) := tj_cmp (op_neD hu) pr_ne h (nomark _)
/-- a def that nobody calls so: no promise at all -/
theorem fn_bad {P : Program} {w : World} {K : PySem.W.Frag} {mg : Str → Option Value} {base : Heap} {k : Nat} {f : Addr} {fd : FuncData} {ps : List Str} {G : Gx} {n : Nat} (hn : n = ps.length) : FnOk P w K mg base (L2.CX P w) k f fd ps (spF G n fun _ => .bad) :=
  ⟨fun vs H Q E h => h.1.trans hn, fun A outer s H args us vs Q E _ _ _ _ h => by obtain ⟨_, _, _, _, _, z⟩ := h; exact z.elim⟩
/-! ### a, b = e1, e2 of two plain names -/
def sPar (i j : Nat) (f g : Sx) : Ss := fun ρ => (mops [f, g] ρ).bind fun q => match q.1 with
  | [d, e] => .ok (.nx ((q.2.set i (.sh d)).set j (.sh e)))
  | _ => .bad
theorem sj_par {i j : Nat} {x y : Str} {f g : Sx} {px py pt : Pos} {kt k2 pt2} (hc : X.calm = true) (hN : X.N.Nodup) (hi : X.N[i]? = some x) (hj : X.N[j]? = some y) (hij : i ≠ j)
    (hx : X.env.scope.names.lookup x = some .local) (hy : X.env.scope.names.lookup y = some .local) (ha : MJ X cl vs0 Wx [a, b] [f, g])
    (hw : swappedStores [.Tuple [.Name x px, .Name y py] kt pt] (.Tuple [a, b] k2 pt2) X.env = pure (some [x, y]) := by rfl)
    (hs : swapsWithSole [.Tuple [.Name x px, .Name y py] kt pt] (.Tuple [a, b] k2 pt2) pos.line X.env = pure false := by rfl) :
    SJ X cl vs0 Wx (.Assign [.Tuple [.Name x px, .Name y py] kt pt] (.Tuple [a, b] k2 pt2) pos) (sPar i j f g) := by
  obtain ⟨t, p, q⟩ := ha.ex
  refine ⟨⟨_, ps_par hc hN hi hj hij hx hy p hw hs, fun O W σ H ρ E sr hw => q O W σ H ρ _ sr ?_⟩⟩
  unfold sPar at hw
  cases e : mops [f, g] ρ with
  | bad => rw [e] at hw; exact hw
  | exc c fs ρ' => rw [e] at hw; exact hw σ
  | ok w =>
    obtain ⟨ds, ρ1⟩ := w
    rw [e] at hw
    intro vs O' W' H' st sr' ra
    match ds, ra, hw with
    | [], _, hw => exact (show False from hw).elim
    | [_], _, hw => exact (show False from hw).elim
    | [d1, d2], ra, hw =>
      simp only [RpA] at ra
      obtain ⟨v, r, ev, h1, w, r2, ew, h2, er⟩ := ra
      subst er ew
      exact ⟨v, w, ev, hw _ O' W' H' st ((sr'.set h1).set h2)⟩
    | _ :: _ :: _ :: _, _, hw => exact (show False from hw).elim
/-! ### x[i], x[j] = e -/
def sSub2 (x : Nat) (f : Sx) (o o2 : LOp) : Ss := fun ρ => (f ρ).bind fun p => match p.1 with
  | .sh (.tup [d, e]) => (ownGet p.2 x).bind fun _ => (ops [o] p.2).bind fun q => match q.1 with
    | [k] => (storeD q.2 x k d).bind fun fl => match fl with
      | .nx ρ2 => (ownGet ρ2 x).bind fun _ => (ops [o2] ρ2).bind fun q2 => match q2.1 with
        | [k2] => storeD q2.2 x k2 e
        | _ => .bad
      | _ => .bad
    | _ => .bad
  | _ => .bad
/-- one store, into whatever follows -/
theorem store_core {x : Nat} {o : LOp} {ti : TE} (qi : ∀ O W σ H ρ R, SR (gx X cl) vs0 O W σ H ρ → AftO (gx X cl) vs0 Wx O W σ H R (ops [o] ρ) → tAll [ti] σ H R) {O W : List Addr} {σ : L2.St} {H : Hp} {ρ : List SD} {d : D} {v : V} {Q : Hp → Prop} {E : Ends} {k : Fl → Rs Fl}
    (sr : SR (gx X cl) vs0 O W σ H ρ) (rp : Rp (gx X cl) O H d v)
    (hk : AftS (gx X cl) vs0 Wx O W H E (((ownGet ρ x).bind fun _ => (ops [o] ρ).bind fun q => match q.1 with
      | [k] => storeD q.2 x k d
      | _ => .bad).bind k))
    (hQ : ∀ ρ' O' W' H', Stp O W H O' W' H' → SR (gx X cl) vs0 O' W' σ H' ρ' → AftS (gx X cl) vs0 Wx O' W' H' E (k (.nx ρ')) → Q H') :
    gSub (tVar x) ti rSetL v σ H fun _ H3 => Q H3 := by
  cases eg : ownGet ρ x with
  | bad => rw [eg] at hk; exact hk.elim
  | exc c fs ρ' => exact absurd eg ownGet_noexc
  | ok xs0 =>
    rw [eg] at hk
    obtain ⟨a, ea, _⟩ := ownGet_at sr eg
    refine ⟨.ref a, ea, qi O W σ H ρ (fun vs H' => match vs with
      | [y] => rSetL (.ref a) y v H' fun H3 => Q H3
      | _ => False) sr ?_⟩
    have hk : AftS (gx X cl) vs0 Wx O W H E (((ops [o] ρ).bind fun q => match q.1 with
      | [k] => storeD q.2 x k d
      | _ => .bad).bind k) := hk
    cases eo : ops [o] ρ with
    | bad => rw [eo] at hk; exact hk
    | exc c fs ρ' => rw [eo] at hk; exact hk σ
    | ok w =>
      obtain ⟨ds, ρ2⟩ := w
      rw [eo] at hk
      intro vs O3 W3 H3 st3 sr3 ho
      have hk := AftS.back sr.wf st3 hk
      cases ds with
      | nil => exact (show False from hk).elim
      | cons d1 ds =>
        cases ds with
        | cons _ _ => exact (show False from hk).elim
        | nil =>
          obtain ⟨y, rfl, h1⟩ := OpA.one ho
          cases d1 with
          | int m =>
            have hk : AftS (gx X cl) vs0 Wx O3 W3 H3 E (((ownGet ρ2 x).bind fun xs => match setAt xs m d with
              | some ys => .ok (.nx (ownSet ρ2 x ys))
              | none => .bad).bind k) := hk
            cases eg2 : ownGet ρ2 x with
            | bad => rw [eg2] at hk; exact hk.elim
            | exc c fs ρ' => exact absurd eg2 ownGet_noexc
            | ok xs =>
              rw [eg2] at hk
              have hk : AftS (gx X cl) vs0 Wx O3 W3 H3 E ((match setAt xs m d with
                | some ys => .ok (.nx (ownSet ρ2 x ys))
                | none => .bad : Rs Fl).bind k) := hk
              obtain ⟨b, eb, oW, us, h2, h3, h4⟩ := ownGet_at sr3 eg2
              rw [ea] at eb; cases eb
              unfold setAt at hk
              rw [h4.length] at hk
              cases ej : ixN us.length m with
              | none => rw [ej] at hk; exact hk.elim
              | some j =>
                rw [ej] at hk
                have rv := rp.step sr.wf st3
                obtain ⟨st4, sr4⟩ := sr3.write (vs := us.set j v) eg2 ea (by rw [List.length_set]; exact h3) (h4.set rv j)
                exact ⟨a, us, m, j, rfl, h1.int, h2, ej, hQ _ O3 W3 _ (st3.trans sr.wf st4) sr4 (AftS.back sr3.wf st4 hk)⟩
          | _ => exact (show False from hk).elim
theorem sj_sub2 {x : Nat} {ex ei ex2 ei2 : Expr} {f : Sx} {o o2 : LOp} {tpos tpos2 pt : Pos} {kk : Nat} (hc : X.calm = true) (hx : PE X ex (tVar x)) (hi : OJ X cl vs0 Wx [ei] [o]) (hx2 : PE X ex2 (tVar x)) (hi2 : OJ X cl vs0 Wx [ei2] [o2]) (h : EJ X cl vs0 Wx e f)
    (ha : ∀ v, assign (.Subscript ex ei tpos) X.env v = (do
      let ov ← holding [v] (eval ex X.env)
      let iv ← holding [v, ov] (eval ei X.env)
      standAt tpos
      holding [v, ov, iv] (setItem ov iv v)
      release [v, ov, iv] []) := by intro _; rfl)
    (ha2 : ∀ v, assign (.Subscript ex2 ei2 tpos2) X.env v = (do
      let ov ← holding [v] (eval ex2 X.env)
      let iv ← holding [v, ov] (eval ei2 X.env)
      standAt tpos2
      holding [v, ov, iv] (setItem ov iv v)
      release [v, ov, iv] []) := by intro _; rfl)
    (hg1 : (assignEach [.Subscript ex2 ei2 tpos2] X.env).map (·.2) = assign (.Subscript ex2 ei2 tpos2) X.env :: (assignEach [] X.env).map (·.2) := by rfl)
    (hg2 : (assignEach [.Subscript ex ei tpos, .Subscript ex2 ei2 tpos2] X.env).map (·.2) = assign (.Subscript ex ei tpos) X.env :: (assignEach [.Subscript ex2 ei2 tpos2] X.env).map (·.2) := by rfl)
    (hn : (assignEach [.Subscript ex ei tpos, .Subscript ex2 ei2 tpos2] X.env).length = 2 := by rfl) (hst : (assignEach [.Subscript ex ei tpos, .Subscript ex2 ei2 tpos2] X.env).findIdx? (·.1) = none := by rfl)
    (hs : swapsWithSole [.Tuple [.Subscript ex ei tpos, .Subscript ex2 ei2 tpos2] kk pt] e pos.line X.env = pure false := by rfl) (hw : swappedStores [.Tuple [.Subscript ex ei tpos, .Subscript ex2 ei2 tpos2] kk pt] e X.env = pure none := by rfl)
    (h1 : (assignEach [.Tuple [.Subscript ex ei tpos, .Subscript ex2 ei2 tpos2] kk pt] X.env).map (·.2) = [assign (.Tuple [.Subscript ex ei tpos, .Subscript ex2 ei2 tpos2] kk pt) X.env] := by rfl) :
    SJ X cl vs0 Wx (.Assign [.Tuple [.Subscript ex ei tpos, .Subscript ex2 ei2 tpos2] kk pt] e pos) (sSub2 x f o o2) := by
  obtain ⟨t, p, q⟩ := h.ex
  obtain ⟨ti, pi, qi⟩ := one_of hi
  obtain ⟨ti2, pi2, qi2⟩ := one_of hi2
  refine ⟨⟨_, ps_asg p (pg_tup hc (pgs_cons (pg_sub hx pi set_list ha) (pgs_cons (pg_sub hx2 pi2 set_list ha2) pgs_nil hg1) hg2) hn hst) hs hw h1, fun O W σ H ρ E sr hw => q O W σ H ρ _ sr (e_core sr.wf hw fun v s ρ1 O1 W1 H1 sr1 rr hk => ?_)⟩⟩
  cases s with
  | sh dd =>
    match dd, rr, hk with
    | .tup [d1, d2], rr, hk =>
      have rr : Rp (gx X cl) O1 H1 (.tup [d1, d2]) v := rr
      simp only [Rp, RpA] at rr
      obtain ⟨a, vs, ev, tt, v1, r1, e1, p1, v2, r2, e2, p2, e3⟩ := rr
      subst e3 e2 e1
      refine ⟨a, [v1, v2], ev, tt.sq, rfl, v1, [v2], rfl, ?_⟩
      have hk : AftS (gx X cl) vs0 Wx O1 W1 H1 E (((ownGet ρ1 x).bind fun _ => (ops [o] ρ1).bind fun q => match q.1 with
        | [k] => storeD q.2 x k d1
        | _ => .bad).bind fun fl => match fl with
          | .nx ρ2 => (ownGet ρ2 x).bind fun _ => (ops [o2] ρ2).bind fun q2 => match q2.1 with
            | [k2] => storeD q2.2 x k2 d2
            | _ => .bad
          | _ => .bad) := by
        have hk : AftS (gx X cl) vs0 Wx O1 W1 H1 E ((ownGet ρ1 x).bind fun _ => (ops [o] ρ1).bind fun q => match q.1 with
          | [k] => (storeD q.2 x k d1).bind fun fl => match fl with
            | .nx ρ2 => (ownGet ρ2 x).bind fun _ => (ops [o2] ρ2).bind fun q2 => match q2.1 with
              | [k2] => storeD q2.2 x k2 d2
              | _ => .bad
            | _ => .bad
          | _ => .bad) := hk
        cases eg : ownGet ρ1 x with
        | bad => rw [eg] at hk; exact hk
        | exc c fs ρ' => exact absurd eg ownGet_noexc
        | ok xs =>
          rw [eg] at hk
          cases eo : ops [o] ρ1 with
          | bad => rw [eo] at hk; exact hk
          | exc c fs ρ' => rw [eo] at hk; exact hk
          | ok w =>
            obtain ⟨ds, ρ2⟩ := w
            rw [eo] at hk
            cases ds with
            | nil => exact hk
            | cons k ds =>
              cases ds with
              | nil => exact hk
              | cons _ _ => exact hk
      refine store_core qi sr1 p1 hk fun ρ2 O2 W2 H2 st2 sr2 hk2 => ?_
      refine ⟨v2, [], rfl, ?_⟩
      have hk2 : AftS (gx X cl) vs0 Wx O2 W2 H2 E (((ownGet ρ2 x).bind fun _ => (ops [o2] ρ2).bind fun q2 => match q2.1 with
        | [k2] => storeD q2.2 x k2 d2
        | _ => .bad).bind .ok) := by
        have e : ∀ r : Rs Fl, r.bind .ok = r := fun r => by cases r <;> rfl
        rw [e]; exact hk2
      exact store_core qi2 sr2 (p2.step sr1.wf st2) hk2 fun ρ3 O3 W3 H3 st3 sr3 hk3 => ⟨rfl, hk3 σ O3 W3 H3 Stp.refl sr3⟩
    | .non, _, hk => exact (show False from hk).elim
    | .bl _, _, hk => exact (show False from hk).elim
    | .int _, _, hk => exact (show False from hk).elim
    | .str _, _, hk => exact (show False from hk).elim
    | .lst _, _, hk => exact (show False from hk).elim
    | .ins _ _, _, hk => exact (show False from hk).elim
    | .scr _, _, hk => exact (show False from hk).elim
    | .tup [], _, hk => exact (show False from hk).elim
    | .tup [_], _, hk => exact (show False from hk).elim
    | .tup (_ :: _ :: _ :: _), _, hk => exact (show False from hk).elim
  | _ => exact hk.elim
end
end Wm
end

section
/-! Evaluation: what the pieces come to, applied. -/
namespace Wm
open PySem PySem.Spec PyProof.Rows L2
variable {α β : Type}
theorem Rs.bind_first {x y : Rs α} {f : α → Rs β} (h : x = y) : x.bind f = y.bind f := by rw [h]
@[simp] theorem bind_bad (f : α → Rs β) : (Rs.bad : Rs α).bind f = .bad := (rfl)
@[simp] theorem bind_exc (c : Str) (fs : List (Str × D)) (ρ : List SD) (f : α → Rs β) : (Rs.exc c fs ρ : Rs α).bind f = .exc c fs ρ := (rfl)
/-- a def's end -/
def Rs.leave (n : Nat) : Rs Fl → Rs (SD × List SD)
  | .ok (.rt r ρ') => .ok (r, trim n ρ')
  | .ok (.nx ρ') => .ok (.sh .non, trim n ρ')
  | .exc c fs ρ' => .exc c fs (trim n ρ')
  | _ => .bad
@[simp] theorem bodyF_ap (N : Nat) (g : Ss) (as : List SD) : bodyF N g as = (g (as ++ List.replicate (N - as.length) .no)).leave as.length := by
  unfold bodyF Rs.leave
  cases g (as ++ List.replicate (N - as.length) .no) with
  | ok fl => cases fl <;> rfl
  | exc c fs ρ => rfl
  | bad => rfl
def Rs.home (ps : List (SD × Option Nat)) (ρ : List SD) : Rs (SD × List SD) → Rs (SD × List SD)
  | .ok (r, as') => .ok (r, backAll ps as' ρ)
  | .exc c fs as' => .exc c fs (backAll ps as' ρ)
  | .bad => .bad
@[simp] theorem xCall_ap (F : Fn) (fl : List LOp) (ρ : List SD) : xCall F fl ρ = (cargs fl ρ).bind fun p => if (lent p.1).Nodup then (F (p.1.map (·.1))).home p.1 p.2 else .bad := by
  unfold xCall
  refine congrArg _ (funext fun p => ?_)
  split
  · cases F (p.1.map (·.1)) with
    | ok q => rfl
    | exc c fs ρ => rfl
    | bad => rfl
  · rfl
def Rs.homeT (ρ : List SD) : Rs (SD × List SD) → Rs (SD × List SD)
  | .ok (r, _) => .ok (r, ρ)
  | .exc c fs _ => .exc c fs ρ
  | .bad => .bad
def ownArg (F : Fn) (ρ : List SD) : SD → Rs (SD × List SD)
  | .own xs => (F [.byr xs]).homeT ρ
  | _ => .bad
@[simp] theorem xCallT_ap (F : Fn) (f : Sx) (ρ : List SD) : xCallT F f ρ = (f ρ).bind fun p => ownArg F p.2 p.1 := by
  unfold xCallT
  refine congrArg _ (funext fun p => ?_)
  cases p.1 with
  | own xs =>
    dsimp only
    show _ = (F [.byr xs]).homeT p.2
    cases F [.byr xs] with
    | ok q => rfl
    | exc c fs ρ => rfl
    | bad => rfl
  | sh d => rfl
  | no => rfl
  | byr xs => rfl
  | xn _ _ => rfl
  | gv => rfl
def Fl.next (h : Ss) : Fl → Rs Fl
  | .nx ρ' => h ρ'
  | fl => .ok fl
@[simp] theorem sSeq_ap (g h : Ss) (ρ : List SD) : sSeq g h ρ = (g ρ).bind (Fl.next h) := by
  unfold sSeq
  refine congrArg _ (funext fun fl => ?_)
  cases fl <;> rfl
@[simp] theorem sNil_ap (ρ : List SD) : sNil ρ = .ok (.nx ρ) := (rfl)
@[simp] theorem sEx_ap (f : Sx) (ρ : List SD) : sEx f ρ = (f ρ).bind fun p => .ok (.nx p.2) := (rfl)
@[simp] theorem sSet_ap (i : Nat) (f : Sx) (ρ : List SD) : sSet i f ρ = (f ρ).bind fun p => .ok (.nx (p.2.set i p.1)) := (rfl)
@[simp] theorem sRet_ap (f : Sx) (ρ : List SD) : sRet f ρ = (f ρ).bind fun p => .ok (.rt p.1 p.2) := (rfl)
def retV (i : Nat) (ρ : List SD) : Option SD → Rs Fl
  | some (.sh d) => .ok (.rt (.sh d) ρ)
  | some (.own xs) => .ok (.rt (.own xs) (ρ.set i .no))
  | some (.byr xs) => .ok (.rt (.sh (.lst xs)) (ρ.set i (.sh (.lst xs))))
  | _ => .bad
@[simp] theorem sRetV_ap (i : Nat) (ρ : List SD) : sRetV i ρ = retV i ρ ρ[i]? := by
  unfold sRetV retV
  split <;> first | rfl | (split <;> first | rfl | simp_all)
@[simp] theorem sIf_ap (t : Sb) (g h : Ss) (ρ : List SD) : sIf t g h ρ = (t ρ).bind fun p => if p.1 then g p.2 else h p.2 := (rfl)
@[simp] theorem xIf_ap (t : Sb) (f g : Sx) (ρ : List SD) : xIf t f g ρ = (t ρ).bind fun p => if p.1 then f p.2 else g p.2 := (rfl)
@[simp] theorem xC_ap (d : D) (ρ : List SD) : xC d ρ = .ok (.sh d, ρ) := (rfl)
def varV (i : Nat) (ρ : List SD) : Option SD → Rs (SD × List SD)
  | some (.sh d) => .ok (.sh d, ρ)
  | some (.own xs) => .ok (.sh (.lst xs), ρ.set i (.sh (.lst xs)))
  | some (.byr xs) => .ok (.sh (.lst xs), ρ.set i (.sh (.lst xs)))
  | _ => .bad
@[simp] theorem xVar_ap (i : Nat) (ρ : List SD) : xVar i ρ = varV i ρ ρ[i]? := by
  unfold xVar varV
  split <;> first | rfl | (split <;> first | rfl | simp_all)
def lookO : Option SD → Rs D
  | some (.sh d) => .ok d
  | some (.own xs) => .ok (.lst xs)
  | some (.byr xs) => .ok (.lst xs)
  | _ => .bad
@[simp] theorem lookD_ap (ρ : List SD) (i : Nat) : lookD ρ i = lookO ρ[i]? := by
  unfold lookD lookO
  split <;> first | rfl | (split <;> first | rfl | simp_all)
def argO : Option SD → Rs SD
  | some (.sh d) => .ok (.sh d)
  | some (.own xs) => .ok (.byr xs)
  | some (.byr xs) => .ok (.byr xs)
  | _ => .bad
@[simp] theorem argOf_ap (ρ : List SD) (i : Nat) : argOf ρ i = argO ρ[i]? := by
  unfold argOf argO
  split <;> first | rfl | (split <;> first | rfl | simp_all)
@[simp] theorem ops_nil (ρ : List SD) : ops [] ρ = .ok ([], ρ) := (rfl)
@[simp] theorem ops_va (i : Nat) (r : List LOp) (ρ : List SD) : ops (.va i :: r) ρ = (lookD ρ i).bind fun _ => (ops r ρ).bind fun p => (lookD p.2 i).bind fun d => .ok (d :: p.1, p.2) := (rfl)
@[simp] theorem ops_ex (f : Sx) (r : List LOp) (ρ : List SD) : ops (.ex f :: r) ρ = (f ρ).bind fun p => (ops r p.2).bind fun q => .ok (p.1.frz :: q.1, q.2) := (rfl)
@[simp] theorem cargs_nil (ρ : List SD) : cargs [] ρ = .ok ([], ρ) := (rfl)
@[simp] theorem cargs_va (i : Nat) (r : List LOp) (ρ : List SD) : cargs (.va i :: r) ρ = (argOf ρ i).bind fun _ => (cargs r ρ).bind fun p => (argOf p.2 i).bind fun s => .ok ((s, some i) :: p.1, p.2) := (rfl)
@[simp] theorem cargs_ex (f : Sx) (r : List LOp) (ρ : List SD) : cargs (.ex f :: r) ρ = (f ρ).bind fun p => (cargs r p.2).bind fun q => .ok ((.sh p.1.frz, none) :: q.1, q.2) := (rfl)
@[simp] theorem mops_nil (ρ : List SD) : mops [] ρ = .ok ([], ρ) := (rfl)
@[simp] theorem mops_cons (f : Sx) (r : List Sx) (ρ : List SD) : mops (f :: r) ρ = (f ρ).bind fun p => (mops r p.2).bind fun q => .ok (p.1.frz :: q.1, q.2) := (rfl)
@[simp] theorem xPrim_ap (fl : List LOp) (p : List D → Rs SD) (ρ : List SD) : xPrim fl p ρ = (ops fl ρ).bind fun q => (p q.1).fin q.2 := (rfl)
@[simp] theorem xLst_ap (fs : List Sx) (ρ : List SD) : xLst fs ρ = (mops fs ρ).bind fun q => if q.1.length ≤ sizeLine then .ok (.own q.1, q.2) else .bad := (rfl)
@[simp] theorem xTup_ap (fs : List Sx) (ρ : List SD) : xTup fs ρ = (mops fs ρ).bind fun q => if q.1.length ≤ sizeLine then .ok (.sh (.tup q.1), q.2) else .bad := (rfl)
@[simp] theorem bT_ap (f : Sx) (ρ : List SD) : bT f ρ = (f ρ).tst := (rfl)
def truL (ρ : List SD) : List D → Rs (Bool × List SD)
  | [d] => match truD d with
    | some b => .ok (b, ρ)
    | none => .bad
  | _ => .bad
@[simp] theorem bTru_ap (fl : List LOp) (ρ : List SD) : bTru fl ρ = (ops fl ρ).bind fun q => truL q.2 q.1 := by
  unfold bTru truL
  congr 1
@[simp] theorem bAnd_ap (f g : Sb) (ρ : List SD) : bAnd f g ρ = (f ρ).bind fun p => if p.1 then g p.2 else .ok (false, p.2) := (rfl)
@[simp] theorem bOr_ap (f g : Sb) (ρ : List SD) : bOr f g ρ = (f ρ).bind fun p => if p.1 then .ok (true, p.2) else g p.2 := (rfl)
@[simp] theorem bNot_ap (f : Sb) (ρ : List SD) : bNot f ρ = (f ρ).bind fun p => .ok (!p.1, p.2) := (rfl)
@[simp] theorem xAnd_ap (f g : Sx) (ρ : List SD) : xAnd f g ρ = (f ρ).tst.bind fun p => if p.1 then g p.2 else .ok (.sh (.bl false), p.2) := (rfl)
@[simp] theorem xOr_ap (f g : Sx) (ρ : List SD) : xOr f g ρ = (f ρ).tst.bind fun p => if p.1 then .ok (.sh (.bl true), p.2) else g p.2 := (rfl)
@[simp] theorem xNot_ap (f : Sx) (ρ : List SD) : xNot f ρ = (f ρ).tst.bind fun p => .ok (.sh (.bl (!p.1)), p.2) := (rfl)
def par2 (i j : Nat) (ρ : List SD) : List D → Rs Fl
  | [d, e] => .ok (.nx ((ρ.set i (.sh d)).set j (.sh e)))
  | _ => .bad
@[simp] theorem sPar_ap (i j : Nat) (f g : Sx) (ρ : List SD) : sPar i j f g ρ = (mops [f, g] ρ).bind fun q => par2 i j q.2 q.1 := by
  unfold sPar par2
  congr 1
def ownO : Option SD → Rs (List D)
  | some (.own xs) => .ok xs
  | some (.byr xs) => .ok xs
  | _ => .bad
@[simp] theorem ownGet_ap (ρ : List SD) (i : Nat) : ownGet ρ i = ownO ρ[i]? := by
  unfold ownGet ownO
  split <;> first | rfl | (split <;> first | rfl | simp_all)
def ownP (ρ : List SD) (i : Nat) (xs : List D) : Option SD → List SD
  | some (.own _) => ρ.set i (.own xs)
  | some (.byr _) => ρ.set i (.byr xs)
  | _ => ρ
@[simp] theorem ownSet_ap (ρ : List SD) (i : Nat) (xs : List D) : ownSet ρ i xs = ownP ρ i xs ρ[i]? := by
  unfold ownSet ownP
  split <;> first | rfl | (split <;> first | rfl | simp_all)
def putO (ρ : List SD) (x : Nat) : Option (List D) → Rs Fl
  | some ys => .ok (.nx (ownSet ρ x ys))
  | none => .bad
@[simp] theorem storeD_int (ρ : List SD) (x : Nat) (k : Int) (d : D) : storeD ρ x (.int k) d = (ownGet ρ x).bind fun xs => putO ρ x (setAt xs k d) := by
  unfold storeD putO
  congr 1
def storeL (x : Nat) (d : D) (ρ : List SD) : List D → Rs Fl
  | [k] => storeD ρ x k d
  | _ => .bad
@[simp] theorem sStore_ap (x : Nat) (f : Sx) (o : LOp) (ρ : List SD) : sStore x f o ρ = (f ρ).bind fun p => (ownGet p.2 x).bind fun _ => (ops [o] p.2).bind fun q => storeL x p.1.frz q.2 q.1 := by
  unfold sStore storeL
  congr 1
@[simp] theorem sApp_ap (x : Nat) (f : Sx) (ρ : List SD) : sApp x f ρ = (ownGet ρ x).bind fun _ => (f ρ).bind fun p => (ownGet p.2 x).bind fun xs => if xs.length < sizeLine then .ok (.nx (ownSet p.2 x (xs ++ [p.1.frz]))) else .bad := (rfl)
def tupD (is : List Nat) (ρ : List SD) : SD → Rs Fl
  | .sh (.tup ds) => (setAll is ds ρ).bind fun ρ' => .ok (.nx ρ')
  | _ => .bad
@[simp] theorem sTup_ap (is : List Nat) (f : Sx) (ρ : List SD) : sTup is f ρ = (f ρ).bind fun p => tupD is p.2 p.1 := by
  unfold sTup tupD
  congr 1
def sub2a (x : Nat) (o o2 : LOp) (ρ : List SD) : SD → Rs Fl
  | .sh (.tup [d, e]) => (ownGet ρ x).bind fun _ => (ops [o] ρ).bind fun q => (storeL x d q.2 q.1).bind fun fl => match fl with
      | .nx ρ2 => (ownGet ρ2 x).bind fun _ => (ops [o2] ρ2).bind fun q2 => storeL x e q2.2 q2.1
      | _ => .bad
  | _ => .bad
/-- loops -/
def Fl.turn (k : List SD → Rs Fl) : Fl → Rs Fl
  | .nx ρ2 => k ρ2
  | .ct ρ2 => k ρ2
  | .bk ρ2 => .ok (.nx ρ2)
  | .rt r ρ2 => .ok (.rt r ρ2)
def forT (body : Ss) (k : List SD → Rs Fl) : Option (List SD) → Rs Fl
  | some ρ1 => (body ρ1).bind (Fl.turn k)
  | none => .bad
@[simp] theorem forL_nil (st : Tg) (body : Ss) (ρ : List SD) : forL st body [] ρ = .ok (.nx ρ) := (rfl)
@[simp] theorem forL_cons (st : Tg) (body : Ss) (d : D) (ds : List D) (ρ : List SD) : forL st body (d :: ds) ρ = forT body (forL st body ds) (st d ρ) := by
  rw [forL]
  cases st d ρ with
  | none => rfl
  | some ρ1 =>
    dsimp only
    show _ = (body ρ1).bind _
    refine congrArg _ (funext fun fl => ?_)
    cases fl <;> rfl
noncomputable def forS (st : Tg) (body : Ss) (ρ : List SD) (m : Itm) : Rs Fl := match m.bor with
  | [] => forL st body m.xs ρ
  | bs => if bs.all (fun b => b.2.isByr) then forK m st body m.xs ρ else .bad
@[simp] theorem forS_byr (st : Tg) (body : Ss) (ρ : List SD) (xs ys : List D) (i : Nat) : forS st body ρ ⟨xs, [(i, .byr ys)]⟩ = forK ⟨xs, [(i, .byr ys)]⟩ st body xs ρ := (rfl)
@[simp] theorem forK_nil (m : Itm) (st : Tg) (body : Ss) (ρ : List SD) : forK m st body [] ρ = if m.keep ρ then .ok (.nx ρ) else .bad := (rfl)
@[simp] theorem forK_cons (m : Itm) (st : Tg) (body : Ss) (d : D) (ds : List D) (ρ : List SD) : forK m st body (d :: ds) ρ = if m.keep ρ then forT body (forK m st body ds) (st d ρ) else .bad := by
  rw [forK]
  split
  · cases st d ρ with
    | none => rfl
    | some ρ1 =>
      dsimp only
      show _ = (body ρ1).bind _
      refine congrArg _ (funext fun fl => ?_)
      cases fl <;> rfl
  · rfl
def conG (i : Nat) (ρ : List SD) : Option SD → Rs (Itm × List SD)
  | some (.sh d) => (itemsOf d).bind fun xs => .ok (⟨xs, []⟩, ρ)
  | some (.own xs) => .ok (⟨xs, []⟩, ρ.set i (.sh (.lst xs)))
  | some (.byr xs) => .ok (⟨xs, [(i, .byr xs)]⟩, ρ)
  | _ => .bad
@[simp] theorem conF_ap (i : Nat) (ρ : List SD) : conF i ρ = conG i ρ ρ[i]? := by
  unfold conF conG
  split <;> first | rfl | (split <;> first | rfl | simp_all)
@[simp] theorem conG_sh (i : Nat) (ρ : List SD) (d : D) : conG i ρ (some (.sh d)) = (itemsOf d).bind fun xs => .ok (⟨xs, []⟩, ρ) := (rfl)
@[simp] theorem conG_own (i : Nat) (ρ : List SD) (d : List D) : conG i ρ (some (.own d)) = .ok (⟨d, []⟩, ρ.set i (.sh (.lst d))) := (rfl)
@[simp] theorem conG_byr (i : Nat) (ρ : List SD) (d : List D) : conG i ρ (some (.byr d)) = .ok (⟨d, [(i, .byr d)]⟩, ρ) := (rfl)
@[simp] theorem forS_nil (st : Tg) (body : Ss) (ρ : List SD) (xs : List D) : forS st body ρ ⟨xs, []⟩ = forL st body xs ρ := (rfl)
@[simp] theorem sFor_ap (src : Src) (st : Tg) (body : Ss) (ρ : List SD) : sFor src st body ρ = (src ρ).bind fun p => forS st body p.2 p.1 := (rfl)
@[simp] theorem con_ex (f : Sx) (ρ : List SD) : con (.ex f) ρ = (f ρ).bind fun p => (itemsOf p.1.frz).bind fun xs => .ok (⟨xs, []⟩, p.2) := (rfl)
def conO (i : Nat) (ρ : List SD) : Option SD → Rs (Itm × List SD)
  | some (.sh d) => (itemsOf d).bind fun xs => .ok (⟨xs, []⟩, ρ)
  | some (.own xs) => .ok (⟨xs, [(i, .own xs)]⟩, ρ)
  | some (.byr xs) => .ok (⟨xs, [(i, .byr xs)]⟩, ρ)
  | _ => .bad
@[simp] theorem con_va (i : Nat) (ρ : List SD) : con (.va i) ρ = conO i ρ ρ[i]? := by
  unfold con conV conO
  split <;> first | rfl | (split <;> first | rfl | simp_all)
@[simp] theorem enumS_ap (src : Src) (ρ : List SD) : enumS src ρ = (src ρ).bind fun p => .ok (⟨enumD p.1.xs, p.1.bor⟩, p.2) := (rfl)
@[simp] theorem srcZip_ap (o o2 : LOp) (ρ : List SD) : srcZip o o2 ρ = (con o ρ).bind fun p => (con o2 p.2).bind fun q => if p.1.keep q.2 then .ok (⟨zipD p.1.xs q.1.xs, p.1.bor ++ q.1.bor⟩, q.2) else .bad := (rfl)
@[simp] theorem srcRng1_ap (fl : List LOp) (ρ : List SD) : srcRng1 fl ρ = (ops fl ρ).bind fun q => rng1 q.2 q.1 := (rfl)
@[simp] theorem srcRng2_ap (fl : List LOp) (ρ : List SD) : srcRng2 fl ρ = (ops fl ρ).bind fun q => rng2 q.2 q.1 := (rfl)
@[simp] theorem keep_nil (xs : List D) (ρ : List SD) : Itm.keep ⟨xs, []⟩ ρ ↔ True := ⟨fun _ => trivial, fun _ p hp => absurd hp (by simp)⟩
@[simp] theorem keep_cons (xs : List D) (i : Nat) (s : SD) (r : List (Nat × SD)) (ρ : List SD) : Itm.keep ⟨xs, (i, s) :: r⟩ ρ ↔ ρ[i]? = some s ∧ Itm.keep ⟨xs, r⟩ ρ := by
  unfold Itm.keep
  simp
/-- comprehensions -/
def lcBack (vs : List Nat) (ρ : List SD) : Rs (List D × List SD) → Rs (SD × List SD)
  | .ok (ds, ρ') => .ok (.own ds, backR ρ ρ' vs)
  | _ => .bad
noncomputable def lcGo (st : Tg) (test : Sb) (elt : Sx) (vs : List Nat) (m : Itm) (ρ : List SD) : Rs (SD × List SD) := if m.keep (wipeR ρ vs) ∧ (∀ b ∈ m.bor, b.1 ∉ vs) then lcBack vs ρ (lcL m st test elt vs m.xs (wipeR ρ vs)) else .bad
@[simp] theorem xLc_ap (src : Src) (st : Tg) (test : Sb) (elt : Sx) (vs : List Nat) (ρ : List SD) : xLc src st test elt vs ρ = (src ρ).bind fun p => lcGo st test elt vs p.1 p.2 := by
  unfold xLc lcGo
  refine congrArg _ (funext fun p => ?_)
  split
  · unfold lcBack
    rfl
  · rfl
noncomputable def lcElt (m : Itm) (vs : List Nat) (k : List SD → Rs (List D × List SD)) : Rs (SD × List SD) → Rs (List D × List SD)
  | .ok (r, ρ3) => if m.keep (wipeR ρ3 vs) then (k (wipeR ρ3 vs)).bind fun q => .ok (r.frz :: q.1, q.2) else .bad
  | _ => .bad
noncomputable def lcTest (m : Itm) (elt : Sx) (vs : List Nat) (k : List SD → Rs (List D × List SD)) : Rs (Bool × List SD) → Rs (List D × List SD)
  | .ok (true, ρ2) => lcElt m vs k (elt ρ2)
  | .ok (false, ρ2) => if m.keep (wipeR ρ2 vs) then k (wipeR ρ2 vs) else .bad
  | _ => .bad
noncomputable def lcTg (m : Itm) (test : Sb) (elt : Sx) (vs : List Nat) (k : List SD → Rs (List D × List SD)) : Option (List SD) → Rs (List D × List SD)
  | some ρ1 => lcTest m elt vs k (test ρ1)
  | none => .bad
@[simp] theorem lcL_nil (m : Itm) (st : Tg) (test : Sb) (elt : Sx) (vs : List Nat) (ρ : List SD) : lcL m st test elt vs [] ρ = .ok ([], ρ) := (rfl)
@[simp] theorem lcL_cons (m : Itm) (st : Tg) (test : Sb) (elt : Sx) (vs : List Nat) (d : D) (ds : List D) (ρ : List SD) : lcL m st test elt vs (d :: ds) ρ = lcTg m test elt vs (lcL m st test elt vs ds) (st d ρ) := by
  rw [lcL]
  cases st d ρ with
  | none => rfl
  | some ρ1 =>
    dsimp only
    show _ = lcTest m elt vs _ (test ρ1)
    cases test ρ1 with
    | bad => rfl
    | exc c fs ρ => rfl
    | ok p =>
      obtain ⟨b, ρ2⟩ := p
      cases b with
      | false => rfl
      | true =>
        show _ = lcElt m vs _ (elt ρ2)
        dsimp only
        cases elt ρ2 with
        | bad => rfl
        | exc c fs ρ => rfl
        | ok q => rfl
/-- a comprehension whose turns are plain: one list, the state as it is but for the well -/
theorem lc_plain {m : Itm} {st : Tg} {test : Sb} {elt : Sx} {vs : List Nat} {ρ : List SD} {f : D → D} : ∀ {ds : List D}, (∀ d ∈ ds, ∃ ρ1 ρ2 r, st d ρ = some ρ1 ∧ test ρ1 = .ok (true, ρ1) ∧ elt ρ1 = .ok (r, ρ2) ∧ r.frz = f d ∧ wipeR ρ2 vs = ρ) → m.keep ρ →
    lcL m st test elt vs ds ρ = .ok (ds.map f, ρ)
  | [], _, _ => rfl
  | d :: ds, h, hk => by
    obtain ⟨ρ1, ρ2, r, h1, h2, h3, h4, h5⟩ := h d (by simp)
    rw [lcL_cons, h1]
    show lcTest m elt vs _ (test ρ1) = _
    rw [h2]
    show lcElt m vs _ (elt ρ1) = _
    rw [h3]
    show (if m.keep (wipeR ρ2 vs) then _ else _) = _
    rw [h5, if_pos hk, lc_plain (fun d hd => h d (List.mem_cons_of_mem _ hd)) hk]
    show Rs.ok (r.frz :: _, _) = _
    rw [h4]
    rfl
end Wm
end

section
/-! The end of a law: its def's promise, at the script. -/
namespace Wm
open PySem PySem.Spec PyProof.Rows L2
theorem law_sp {K : PySem.W.Frag} {cl : Cl} {F : Fn} {H : Hp} {a : Addr} {ns : List Int} (hl : ns.length ≤ 63) (hS : SqL K H a (ns.map V.int)) (hT : KT (gk K cl) [] H) (hF : ∃ ρ, F [.sh (.scr ns)] = .ok (.sh (.bl true), ρ)) :
    spF (gk K cl) 1 F [.ref a] H (fun v _ => v = .bl true) fun _ _ _ => False := by
  obtain ⟨ρ, e⟩ := hF
  refine ⟨rfl, [], [], [.sh (.scr ns)], ⟨⟨fun _ h => h, fun _ h => absurd h (by simp)⟩, rfl, fun i s h => ?_, fun i j s t b h1 h2 m1 m2 _ _ => ?_, hT⟩, ?_⟩
  · match i, h with
    | 0, h =>
      cases h
      refine ⟨.ref a, rfl, ?_⟩
      simp only [Rp]
      refine ⟨a, rfl, ?_, ?_⟩
      · rw [List.length_map]
        exact Nat.le_trans hl (by decide)
      · rcases hS with h | h
        · exact .inl ⟨h, by simp⟩
        · exact .inr h
    | i + 1, h => cases h
  · match i, h1 with
    | 0, h1 => cases h1; cases m1
    | i + 1, h1 => cases h1
  · rw [e]
    intro v O' W' H' _ _ r
    exact r
theorem law_cx {P : Program} {w : World} (H : Hp) (s : Shared) (e : Value) (s' : Shared) (h : L2.CX P w [] H s (fun _ _ _ => False) e s') : False := by
  obtain ⟨_, _, _, _, _, _, _, _, _, _, _, _, z⟩ := h
  exact z
end Wm
end

section
/-! Evaluation, the words that simp takes. -/
namespace Wm
open PySem PySem.Spec PyProof.Rows L2
variable {α β : Type}
@[simp] theorem bind_ok (a : α) (f : α → Rs β) : (Rs.ok a).bind f = f a := (rfl)
@[simp] theorem leave_rt (n : Nat) (r : SD) (ρ : List SD) : Rs.leave n (.ok (.rt r ρ)) = .ok (r, trim n ρ) := (rfl)
@[simp] theorem leave_nx (n : Nat) (ρ : List SD) : Rs.leave n (.ok (.nx ρ)) = .ok (.sh .non, trim n ρ) := (rfl)
@[simp] theorem home_ok (ps : List (SD × Option Nat)) (ρ : List SD) (r : SD) (as : List SD) : Rs.home ps ρ (.ok (r, as)) = .ok (r, backAll ps as ρ) := (rfl)
@[simp] theorem homeT_ok (ρ : List SD) (r : SD) (as : List SD) : Rs.homeT ρ (.ok (r, as)) = .ok (r, ρ) := (rfl)
@[simp] theorem ownArg_own (F : Fn) (ρ : List SD) (xs : List D) : ownArg F ρ (.own xs) = (F [.byr xs]).homeT ρ := (rfl)
@[simp] theorem next_nx (h : Ss) (ρ : List SD) : Fl.next h (.nx ρ) = h ρ := (rfl)
@[simp] theorem next_rt (h : Ss) (r : SD) (ρ : List SD) : Fl.next h (.rt r ρ) = .ok (.rt r ρ) := (rfl)
@[simp] theorem turn_nx (k : List SD → Rs Fl) (ρ : List SD) : Fl.turn k (.nx ρ) = k ρ := (rfl)
@[simp] theorem turn_rt (k : List SD → Rs Fl) (r : SD) (ρ : List SD) : Fl.turn k (.rt r ρ) = .ok (.rt r ρ) := (rfl)
@[simp] theorem retV_sh (i : Nat) (ρ : List SD) (d : D) : retV i ρ (some (.sh d)) = .ok (.rt (.sh d) ρ) := (rfl)
@[simp] theorem retV_own (i : Nat) (ρ : List SD) (d : List D) : retV i ρ (some (.own d)) = .ok (.rt (.own d) (ρ.set i .no)) := (rfl)
@[simp] theorem varV_sh (i : Nat) (ρ : List SD) (d : D) : varV i ρ (some (.sh d)) = .ok (.sh d, ρ) := (rfl)
@[simp] theorem varV_own (i : Nat) (ρ : List SD) (d : List D) : varV i ρ (some (.own d)) = .ok (.sh (.lst d), ρ.set i (.sh (.lst d))) := (rfl)
@[simp] theorem varV_byr (i : Nat) (ρ : List SD) (d : List D) : varV i ρ (some (.byr d)) = .ok (.sh (.lst d), ρ.set i (.sh (.lst d))) := (rfl)
@[simp] theorem lookO_sh (d : D) : lookO (some (.sh d)) = .ok d := (rfl)
@[simp] theorem lookO_own (d : List D) : lookO (some (.own d)) = .ok (.lst d) := (rfl)
@[simp] theorem lookO_byr (d : List D) : lookO (some (.byr d)) = .ok (.lst d) := (rfl)
@[simp] theorem argO_sh (d : D) : argO (some (.sh d)) = .ok (.sh d) := (rfl)
@[simp] theorem argO_own (d : List D) : argO (some (.own d)) = .ok (.byr d) := (rfl)
@[simp] theorem argO_byr (d : List D) : argO (some (.byr d)) = .ok (.byr d) := (rfl)
@[simp] theorem ownO_own (d : List D) : ownO (some (.own d)) = .ok d := (rfl)
@[simp] theorem ownO_byr (d : List D) : ownO (some (.byr d)) = .ok d := (rfl)
@[simp] theorem ownP_own (ρ : List SD) (i : Nat) (xs d : List D) : ownP ρ i xs (some (.own d)) = ρ.set i (.own xs) := (rfl)
@[simp] theorem ownP_byr (ρ : List SD) (i : Nat) (xs d : List D) : ownP ρ i xs (some (.byr d)) = ρ.set i (.byr xs) := (rfl)
@[simp] theorem putO_some (ρ : List SD) (i : Nat) (ys : List D) : putO ρ i (some ys) = .ok (.nx (ownSet ρ i ys)) := (rfl)
@[simp] theorem storeL_one (x : Nat) (d k : D) (ρ : List SD) : storeL x d ρ [k] = storeD ρ x k d := (rfl)
@[simp] theorem conO_sh (i : Nat) (ρ : List SD) (d : D) : conO i ρ (some (.sh d)) = (itemsOf d).bind fun xs => .ok (⟨xs, []⟩, ρ) := (rfl)
@[simp] theorem conO_own (i : Nat) (ρ : List SD) (d : List D) : conO i ρ (some (.own d)) = .ok (⟨d, [(i, .own d)]⟩, ρ) := (rfl)
@[simp] theorem conO_byr (i : Nat) (ρ : List SD) (d : List D) : conO i ρ (some (.byr d)) = .ok (⟨d, [(i, .byr d)]⟩, ρ) := (rfl)
@[simp] theorem items_lst (xs : List D) : itemsOf (.lst xs) = .ok xs := (rfl)
@[simp] theorem items_tup (xs : List D) : itemsOf (.tup xs) = .ok xs := (rfl)
@[simp] theorem frz_sh (d : D) : (SD.sh d).frz = d := (rfl)
@[simp] theorem frz_own (d : List D) : (SD.own d).frz = .lst d := (rfl)
@[simp] theorem fin_sh (ρ : List SD) (d : D) : Rs.fin ρ (.ok (.sh d)) = .ok (.sh d, ρ) := (rfl)
@[simp] theorem fin_own (ρ : List SD) (d : List D) : Rs.fin ρ (.ok (.own d)) = .ok (.own d, ρ) := (rfl)
@[simp] theorem fin_bad (ρ : List SD) : Rs.fin ρ .bad = .bad := (rfl)
@[simp] theorem tst_ok (b : Bool) (ρ : List SD) : Rs.tst (.ok (.sh (.bl b), ρ)) = .ok (b, ρ) := (rfl)
@[simp] theorem par2_two (i j : Nat) (ρ : List SD) (d e : D) : par2 i j ρ [d, e] = .ok (.nx ((ρ.set i (.sh d)).set j (.sh e))) := (rfl)
@[simp] theorem forT_some (body : Ss) (k : List SD → Rs Fl) (ρ : List SD) : forT body k (some ρ) = (body ρ).bind (Fl.turn k) := (rfl)
@[simp] theorem stN_ap (i : Nat) (d : D) (ρ : List SD) : stN i d ρ = some (ρ.set i (.sh d)) := (rfl)
@[simp] theorem stT_ap (is : List Nat) (ds : List D) (ρ : List SD) : stT is (.tup ds) ρ = setO is ds ρ := (rfl)
@[simp] theorem setO_nil (ρ : List SD) : setO [] [] ρ = some ρ := (rfl)
@[simp] theorem setO_cons (i : Nat) (is : List Nat) (d : D) (ds : List D) (ρ : List SD) : setO (i :: is) (d :: ds) ρ = setO is ds (ρ.set i (.sh d)) := (rfl)
@[simp] theorem tupD_tup (is : List Nat) (ρ : List SD) (ds : List D) : tupD is ρ (.sh (.tup ds)) = (setAll is ds ρ).bind fun ρ' => .ok (.nx ρ') := (rfl)
@[simp] theorem bYes_ap (ρ : List SD) : bYes ρ = .ok (true, ρ) := (rfl)
@[simp] theorem wipeR_nil (ρ : List SD) : wipeR ρ [] = ρ := (rfl)
@[simp] theorem wipeR_cons (ρ : List SD) (v : Nat) (vs : List Nat) : wipeR ρ (v :: vs) = (wipeR ρ vs).set v .no := (rfl)
@[simp] theorem backR_nil (ρ ρ' : List SD) : backR ρ ρ' [] = ρ' := (rfl)
@[simp] theorem backR_cons (ρ ρ' : List SD) (v : Nat) (vs : List Nat) : backR ρ ρ' (v :: vs) = (backR ρ ρ' vs).set v (keptSD ρ[v]?) := (rfl)
@[simp] theorem kept_sh (d : D) : keptSD (some (.sh d)) = .sh d := (rfl)
@[simp] theorem kept_no : keptSD (some .no) = .no := (rfl)
@[simp] theorem kept_own (xs : List D) : keptSD (some (.own xs)) = .no := (rfl)
@[simp] theorem lcBack_ok (vs : List Nat) (ρ : List SD) (ds : List D) (ρ' : List SD) : lcBack vs ρ (.ok (ds, ρ')) = .ok (.own ds, backR ρ ρ' vs) := (rfl)
@[simp] theorem trim_ap0 (ρ : List SD) : trim 0 ρ = [] := (rfl)
@[simp] theorem trim_ap1 (ρ : List SD) : trim 1 ρ = [trim1 (ρ[0]?.getD .no)] := (rfl)
@[simp] theorem trim_ap2 (ρ : List SD) : trim 2 ρ = [trim1 (ρ[0]?.getD .no), trim1 (ρ[1]?.getD .no)] := (rfl)
@[simp] theorem trim_ap3 (ρ : List SD) : trim 3 ρ = [trim1 (ρ[0]?.getD .no), trim1 (ρ[1]?.getD .no), trim1 (ρ[2]?.getD .no)] := (rfl)
@[simp] theorem trim1_byr (xs : List D) : trim1 (.byr xs) = .byr xs := (rfl)
@[simp] theorem trim1_own (xs : List D) : trim1 (.own xs) = .no := (rfl)
@[simp] theorem trim1_sh (d : D) : trim1 (.sh d) = .no := (rfl)
@[simp] theorem trim1_no : trim1 .no = .no := (rfl)
@[simp] theorem pI0_ev (g : Int → Int → D) (i j : Int) : pI0 g [.int i, .int j] = .ok (.sh (g i j)) := (rfl)
@[simp] theorem pI2_ev (C : Int → Int → Prop) [∀ i j, Decidable (C i j)] (g : Int → Int → D) (i j : Int) : pI2 C g [.int i, .int j] = if C i j then .ok (.sh (g i j)) else .bad := (rfl)
@[simp] theorem pAdd_int (i j : Int) : pAdd [.int i, .int j] = .ok (.sh (.int (i + j))) := (rfl)
@[simp] theorem pNeg_ev (i : Int) : pNeg [.int i] = .ok (.sh (.int (-i))) := (rfl)
@[simp] theorem cmd_iff (i j : Int) : CMd i j ↔ j ≠ 0 := Iff.rfl
/-! ### reading, writing -/
def ixO : Option D → Rs SD
  | some d => .ok (.sh d)
  | none => .bad
@[simp] theorem ixO_some (d : D) : ixO (some d) = .ok (.sh d) := (rfl)
@[simp] theorem pIx_lst (xs : List D) (i : Int) : pIx [.lst xs, .int i] = ixO (atI xs i) := by
  show (match atI xs i with | some d => _ | none => _) = _
  cases atI xs i <;> rfl
@[simp] theorem pIx_tup (xs : List D) (i : Int) : pIx [.tup xs, .int i] = ixO (atI xs i) := by
  show (match atI xs i with | some d => _ | none => _) = _
  cases atI xs i <;> rfl
theorem atI_ofNat (xs : List D) (k : Nat) (h : k < xs.length) : atI xs (k : Int) = xs[k]? := by
  unfold atI ixN
  rw [if_pos (by omega), if_pos (by omega)]
  simp
theorem atI_at (xs : List D) (i : Int) (d : D) (h0 : 0 ≤ i) (h : xs[i.toNat]? = some d) : atI xs i = some d := by
  have hl := (List.getElem?_eq_some_iff.mp h).1
  unfold atI ixN
  rw [if_pos h0, if_pos (by omega)]
  simpa using h
@[simp] theorem atI_0 (a : D) (r : List D) : atI (a :: r) 0 = some a := atI_at _ _ _ (by omega) rfl
@[simp] theorem atI_1 (a b : D) (r : List D) : atI (a :: b :: r) 1 = some b := atI_at _ _ _ (by omega) rfl
@[simp] theorem atI_2 (a b c : D) (r : List D) : atI (a :: b :: c :: r) 2 = some c := atI_at _ _ _ (by omega) rfl
theorem setAt_at (xs : List D) (i : Int) (d : D) (h0 : 0 ≤ i) (h : i.toNat < xs.length) : setAt xs i d = some (xs.set i.toNat d) := by
  unfold setAt ixN
  rw [if_pos h0, if_pos (by omega)]
  rfl
@[simp] theorem setAt_0 (a d : D) (r : List D) : setAt (a :: r) 0 d = some (d :: r) := setAt_at _ _ _ (by omega) (by simp)
@[simp] theorem setAt_1 (a b d : D) (r : List D) : setAt (a :: b :: r) 1 d = some (a :: d :: r) := setAt_at _ _ _ (by omega) (by simp)
@[simp] theorem setAt_2 (a b c d : D) (r : List D) : setAt (a :: b :: c :: r) 2 d = some (a :: b :: d :: r) := setAt_at _ _ _ (by omega) (by simp)
theorem pMul_int {i j : Int} (h : IntMulOk i j) : pMul [.int i, .int j] = .ok (.sh (.int (i * j))) := by
  show (if IntMulOk i j then _ else _) = _
  rw [if_pos h]
/-- products of small numbers -/
def Sml (b : Nat) (i : Int) : Prop := i.natAbs < 2 ^ b
theorem mul_ok {i j : Int} {b c : Nat} (hi : Sml b i) (hj : Sml c j) (hb : b ≤ 1000) (hc : c ≤ 1000) : IntMulOk i j := IntMulOk.of_bits (Nat.le_trans (intBits_le_iff.mpr hi) (Nat.le_trans hb (by decide))) (Nat.le_trans (intBits_le_iff.mpr hj) (Nat.le_trans hc (by decide)))
theorem mul_okL {i j : Int} (hi : i.natAbs < 2 ^ 64) : IntMulOk i j := IntMulOk.of_left (intBits_le_iff.mpr hi)
theorem mul_okR {i j : Int} (hj : j.natAbs < 2 ^ 64) : IntMulOk i j := IntMulOk.of_right (intBits_le_iff.mpr hj)
theorem cdv_small {i j : Int} (h : j ≠ 0) (hj : j.natAbs < 2 ^ 64) : CDv i j := ⟨h, (Nat.log2_lt (by omega)).mpr (Nat.lt_of_lt_of_le hj (Nat.pow_le_pow_right (by omega) (by omega)))⟩
end Wm
end

section
/-! Evaluation of blocks over lists that are not told item by item. -/
namespace Wm
open PySem PySem.Spec PyProof.Rows L2
variable {S : Type} {m : Itm} {st : Tg} {test : Sb} {elt : Sx} {vs : List Nat}
@[simp] theorem lcTg_some (k : List SD → Rs (List D × List SD)) (ρ : List SD) : lcTg m test elt vs k (some ρ) = lcTest m elt vs k (test ρ) := (rfl)
@[simp] theorem lcTest_true (k : List SD → Rs (List D × List SD)) (ρ : List SD) : lcTest m elt vs k (.ok (true, ρ)) = lcElt m vs k (elt ρ) := (rfl)
@[simp] theorem lcTest_false (k : List SD → Rs (List D × List SD)) (ρ : List SD) : lcTest m elt vs k (.ok (false, ρ)) = if m.keep (wipeR ρ vs) then k (wipeR ρ vs) else .bad := (rfl)
@[simp] theorem lcElt_ok (k : List SD → Rs (List D × List SD)) (r : SD) (ρ : List SD) : lcElt m vs k (.ok (r, ρ)) = if m.keep (wipeR ρ vs) then (k (wipeR ρ vs)).bind fun q => .ok (r.frz :: q.1, q.2) else .bad := (rfl)
@[simp] theorem lcGo_ap (m : Itm) (ρ : List SD) : lcGo st test elt vs m ρ = if m.keep (wipeR ρ vs) ∧ (∀ b ∈ m.bor, b.1 ∉ vs) then lcBack vs ρ (lcL m st test elt vs m.xs (wipeR ρ vs)) else .bad := (rfl)
/-- each turn gives a thing and goes on -/
theorem lc_ex {P : D → D → Prop} (R : S → List SD) : ∀ {ds : List D}, (∀ s, ∀ d ∈ ds, ∃ v s', P d v ∧ ∀ k, lcTg m test elt vs k (st d (R s)) = (k (R s')).bind fun q => .ok (v :: q.1, q.2)) → ∀ s, ∃ ws s', lcL m st test elt vs ds (R s) = .ok (ws, R s') ∧ ws.length = ds.length ∧ ∀ (i : Nat) d v, ds[i]? = some d → ws[i]? = some v → P d v
  | [], _, s => ⟨[], s, rfl, rfl, fun i d v h => by simp at h⟩
  | d :: ds, h, s => by
    obtain ⟨v, s1, hp, e⟩ := h s d (by simp)
    obtain ⟨ws, s2, e2, hl, hw⟩ := lc_ex R (ds := ds) (fun s d hd => h s d (List.mem_cons_of_mem _ hd)) s1
    refine ⟨v :: ws, s2, ?_, by simp [hl], fun i d' v' h1 h2 => ?_⟩
    · rw [lcL_cons, e, e2]
      rfl
    · cases i with
      | zero => simp at h1 h2; subst h1 h2; exact hp
      | succ i => exact hw i d' v' (by simpa using h1) (by simpa using h2)
/-- no state: each turn gives f of its item -/
theorem lc_map {f : D → D} {ρ : List SD} : ∀ {ds : List D}, (∀ d ∈ ds, ∀ k, lcTg m test elt vs k (st d ρ) = (k ρ).bind fun q => .ok (f d :: q.1, q.2)) → lcL m st test elt vs ds ρ = .ok (ds.map f, ρ)
  | [], _ => rfl
  | d :: ds, h => by
    rw [lcL_cons, h d (by simp), lc_map fun d hd => h d (List.mem_cons_of_mem _ hd)]
    rfl
/-- a loop that goes through -/
theorem for_inv {body : Ss} (I : List D → List SD → Prop) : ∀ {ds : List D}, (∀ d ds ρ, I (d :: ds) ρ → ∃ ρ', I ds ρ' ∧ ∀ k, forT body k (st d ρ) = k ρ') → ∀ {ρ : List SD}, I ds ρ → ∃ ρ', I [] ρ' ∧ forL st body ds ρ = .ok (.nx ρ')
  | [], _, ρ, h => ⟨ρ, h, rfl⟩
  | d :: ds, h, ρ, hi => by
    obtain ⟨ρ1, h1, e1⟩ := h d ds ρ hi
    obtain ⟨ρ2, h2, e2⟩ := for_inv I (ds := ds) h h1
    exact ⟨ρ2, h2, by rw [forL_cons, e1, e2]⟩
@[simp] theorem rng1_ev (ρ : List SD) (j : Int) : rng1 ρ [.int j] = if rngOk j ∧ j.toNat ≤ sizeLine then .ok (⟨rangeD 0 j.toNat, []⟩, ρ) else .bad := (rfl)
@[simp] theorem rng2_ev (ρ : List SD) (i j : Int) : rng2 ρ [.int i, .int j] = if rngOk i ∧ rngOk j ∧ (j - i).toNat ≤ sizeLine then .ok (⟨rangeD i (j - i).toNat, []⟩, ρ) else .bad := (rfl)
theorem rngOk_nat (n : Nat) (h : n < 2 ^ 62) : rngOk (n : Int) := ⟨by omega, by omega⟩
theorem rangeD_len (lo : Int) (n : Nat) : (rangeD lo n).length = n := by simp [rangeD]
theorem rangeD_get {lo : Int} {n i : Nat} (h : i < n) : (rangeD lo n)[i]? = some (.int (lo + i)) := by
  unfold rangeD
  rw [List.getElem?_map, List.getElem?_range h]
  rfl
theorem rangeD_mem {lo : Int} {n : Nat} {d : D} (h : d ∈ rangeD lo n) : ∃ i, i < n ∧ d = .int (lo + (i : Nat)) := by
  unfold rangeD at h
  obtain ⟨i, hi, rfl⟩ := List.mem_map.mp h
  exact ⟨i, List.mem_range.mp hi, rfl⟩
@[simp] theorem pList_lst (xs : List D) : pList [.lst xs] = .ok (.own xs) := (rfl)
@[simp] theorem pTuple_lst (xs : List D) : pTuple [.lst xs] = .ok (.sh (.tup xs)) := (rfl)
@[simp] theorem pTuple_tup (xs : List D) : pTuple [.tup xs] = .ok (.sh (.tup xs)) := (rfl)
@[simp] theorem pInt_int (i : Int) : pInt [.int i] = .ok (.sh (.int i)) := (rfl)
@[simp] theorem pInt_bl (b : Bool) : pInt [.bl b] = .ok (.sh (.int (if b then 1 else 0))) := (rfl)
@[simp] theorem pLen_lst (xs : List D) : pLen [.lst xs] = .ok (.sh (.int xs.length)) := (rfl)
@[simp] theorem pLen_tup (xs : List D) : pLen [.tup xs] = .ok (.sh (.int xs.length)) := (rfl)
@[simp] theorem pEq_ev (x y : D) : pEq [x, y] = if okD x && okD y then .ok (.sh (.bl (eqD x y))) else .bad := (rfl)
@[simp] theorem pNe_ev (x y : D) : pNe [x, y] = if okD x && okD y then .ok (.sh (.bl (!eqD x y))) else .bad := (rfl)
@[simp] theorem okN_int (n : Nat) (i : Int) : okN n (.int i) = true := by cases n <;> rfl
@[simp] theorem okN_bl (n : Nat) (i : Bool) : okN n (.bl i) = true := by cases n <;> rfl
@[simp] theorem okN_non (n : Nat) : okN n .non = true := by cases n <;> rfl
@[simp] theorem okN_tup (n : Nat) (xs : List D) : okN (n + 1) (.tup xs) = okNs n xs := (rfl)
@[simp] theorem okN_lst (n : Nat) (xs : List D) : okN (n + 1) (.lst xs) = okNs n xs := (rfl)
@[simp] theorem okNs_nil (n : Nat) : okNs n [] = true := by cases n <;> rfl
@[simp] theorem okNs_cons (n : Nat) (x : D) (xs : List D) : okNs n (x :: xs) = (okN n x && okNs n xs) := by cases n <;> rfl
@[simp] theorem eqD_int (i j : Int) : eqD (.int i) (.int j) = (i == j) := (rfl)
@[simp] theorem eqD_lst (xs ys : List D) : eqD (.lst xs) (.lst ys) = eqDs xs ys := (rfl)
@[simp] theorem eqD_tup (xs ys : List D) : eqD (.tup xs) (.tup ys) = eqDs xs ys := (rfl)
@[simp] theorem eqDs_nil : eqDs [] [] = true := (rfl)
@[simp] theorem eqDs_cons (x y : D) (xs ys : List D) : eqDs (x :: xs) (y :: ys) = (eqD x y && eqDs xs ys) := (rfl)
@[simp] theorem eqDs_nil_cons (y : D) (ys : List D) : eqDs [] (y :: ys) = false := (rfl)
@[simp] theorem eqDs_cons_nil (y : D) (ys : List D) : eqDs (y :: ys) [] = false := (rfl)
@[simp] theorem lent_nil : lent [] = [] := (rfl)
@[simp] theorem lent_byr (xs : List D) (i : Nat) (r : List (SD × Option Nat)) : lent ((.byr xs, some i) :: r) = i :: lent r := (rfl)
@[simp] theorem lent_sh (d : D) (o : Option Nat) (r : List (SD × Option Nat)) : lent ((.sh d, o) :: r) = lent r := (rfl)
@[simp] theorem back_nil (as ρ : List SD) : backAll [] as ρ = ρ := (rfl)
@[simp] theorem back_byr (xs : List D) (i : Nat) (r : List (SD × Option Nat)) (s : SD) (ss ρ : List SD) : backAll ((.byr xs, some i) :: r) (s :: ss) ρ = (backAll r ss ρ).set i (backS (ρ[i]?.getD .no) s) := (rfl)
@[simp] theorem back_sh (d : D) (o : Option Nat) (r : List (SD × Option Nat)) (s : SD) (ss ρ : List SD) : backAll ((.sh d, o) :: r) (s :: ss) ρ = backAll r ss ρ := (rfl)
@[simp] theorem backS_own (xs ys : List D) : backS (.own xs) (.byr ys) = .own ys := (rfl)
@[simp] theorem backS_byr (xs ys : List D) : backS (.byr xs) (.byr ys) = .byr ys := (rfl)
@[simp] theorem setAll_nil (ρ : List SD) : setAll [] [] ρ = .ok ρ := (rfl)
@[simp] theorem setAll_cons (i : Nat) (is : List Nat) (d : D) (ds : List D) (ρ : List SD) : setAll (i :: is) (d :: ds) ρ = setAll is ds (ρ.set i (.sh d)) := (rfl)
@[simp] theorem pAdd_tup (xs ys : List D) : pAdd [.tup xs, .tup ys] = if xs.length + ys.length ≤ sizeLine then .ok (.sh (.tup (xs ++ ys))) else .bad := (rfl)
@[simp] theorem pAdd_lst (xs ys : List D) : pAdd [.lst xs, .lst ys] = if xs.length + ys.length ≤ sizeLine then .ok (.own (xs ++ ys)) else .bad := (rfl)
@[simp] theorem pAdd_scr (ns : List Int) (ys : List D) : pAdd [.scr ns, .lst ys] = if ns.length + ys.length ≤ sizeLine then .ok (.own (ns.map .int ++ ys)) else .bad := (rfl)
@[simp] theorem isi_ev (t : BT) (d : D) : pIsi t [d] = match isB t d with | some b => .ok (.sh (.bl b)) | none => .bad := (rfl)
end Wm
end

section
namespace Wm
open PySem PySem.Spec PyProof.Rows L2
variable {α : Type}
theorem cut_lo (xs : List α) (i : Int) (h : 0 ≤ i) : cutL xs (some i) none = xs.drop i.toNat := by
  unfold cutL HT.sIx
  dsimp only
  rw [if_neg (by omega)]
  apply List.ext_getElem?
  intro k
  rw [List.getElem?_take]
  split
  · rename_i hk
    rw [List.getElem?_drop, List.getElem?_drop]
    by_cases h2 : i.toNat ≤ xs.length
    · rw [Nat.min_eq_left h2]
    · rw [Nat.min_eq_right (by omega)] at hk ⊢
      omega
  · rename_i hk
    rw [List.getElem?_drop]
    symm
    apply List.getElem?_eq_none
    by_cases h2 : i.toNat ≤ xs.length
    · rw [Nat.min_eq_left h2] at hk; omega
    · omega
theorem cut_hi (xs : List α) (i : Int) (h : 0 ≤ i) : cutL xs none (some i) = xs.take i.toNat := by
  unfold cutL HT.sIx
  dsimp only
  rw [if_neg (by omega), List.drop_zero, Nat.sub_zero]
  by_cases h2 : i.toNat ≤ xs.length
  · rw [Nat.min_eq_left h2]
  · rw [Nat.min_eq_right (by omega), List.take_of_length_le (Nat.le_refl _), List.take_of_length_le (by omega)]
theorem slLo_lst (xs : List D) (i : Int) (h : 0 ≤ i) : pSlLo [.lst xs, .int i] = .ok (.own (xs.drop i.toNat)) := by
  show Rs.ok (SD.own (cutL xs (some i) none)) = _
  rw [cut_lo xs i h]
theorem slLo_tup (xs : List D) (i : Int) (h : 0 ≤ i) : pSlLo [.tup xs, .int i] = .ok (.sh (.tup (xs.drop i.toNat))) := by
  show Rs.ok (SD.sh (.tup (cutL xs (some i) none))) = _
  rw [cut_lo xs i h]
theorem slHi_lst (xs : List D) (i : Int) (h : 0 ≤ i) : pSlHi [.lst xs, .int i] = .ok (.own (xs.take i.toNat)) := by
  show Rs.ok (SD.own (cutL xs none (some i))) = _
  rw [cut_hi xs i h]
theorem slHi_tup (xs : List D) (i : Int) (h : 0 ≤ i) : pSlHi [.tup xs, .int i] = .ok (.sh (.tup (xs.take i.toNat))) := by
  show Rs.ok (SD.sh (.tup (cutL xs none (some i)))) = _
  rw [cut_hi xs i h]
@[simp] theorem rangeD_0 (n : Nat) : rangeD 0 n = (List.range n).map fun (k : Nat) => D.int k := by
  unfold rangeD
  exact List.map_congr_left fun k _ => by rw [Int.zero_add]
section
variable {S : Type} {m : Itm} {st : Tg} {test : Sb} {elt : Sx} {vs : List Nat}
theorem lc_rg {n : Nat} {g f : Nat → D} {ρ : List SD} (h : ∀ j, j < n → ∀ k, lcTg m test elt vs k (st (g j) ρ) = (k ρ).bind fun q => .ok (f j :: q.1, q.2)) : lcL m st test elt vs ((List.range n).map g) ρ = .ok ((List.range n).map f, ρ) := by
  have key : ∀ (l : List Nat), (∀ j ∈ l, j < n) → lcL m st test elt vs (l.map g) ρ = .ok (l.map f, ρ) := by
    intro l
    induction l with
    | nil => intro _; rfl
    | cons j l ih =>
      intro hl
      rw [List.map_cons, lcL_cons, h j (hl j (by simp)), ih fun i hi => hl i (List.mem_cons_of_mem _ hi)]
      rfl
  exact key _ fun j hj => List.mem_range.mp hj
theorem lc_use {P : D → D → Prop} {ds : List D} {ρ : List SD} {L : Rs (List D × List SD)} (hL : lcL m st test elt vs ds ρ = L) (R : S → List SD) (s : S) (hρ : ρ = R s)
    (h : ∀ s, ∀ d ∈ ds, ∃ v s', P d v ∧ ∀ k, lcTg m test elt vs k (st d (R s)) = (k (R s')).bind fun q => .ok (v :: q.1, q.2)) : ∃ ws s', L = .ok (ws, R s') ∧ ws.length = ds.length ∧ ∀ (i : Nat) d v, ds[i]? = some d → ws[i]? = some v → P d v := by
  subst hρ
  obtain ⟨ws, s', e, hl, hp⟩ := lc_ex R h s
  exact ⟨ws, s', hL.symm.trans e, hl, hp⟩
theorem for_use {body : Ss} {ds : List D} {ρ : List SD} {L : Rs Fl} (hL : forL st body ds ρ = L) (I : List D → List SD → Prop) (h0 : I ds ρ) (h : ∀ d ds ρ, I (d :: ds) ρ → ∃ ρ', I ds ρ' ∧ ∀ k, forT body k (st d ρ) = k ρ') : ∃ ρ', I [] ρ' ∧ L = .ok (.nx ρ') := by
  obtain ⟨ρ', h1, e⟩ := for_inv I h h0
  exact ⟨ρ', h1, hL.symm.trans e⟩
end
/-! ### rows and grids -/
def rw (m : Nat) (f : Nat → Int) : D := .tup ((List.range m).map fun j => .int (f j))
def gr (m : Nat) (A : Nat → Nat → Int) : List D := (List.range m).map fun i => rw m (A i)
theorem gr_len (m : Nat) (A : Nat → Nat → Int) : (gr m A).length = m := by simp [gr]
theorem gr_get {m i : Nat} {A : Nat → Nat → Int} (h : i < m) : (gr m A)[i]? = some (rw m (A i)) := by
  unfold gr
  rw [List.getElem?_map, List.getElem?_range h]
  rfl
theorem rg_get {α : Type} {m j : Nat} {f : Nat → α} (h : j < m) : ((List.range m).map f)[j]? = some (f j) := by
  rw [List.getElem?_map, List.getElem?_range h]
  rfl
theorem rw_congr {m : Nat} {f g : Nat → Int} (h : ∀ j, j < m → f j = g j) : rw m f = rw m g := by
  unfold rw
  congr 1
  exact List.map_congr_left fun j hj => by rw [h j (List.mem_range.mp hj)]
theorem gr_congr {m : Nat} {A B : Nat → Nat → Int} (h : ∀ i j, i < m → j < m → A i j = B i j) : gr m A = gr m B := by
  unfold gr
  exact List.map_congr_left fun i hi => rw_congr fun j hj => h i j (List.mem_range.mp hi) hj
/-- a list of as many as there are, told place by place -/
theorem rg_of {α : Type} {m : Nat} {xs : List α} {f : Nat → α} (hl : xs.length = m) (h : ∀ i, i < m → xs[i]? = some (f i)) : xs = (List.range m).map f := by
  apply List.ext_getElem?
  intro i
  by_cases hi : i < m
  · rw [h i hi, rg_get hi]
  · rw [List.getElem?_eq_none (by omega), List.getElem?_eq_none (by simp; omega)]
def RowOk (m b : Nat) (d : D) : Prop := ∃ f : Nat → Int, d = rw m f ∧ ∀ j, j < m → (f j).natAbs ≤ b
def GrOk (m b : Nat) (xs : List D) : Prop := xs.length = m ∧ ∀ x ∈ xs, RowOk m b x
theorem GrOk.ex {m b : Nat} {xs : List D} (h : GrOk m b xs) : ∃ A, xs = gr m A ∧ ∀ i j, i < m → j < m → (A i j).natAbs ≤ b := by
  obtain ⟨hl, hr⟩ := h
  have : ∀ i, ∃ f : Nat → Int, i < m → xs[i]? = some (rw m f) ∧ ∀ j, j < m → (f j).natAbs ≤ b := fun i => by
    by_cases hi : i < m
    · have hi' : i < xs.length := by omega
      obtain ⟨f, e, hf⟩ := hr xs[i] (List.getElem_mem hi')
      exact ⟨f, fun _ => ⟨by rw [List.getElem?_eq_getElem hi', e], hf⟩⟩
    · exact ⟨fun _ => 0, fun z => absurd z hi⟩
  refine ⟨fun i => Classical.choose (this i), rg_of hl fun i hi => (Classical.choose_spec (this i) hi).1, fun i j hi hj => (Classical.choose_spec (this i) hi).2 j hj⟩
theorem GrOk.of {m b : Nat} {A : Nat → Nat → Int} (h : ∀ i j, i < m → j < m → (A i j).natAbs ≤ b) : GrOk m b (gr m A) := by
  refine ⟨gr_len m A, fun x hx => ?_⟩
  unfold gr at hx
  obtain ⟨i, hi, rfl⟩ := List.mem_map.mp hx
  exact ⟨A i, rfl, fun j hj => h i j (List.mem_range.mp hi) hj⟩
theorem GrOk.mono {m b c : Nat} {xs : List D} (h : GrOk m b xs) (hb : b ≤ c) : GrOk m c xs :=
  ⟨h.1, fun x hx => by obtain ⟨f, e, hf⟩ := h.2 x hx; exact ⟨f, e, fun j hj => Nat.le_trans (hf j hj) hb⟩⟩
theorem GrOk.set {m b i : Nat} {xs : List D} {x : D} (h : GrOk m b xs) (hx : RowOk m b x) : GrOk m b (xs.set i x) :=
  ⟨by rw [List.length_set]; exact h.1, fun y hy => by
    rcases List.mem_or_eq_of_mem_set hy with z | z
    · exact h.2 y z
    · rw [z]; exact hx⟩
theorem GrOk.get {m b i : Nat} {xs : List D} (h : GrOk m b xs) (hi : i < m) : ∃ x, xs[i]? = some x ∧ RowOk m b x := by
  have hi' : i < xs.length := by rw [h.1]; exact hi
  exact ⟨xs[i], List.getElem?_eq_getElem hi', h.2 _ (List.getElem_mem hi')⟩
theorem rw_zip {m : Nat} {f g : Nat → Int} : zipD ((List.range m).map fun j => D.int (f j)) ((List.range m).map fun j => D.int (g j)) = (List.range m).map fun j => D.tup [.int (f j), .int (g j)] := by
  unfold zipD
  refine rg_of (by simp) fun i hi => ?_
  rw [List.getElem?_zipWith, rg_get hi, rg_get hi]
theorem gr_set {m i : Nat} {A : Nat → Nat → Int} {f : Nat → Int} : (gr m A).set i (rw m f) = gr m (fun r j => if r = i then f j else A r j) := by
  refine rg_of (by rw [List.length_set, gr_len]) fun k hk => ?_
  by_cases e : i = k
  · subst e
    rw [List.getElem?_set_self (by rw [gr_len]; exact hk)]
    simp
  · rw [List.getElem?_set_ne e, gr_get hk]
    congr 2
    funext j
    exact (if_neg (Ne.symm e)).symm
theorem okNs_map {n : Nat} {f : Nat → D} : ∀ {l : List Nat}, (∀ i ∈ l, okN n (f i) = true) → okNs n (l.map f) = true
  | [], _ => by simp
  | i :: l, h => by
    rw [List.map_cons, okNs_cons, h i (by simp), okNs_map fun j hj => h j (List.mem_cons_of_mem _ hj)]
    rfl
theorem okN_rw {n m : Nat} {f : Nat → Int} : okN (n + 1) (rw m f) = true := okNs_map fun _ _ => okN_int _ _
theorem ok_gr {m : Nat} {A : Nat → Nat → Int} : okN 60 (.lst (gr m A)) = true := okNs_map (n := 59) fun _ _ => okN_rw
theorem eqDs_map {f : Nat → D} : ∀ {l : List Nat}, (∀ i ∈ l, eqD (f i) (f i) = true) → eqDs (l.map f) (l.map f) = true
  | [], _ => rfl
  | i :: l, h => by
    rw [List.map_cons, eqDs_cons, h i (by simp), eqDs_map fun j hj => h j (List.mem_cons_of_mem _ hj)]
    rfl
theorem eq_rw {m : Nat} {f : Nat → Int} : eqD (rw m f) (rw m f) = true := eqDs_map fun _ _ => by simp
theorem eq_gr {m : Nat} {A : Nat → Nat → Int} : eqD (.lst (gr m A)) (.lst (gr m A)) = true := eqDs_map fun _ _ => eq_rw
end Wm
namespace Wm
open PySem PySem.Spec PyProof.Rows L2
theorem ints_of {n b : Nat} {ws : List D} (hl : ws.length = n) (h : ∀ (i : Nat) v, ws[i]? = some v → ∃ x : Int, v = .int x ∧ x.natAbs ≤ b) : ∃ f : Nat → Int, ws = (List.range n).map (fun j => D.int (f j)) ∧ ∀ j, j < n → (f j).natAbs ≤ b := by
  have : ∀ i, ∃ x : Int, i < n → ws[i]? = some (.int x) ∧ x.natAbs ≤ b := fun i => by
    by_cases hi : i < n
    · have hi' : i < ws.length := by omega
      obtain ⟨x, e, hx⟩ := h i ws[i] (List.getElem?_eq_getElem hi')
      exact ⟨x, fun _ => ⟨by rw [List.getElem?_eq_getElem hi', e], hx⟩⟩
    · exact ⟨0, fun z => absurd z hi⟩
  exact ⟨fun i => Classical.choose (this i), rg_of hl fun i hi => (Classical.choose_spec (this i) hi).1, fun j hj => (Classical.choose_spec (this j) hj).2⟩
theorem setAt_last (xs : List D) (d : D) (h : 0 < xs.length) : setAt xs (-1) d = some (xs.set (xs.length - 1) d) := by
  unfold setAt ixN
  rw [if_neg (by omega), if_pos (by omega)]
  have : (-1 + (xs.length : Int)).toNat = xs.length - 1 := by omega
  rw [this]
  rfl
theorem atI_nth {xs : List D} {k : Nat} {d : D} (h : xs[k]? = some d) : atI xs (k : Int) = some d := atI_at _ _ _ (by omega) (by simpa using h)
theorem setAt_nth {xs : List D} {k : Nat} (d : D) (h : k < xs.length) : setAt xs (k : Int) d = some (xs.set k d) := by
  rw [setAt_at _ _ _ (by omega) (by simpa using h)]
  simp
theorem enum_gr {m : Nat} {A : Nat → Nat → Int} : enumD (gr m A) = (List.range m).map fun i => D.tup [.int (i : Nat), rw m (A i)] := by
  unfold enumD
  refine rg_of (by rw [List.length_mapIdx, gr_len]) fun i hi => ?_
  rw [List.getElem?_mapIdx, gr_get hi]
  rfl
theorem rw_eq (m : Nat) (f : Nat → Int) : rw m f = .tup ((List.range m).map fun j => .int (f j)) := rfl
theorem pMul_rep (xs : List D) (k : Int) (h : -1000 ≤ k ∧ k ≤ 1000) (h2 : xs.length ≤ 1000) : pMul [.tup xs, .int k] = .ok (.sh (.tup (List.replicate k.toNat xs).flatten)) := by
  show (if -(2 ^ 63) ≤ k ∧ k ≤ 1000 ∧ xs.length ≤ 1000 then _ else _) = _
  rw [if_pos ⟨by omega, h.2, h2⟩]
theorem szl : sizeLine = 16777216 := by decide
end Wm
namespace Wm
open PySem PySem.Spec PyProof.Rows L2
theorem for_rg {st : Tg} {body : Ss} {n : Nat} {g : Nat → D} {ρ : List SD} {L : Rs Fl} (hL : forL st body ((List.range n).map g) ρ = L) (I : Nat → List SD → Prop) (h0 : I 0 ρ) (h : ∀ i ρ, i < n → I i ρ → ∃ ρ', I (i + 1) ρ' ∧ ∀ k, forT body k (st (g i) ρ) = k ρ') : ∃ ρ', I n ρ' ∧ L = .ok (.nx ρ') := by
  have key : ∀ (m i : Nat) (ρ : List SD), i + m = n → I i ρ → ∃ ρ', I n ρ' ∧ forL st body (((List.range n).map g).drop i) ρ = .ok (.nx ρ') := by
    intro m
    induction m with
    | zero =>
      intro i ρ e hi
      have : ((List.range n).map g).drop i = [] := List.drop_eq_nil_of_le (by simp; omega)
      rw [this]
      have e2 : i = n := by omega
      subst e2
      exact ⟨ρ, hi, rfl⟩
    | succ m ih =>
      intro i ρ e hi
      have hin : i < n := by omega
      obtain ⟨ρ1, h1, e1⟩ := h i ρ hin hi
      obtain ⟨ρ2, h2, e2⟩ := ih (i + 1) ρ1 (by omega) h1
      refine ⟨ρ2, h2, ?_⟩
      have hd : ((List.range n).map g).drop i = g i :: ((List.range n).map g).drop (i + 1) := by
        rw [List.drop_eq_getElem_cons (by simpa using hin)]
        simp
      rw [hd, forL_cons, e1, e2]
  obtain ⟨ρ', h1, h2⟩ := key n 0 ρ (by omega) h0
  exact ⟨ρ', h1, hL.symm.trans h2⟩
theorem enum_rg {m : Nat} {g : Nat → D} : enumD ((List.range m).map g) = (List.range m).map fun i => D.tup [.int (i : Nat), g i] := by
  unfold enumD
  refine rg_of (by simp) fun i hi => ?_
  rw [List.getElem?_mapIdx, rg_get hi]
  rfl
end Wm
namespace Wm
open PySem PySem.Spec PyProof.Rows L2
theorem of_ws {α : Type} [Inhabited α] {mk : α → D} {Q : Nat → α → Prop} {n : Nat} {ws : List D} (hl : ws.length = n) (h : ∀ (i : Nat) v, i < n → ws[i]? = some v → ∃ x, v = mk x ∧ Q i x) : ∃ f : Nat → α, ws = (List.range n).map (fun j => mk (f j)) ∧ ∀ j, j < n → Q j (f j) := by
  have : ∀ i, ∃ x : α, i < n → ws[i]? = some (mk x) ∧ Q i x := fun i => by
    by_cases hi : i < n
    · have hi' : i < ws.length := by omega
      obtain ⟨x, e, hx⟩ := h i ws[i] hi (List.getElem?_eq_getElem hi')
      exact ⟨x, fun _ => ⟨by rw [List.getElem?_eq_getElem hi', e], hx⟩⟩
    · exact ⟨default, fun z => absurd z hi⟩
  exact ⟨fun i => Classical.choose (this i), rg_of hl fun i hi => (Classical.choose_spec (this i) hi).1, fun j hj => (Classical.choose_spec (this j) hj).2⟩
end Wm
end

section
/-! Refusals: an own class's `__init__` called by the class's name. -/
namespace Wm
open PySem PySem.Spec PyProof.Rows L2
section
variable {X : Cx} {e : Expr} {es : List Expr} {ta : TA} {p1 p2 pos : Pos}
theorem pe_winit {x : Str} {CW : Addr} {mc : Value} {pl : Sem Bool} (hg : Gl X x) (hm : X.mg x = some (.ref CW)) (hga : PySem.W.specialIn X.K (.ref CW) "__getattribute__" = some (some (.builtin "type.__getattribute__"))) (hrd : PySem.W.readsIn X.K CW mc = true)
    (vV : PySem.W.findCls X.K (.ref CW) mc "__init__" = some (.val (.builtin "ValueError.__init__"))) (ha : PA X (e :: es) ta) (hdb : (x == ("__debug__" : Str)) = false := by decide)
    (hc : eval (.Call (.Attribute (.Name x p1) "__init__" p2) (e :: es) [] pos) X.env = (do
      let ov ← eval (.Name x p1) X.env
      standAt p2.atName
      let (f, first) ← holding [ov] (getMethod ov "__init__" pl)
      callWith pos f first (backTo pos (starEach (e :: es) X.env)) (backToKw pos (keywordEach [] X.env))) := by rfl)
    (he : starEach (e :: es) X.env = (false, eval e X.env) :: starEach es X.env := by rfl) (hpl : (backTo pos (starEach es X.env)).any (·.1) = false := by rfl) :
    PE X (.Call (.Attribute (.Name x p1) "__init__" p2) (e :: es) [] pos) (tVeI X.K ta) := by
  refine ⟨fun pins s σ H Q I h => ?_⟩
  refine PySem.W.methodCall_KW (ld_glob I hg hm ?_ hdb) hc
  refine PySem.W.method_cls I.kIn hga (PySem.W.cls_value I.kIn hrd vV (by decide +kernel) ?_)
  refine PyProof.Rows.callWith_method1 (thn (ha.run pos pins _ σ H _ (I.tok _) h) fun us s1 ⟨vs, H1, I1, r1, a, C, ws, ev, hl, T, ea, q⟩ => ?_) he hpl
  subst ev
  cases r1 with
  | @cons _ u0 _ ur ra rw' =>
    obtain rfl : u0 = Value.ref a := ra
    have hlen : ur.length ≤ sizeLine := by
      rw [← Paired.length rw', sizeLine_eq]
      omega
    exact oinit_ok T I1 ea hlen fun s' J => ⟨.non, H1, J, rfl, q⟩
end
end Wm
end

section
/-! Refusals: what `C.__init__` does with one field. -/
namespace Wm
open PySem PySem.Spec PyProof.Rows L2
def spI1 (K : PySem.W.Frag) (C : Addr) (f : Str) : Sp := fun vs H Q E => ∃ (a : Addr) (w : V), vs = [.ref a, w] ∧ OexC K C ∧ PySem.W.findIn K (.ref C) f = some none ∧ H a = some (exo a C none) ∧ ∀ dx, H dx = none → dx ≠ a → Q .non (upd (upd H dx (exd dx [(f, w)])) a (exo a C (some dx)))
theorem init1_sound {K : PySem.W.Frag} {C : Addr} {f : Str} {m : Str} {vs : List V} {H : Hp} {Q : VK} {E : XK} (h : spI1 K C f vs H Q E) :
    tSeq (tDrop (tVeI K (tCons (tVar 0) (tCons (tC (.str m)) tNil)))) (tOst K f (tVar 0) (tVar 1)) { nx := fun _ H' => Q .non H', rt := Q } (vs.map some) H := by
  obtain ⟨a, w, rfl, T, hf, ha, q⟩ := h
  refine ⟨_, rfl, a, C, _, rfl, by show 1 ≤ 1000; decide, T, ha, ?_⟩
  exact ⟨_, rfl, _, rfl, a, C, rfl, T, hf, .inl ⟨ha, fun dx n ne => q dx n ne⟩⟩
end Wm
end

section
namespace Wm
open PySem PySem.Spec PyProof.Rows L2
def excOne (c f : Str) (ρ : List SD) : List D → Rs Fl
  | [d] => .exc c [(f, d)] ρ
  | _ => .bad
def sRaise1 (c f : Str) (fx : Sx) : Ss := fun ρ => (mops [fx] ρ).bind fun q => excOne c f q.2 q.1
section
variable {X : Cx} {cl : Cl} {vs0 : List V} {Wx : WX} {e : Expr} {p pos pos' : Pos} {fx : Sx}
theorem sj_raise1 {CX : CXT} {x c f : Str} {fI : Addr} {k : Nat} {fd : FuncData} {ps : List Str} (hc : X.calm = true) (tk : Takes X Wx) (T : OexC X.K (cl.at' c)) (hf : PySem.W.findIn X.K (.ref (cl.at' c)) f = some none) (iC : PySem.W.findIn X.K (.ref (cl.at' c)) "__init__" = some (some (.ref fI))) (tI : PySem.W.typeIn X.K (.ref fI) = some (.type "function"))
    (F1 : FnOk X.prog X.w X.K X.mg X.base CX k fI fd ps (spI1 X.K (cl.at' c) f)) (hr : Room (k + 1) X.A) (hb : Binds X.K fd ps []) (hx : Passes CX X (fun _ _ _ => False)) (hg : Gl X x) (hm : X.mg x = some (.ref (cl.at' c))) (h : MJ X cl vs0 Wx [e] [fx])
    (hdb : (x == ("__debug__" : Str)) = false := by decide) (he : starEach [e] X.env = (false, eval e X.env) :: starEach [] X.env := by rfl) (hpl : (backTo pos' (starEach [] X.env)).any (·.1) = false := by rfl) :
    SJ X cl vs0 Wx (.Raise (some (.Call (.Name x p) [e] [] pos')) none pos) (sRaise1 c f fx) := by
  obtain ⟨t, pt, q⟩ := h.ex
  refine ⟨⟨_, ps_raise hc tk (pmk_oex T iC tI F1 hr hb .nil hx hg hm pt hdb he hpl), fun O W σ H ρ D sr hw => q O W σ H ρ _ sr ?_⟩⟩
  unfold sRaise1 at hw
  cases em : mops [fx] ρ with
  | bad => rw [em] at hw; exact hw
  | exc c' fs ρ' => rw [em] at hw; exact hw σ
  | ok w =>
    obtain ⟨ds, ρ1⟩ := w
    rw [em] at hw
    intro vs O' W' H1 st sr' ra
    match ds, ra, hw with
    | [], _, hw => exact (show False from hw).elim
    | [d], ra, hw =>
      simp only [RpA] at ra
      obtain ⟨v, r, ev, h1, er⟩ := ra
      subst er ev
      refine ⟨by show 1 ≤ 1000; decide, fun a na => ⟨a, v, rfl, T, hf, upd_same, fun dx nd ne => ⟨rfl, dx, [(f, v)], upd_same, ?_, ?_, ?_⟩⟩⟩
      · rw [upd_ne ne, upd_same]
      · rw [upd_ne ne] at nd; exact nd
      · have nd1 : H1 dx = none := by rw [upd_ne ne] at nd; exact nd
        have eH : upd (del (upd (upd (upd H1 a (exo a (cl.at' c) none)) dx (exd dx [(f, v)])) a (exo a (cl.at' c) (some dx))) a) dx (.xd [(f, v)]) = upd H1 dx (.xd [(f, v)]) := by
          funext b
          by_cases e1 : b = dx
          · subst e1; rw [upd_same, upd_same]
          · rw [upd_ne e1, upd_ne e1]
            by_cases e2 : b = a
            · subst e2; rw [del_same, na]
            · rw [del_ne e2, upd_ne e2, upd_ne e1, upd_ne e2]
        rw [eH]
        have sm : Same H1 (upd H1 dx (.xd [(f, v)])) := same_upd nd1
        refine hw σ dx [(f, v)] O' W' _ (st.trans sr.wf (Stp.same sm)) (sr'.same sm) ⟨upd_same, fun z => sr'.wf.trk dx z (noD_none nd1)⟩ ?_
        simp only [RpF]
        exact ⟨v, [], rfl, h1.step sr'.wf (Stp.same sm), rfl⟩
    | _ :: _ :: _, _, hw => exact (show False from hw).elim
end
end Wm
end

section
/-! try: several clauses, each with a name or without. -/
namespace Wm
open PySem PySem.Spec PyProof.Rows L2
abbrev Cts := Addr → Value → Option Addr → TS
/-- the ends behind a suite whose name is unbound -/
def offE (i : Nat) (D : Ends) : Ends where
  nx := fun σ H => D.nx (σ.set i none) H
  rt := D.rt
  bk := fun σ H => D.bk (σ.set i none) H
  ct := fun σ H => D.ct (σ.set i none) H
def cTS (o : Option Nat) (ts : Cts) : Cts := match o with
  | none => ts
  | some i => fun a cls d D σ H => ts a cls d (offE i D) (σ.set i (some (.ref a))) H
/-- the wish of all clauses, in order -/
def wHds (K : PySem.W.Frag) (Wo : WX) (D : Ends) : List (Value × Option Nat × Cts) → WX
  | [] => Wo
  | (c, o, ts) :: r => fun cls d σ H => ∃ b, PySem.W.exmOne K cls c = some b ∧ (b = true → ∀ a, H a = none → cTS o ts a cls d D σ H) ∧ (b = false → wHds K Wo D r cls d σ H)
inductive HdsN (X : Cx) : List ExceptHandler → List (Value × Option Nat × Cts) → Prop
  | nil : HdsN X [] []
  | one {x : Str} {c : Value} {ts : Cts} {b₀ : Stmt} {bs : List Stmt} {p1 p2 : Pos} {hs : List ExceptHandler} {l : List (Value × Option Nat × Cts)} (hc : Names X x c)
      (hu : ∀ (a : Addr) (oe : Obj) (cls : Value) (d : Option Addr) (pn : List (Addr × Obj)), Zc cls d oe → (∃ vs, oe.data = .fields vs) → PSs (X.suite a ((a, oe) :: pn)) (b₀ :: bs) (ts a cls d)) (r : HdsN X hs l) :
      HdsN X (.ExceptHandler (some (.Name x p1)) none (b₀ :: bs) p2 :: hs) ((c, none, ts) :: l)
  | named {x n : Str} {i : Nat} {c : Value} {ts : Cts} {b₀ : Stmt} {bs : List Stmt} {p1 p2 : Pos} {hs : List ExceptHandler} {l : List (Value × Option Nat × Cts)} (hc : Names X x c) (hi : X.N[i]? = some n) (hl : X.env.kindOf n = some .local)
      (hu : ∀ (a : Addr) (oe : Obj) (cls : Value) (d : Option Addr) (pn : List (Addr × Obj)), Zc cls d oe → (∃ vs, oe.data = .fields vs) → PSs (X.suite a ((a, oe) :: pn)) (b₀ :: bs) (ts a cls d)) (r : HdsN X hs l) :
      HdsN X (.ExceptHandler (some (.Name x p1)) (some n) (b₀ :: bs) p2 :: hs) ((c, some i, ts) :: l)
section
variable {X : Cx} {body : List Stmt} {h0 : ExceptHandler} {hs : List ExceptHandler} {l : List (Value × Option Nat × Cts)} {pos : Pos} {tb : WX → TS} {Wo : WX}
theorem ps_tryN (hS : X.stack = X.env :: X.outer) (hF : X.env.frame = some X.env.locals) (hN : X.N.Nodup) (tk : Takes X Wo)
    (hb : ∀ (W : WX) (pn : List (Addr × Obj)) (xe : Value → Shared → Prop), Takes (X.tr pn xe) W → PassesOwn (model X.prog X.w) X.A X.env xe → PSs (X.tr pn xe) body (tb W))
    (hh : HdsN X (h0 :: hs) l) : PS X (.Try body (h0 :: hs) [] [] pos) (fun D σ H => tb (wHds X.K Wo D l) D σ H) := by
  refine ⟨fun pins s σ H D I hyp => ?_⟩
  have okx := I.ok
  have hfr : X.A.frames = some (X.env :: X.outer) := okx.frames.trans (congrArg some hS)
  refine wpAny_Try_except (wpAny_mono ((hb (wHds X.K Wo D l) (X.pn ++ pins) _ (fun u s' xx => ?_) PassesOwn.looking).run [] s σ H D (I.toTry _) hyp) (fun f s1 q => ?_) (fun e s1 q => q))
  · obtain ⟨a, B, sI, _, σ', H', cls, d, rfl, J0, nb, up, sky, na, os, ag, wsh⟩ := xx
    have J : Inv X pins σ' H' sI := J0.ofTry okx
    have sky' : Sky B (X.env :: X.outer) a (Zc cls d) X.env.locals s'.heap := hS ▸ sky
    show wpAny (model X.prog X.w) X.A (noteFrame (.ref a) X.env) _ _ _
    refine Sky.land Zc.steady hfr hF sky' fun g3 fl3 up3 => ?_
    have J3 : Inv X pins σ' H' { s' with heap := g3 } := J.landed nb fl3.1 (up.trans up3) os ag
    obtain ⟨oe3, vs3, he3, hz3, hd3⟩ := fl3.there
    have nfr : a ∉ frs (X.env :: X.outer) := fun hm => by
      obtain ⟨_, o', e', hnf⟩ := fl3.2.2.1.mem hm
      rw [he3] at e'
      cases e'
      exact hnf _ hd3
    have nL : a ≠ X.env.locals := fun z => nfr (List.mem_filterMap.mpr ⟨X.env, List.mem_cons_self, hF.trans (congrArg some z.symm)⟩)
    have nF : a ∉ X.fs := fun hm => by
      obtain ⟨v, hv, qv⟩ := List.mem_filterMap.mp hm
      exact nfr (List.mem_filterMap.mpr ⟨v, List.mem_cons_of_mem _ hv, qv⟩)
    have S3 := J3.suite he3 hd3 na nL nF
    have LT : PySem.W.Looks (model X.prog X.w) g3 (typeOf (.ref a)) cls := fun A Q E s k q => wpAny_typeOf_ref (k _ _ he3) (hz3.1.symm ▸ q)
    have test : ∀ {x : Str} {c : Value} {np : Pos} {Q : Value → Shared → Prop} {E : Value → Shared → Prop}, Names X x c → Q c { s' with heap := g3 } → wpAny (model X.prog X.w) (X.A.mark (some (.ref a))) (eval (.Name x np) X.env) Q E { s' with heap := g3 } := fun hc q => by
      obtain ⟨hg, hdbg, hm | ⟨hm, hv, hnn⟩⟩ := hc
      · exact ld_glob (X := X.suite a ((a, oe3) :: (X.pn ++ pins))) S3 hg hm q hdbg
      · exact ld_blt (X := X.suite a ((a, oe3) :: (X.pn ++ pins))) S3 hg hm hv q hnn hdbg
    have go : ∀ {hs' : List ExceptHandler} {l' : List (Value × Option Nat × Cts)}, HdsN X hs' l' → wHds X.K Wo D l' cls d σ' H' →
        wpAny (model X.prog X.w) X.A (handleBy (.ref a) X.env hs') (SP X pins D) X.xe { s' with heap := g3 } := by
      intro hs' l' hk
      induction hk with
      | nil =>
        intro ww
        refine wpAny_handleBy_nil ?_
        obtain ⟨k1, k2, k3, oe, vs, T, oT, ts', he, hz, hd, h1, hr⟩ := id fl3
        unfold PySem.passOn
        refine wpAny_bind (wpAny_field he hd h1 ?_)
        rw [if_neg (show ¬ ((Value.ref T == Value.none) = true) from by simp)]
        have fin : wpAny (model X.prog X.w) X.A (setFlight (.ref a) X.env.frame) (fun _ s4 => wpAny (model X.prog X.w) X.A (throw (.ref a) : Sem Flow) (SP X pins D) X.xe s4) X.xe { s' with heap := g3 } := by
          rw [hF]
          exact HandSPX.setFlight_upZ fl3 fun h4 hh4 up4 => wpAny_throw (tk _ _ ⟨a, B, sI, pins, σ', H', cls, d, rfl, J, nb, (up.trans up3).trans up4, .inr (.inr (hS.symm ▸ hh4)), na, os, ag, ww⟩)
        first
          | exact wpAny_bind (wpAny_pure (wpAny_bind fin))
          | exact wpAny_bind fin
      | @one x c ts b₀ bs p1 p2 hs2 l2 hc hu r ih =>
        rintro ⟨b, hb1, hyes, hno⟩
        refine wpAny_handleBy_cons (codeAny_handlers_test ?_) (by intro q; cases q)
        refine test hc ((PySem.W.exm_one (M := model X.prog X.w) J3.kIn LT hb1).here ?_)
        cases b with
        | false => exact ih (hno rfl)
        | true =>
          refine codeAny_handlers_suite (HandSPX.lands_againZ fl3 fun h4 fl4 up4 => ?_)
          have J4 : Inv X pins σ' H' { s' with heap := h4 } := J.landed nb fl4.1 ((up.trans up3).trans up4) os ag
          obtain ⟨oe4, vs4, he4, hz4, hd4⟩ := fl4.there
          have S4 := J4.suite he4 hd4 na nL nF
          refine wpAny_mono ((hu a oe4 cls d (X.pn ++ pins) hz4 ⟨_, hd4⟩).run [] _ _ H' _ S4 (hyes rfl a na)) (fun f s6 q => ?_) (fun _ _ z => z.elim)
          cases f with
          | next => obtain ⟨σ6, H6, S6, q6⟩ := q; exact ⟨σ6, H6, S6.unsuite okx, q6⟩
          | brk => obtain ⟨σ6, H6, S6, q6⟩ := q; exact ⟨σ6, H6, S6.unsuite okx, q6⟩
          | cont => obtain ⟨σ6, H6, S6, q6⟩ := q; exact ⟨σ6, H6, S6.unsuite okx, q6⟩
          | ret u => obtain ⟨v6, σ6, H6, S6, r6, q6⟩ := q; exact ⟨v6, σ6, H6, S6.unsuite okx, r6, q6⟩
      | @named x n i c ts b₀ bs p1 p2 hs2 l2 hc hi hl hu r ih =>
        rintro ⟨b, hb1, hyes, hno⟩
        refine wpAny_handleBy_cons (codeAny_handlers_test ?_) (by intro q; cases q)
        refine test hc ((PySem.W.exm_one (M := model X.prog X.w) J3.kIn LT hb1).here ?_)
        cases b with
        | false => exact ih (hno rfl)
        | true =>
          refine codeAny_handlers_suite_as (HandSPX.lands_againZ fl3 fun h4 fl4 up4 => ?_)
          have J4 : Inv X pins σ' H' { s' with heap := h4 } := J.landed nb fl4.1 ((up.trans up3).trans up4) os ag
          obtain ⟨oe4, vs4, he4, hz4, hd4⟩ := fl4.there
          have S4 := J4.suite he4 hd4 na nL nF
          refine store_ok (X := X.suite a ((a, oe4) :: (X.pn ++ pins))) (v := .ref a) S4 hN hi (.inl hl) rfl (fun s5 S5 => ?_) (.inr hl)
          refine wpAny_mono ((hu a oe4 cls d (X.pn ++ pins) hz4 ⟨_, hd4⟩).run [] s5 _ H' _ S5 (hyes rfl a na)) (fun f s6 q => ?_) (fun _ _ z => z.elim)
          have fin : ∀ {σ6 : L2.St} {H6 : Hp} {R : Shared → Prop}, Inv (X.suite a ((a, oe4) :: (X.pn ++ pins))) [] σ6 H6 s6 → (∀ s7, Inv X pins (σ6.set i none) H6 s7 → R s7) →
              wpAny (model X.prog X.w) X.A (do bindName X.env n .none; unbindBehindTheSuite X.env n p2) (fun _ s7 => R s7) X.xe s6 := fun S6 hq => gone_ok (S6.unsuite okx) hN hi hl hq
          cases f with
          | next => obtain ⟨σ6, H6, S6, q6⟩ := q; exact fin S6 fun s7 J7 => ⟨_, _, J7, q6⟩
          | brk => obtain ⟨σ6, H6, S6, q6⟩ := q; exact fin S6 fun s7 J7 => ⟨_, _, J7, q6⟩
          | cont => obtain ⟨σ6, H6, S6, q6⟩ := q; exact fin S6 fun s7 J7 => ⟨_, _, J7, q6⟩
          | ret u => obtain ⟨v6, σ6, H6, S6, r6, q6⟩ := q; exact fin S6 fun s7 J7 => ⟨_, _, _, J7, r6, q6⟩
    exact go hh wsh
  · cases f with
    | next => obtain ⟨σ', H', J', r⟩ := q; exact wpAny_execs_nil ⟨σ', H', J'.ofTry okx, r⟩
    | brk => obtain ⟨σ', H', J', r⟩ := q; exact ⟨σ', H', J'.ofTry okx, r⟩
    | cont => obtain ⟨σ', H', J', r⟩ := q; exact ⟨σ', H', J'.ofTry okx, r⟩
    | ret u => obtain ⟨v, σ', H', J', r, r2⟩ := q; exact ⟨v, σ', H', J'.ofTry okx, r, r2⟩
end
end Wm
end

section
/-! try on data: what is caught stands in a slot of its own kind, and only its fields are read. -/
namespace Wm
open PySem PySem.Spec PyProof.Rows L2
section
variable {G G' : Gx} {O W : List Addr} {H : Hp}
theorem TO.re {a : Addr} {vs : List V} (hK : G.K = G'.K) (h : TO G.K O H a vs) : TO G'.K O H a vs := hK ▸ h
mutual
theorem Rp.re (hK : G.K = G'.K) (hc : G.cls = G'.cls) : ∀ {d : D} {v : V}, Rp G O H d v → Rp G' O H d v
  | .non, v, h => by simpa only [Rp] using h
  | .bl b, v, h => by simpa only [Rp] using h
  | .int i, v, h => by simpa only [Rp] using h
  | .str x, v, h => by simpa only [Rp] using h
  | .tup ds, v, h => by
    simp only [Rp] at h ⊢
    obtain ⟨a, vs, e, t, r⟩ := h
    exact ⟨a, vs, e, hK ▸ t, RpA.re hK hc r⟩
  | .lst ds, v, h => by
    simp only [Rp] at h ⊢
    obtain ⟨a, vs, e, t, r⟩ := h
    exact ⟨a, vs, e, hK ▸ t, RpA.re hK hc r⟩
  | .ins c fs, v, h => by
    simp only [Rp] at h ⊢
    obtain ⟨a, dx, gs, e, t, n, r⟩ := h
    exact ⟨a, dx, gs, e, hc ▸ t, n, RpF.re hK hc r⟩
  | .scr ns, v, h => by
    simp only [Rp] at h ⊢
    obtain ⟨a, e, t⟩ := h
    exact ⟨a, e, hK ▸ t⟩
  | .dct kvs, v, h => by
    simp only [Rp] at h ⊢
    obtain ⟨a, gs, e, t, n, r⟩ := h
    exact ⟨a, gs, e, t, n, RpD.re hK hc r⟩
theorem RpA.re (hK : G.K = G'.K) (hc : G.cls = G'.cls) : ∀ {ds : List D} {vs : List V}, RpA G O H ds vs → RpA G' O H ds vs
  | [], vs, h => by simpa only [RpA] using h
  | d :: ds, vs, h => by
    simp only [RpA] at h ⊢
    obtain ⟨v, r, e, h1, h2⟩ := h
    exact ⟨v, r, e, Rp.re hK hc h1, RpA.re hK hc h2⟩
theorem RpF.re (hK : G.K = G'.K) (hc : G.cls = G'.cls) : ∀ {ds : List (Str × D)} {vs : List (Str × V)}, RpF G O H ds vs → RpF G' O H ds vs
  | [], vs, h => by simpa only [RpF] using h
  | (n, d) :: ds, vs, h => by
    simp only [RpF] at h ⊢
    obtain ⟨v, r, e, h1, h2⟩ := h
    exact ⟨v, r, e, Rp.re hK hc h1, RpF.re hK hc h2⟩
theorem RpD.re (hK : G.K = G'.K) (hc : G.cls = G'.cls) : ∀ {ds : List (Int × D)} {vs : List (Key × V)}, RpD G O H ds vs → RpD G' O H ds vs
  | [], vs, h => by simpa only [RpD] using h
  | (n, d) :: ds, vs, h => by
    simp only [RpD] at h ⊢
    obtain ⟨v, r, e, h1, h2⟩ := h
    exact ⟨v, r, e, Rp.re hK hc h1, RpD.re hK hc h2⟩
end
theorem OwnAt.re (hK : G.K = G'.K) (hc : G.cls = G'.cls) {a : Addr} {xs : List D} (h : OwnAt G O W H a xs) : OwnAt G' O W H a xs := by
  obtain ⟨h1, vs, h2, h3, h4⟩ := h
  exact ⟨h1, vs, h2, h3, h4.re hK hc⟩
/-- no slot holds an exception -/
def noXn : List SD → Bool
  | [] => true
  | .xn _ _ :: _ => false
  | _ :: r => noXn r
theorem noXn_get : ∀ {ρ : List SD} {i : Nat} {s : SD}, noXn ρ = true → ρ[i]? = some s → ∀ c fs, s ≠ .xn c fs
  | [], i, s, _, e => by cases e
  | t :: r, 0, s, h, e => by
    cases e
    intro c fs z
    subst z
    cases h
  | t :: r, i + 1, s, h, e => by
    have : noXn r = true := by
      cases t with
      | xn c fs => cases h
      | no => exact h
      | gv => exact h
      | sh d => exact h
      | own xs => exact h
      | byr xs => exact h
    exact noXn_get this e
theorem SlotR.re (hK : G.K = G'.K) (hc : G.cls = G'.cls) {ov ov0 : Option V} {s : SD} (hx : (∀ a q, G.xof a = some q → G'.xof a = some q) ∨ ∀ c fs, s ≠ .xn c fs) (h : SlotR G O W H ov ov0 s) : SlotR G' O W H ov ov0 s := by
  cases s with
  | no => trivial
  | gv => exact h
  | sh d => obtain ⟨v, e, r⟩ := h; exact ⟨v, e, r.re hK hc⟩
  | own xs => obtain ⟨a, e, r⟩ := h; exact ⟨a, e, r.re hK hc⟩
  | byr xs => obtain ⟨a, e, e0, r⟩ := h; exact ⟨a, e, e0, r.re hK hc⟩
  | xn c fs =>
    obtain ⟨a, p, gs, e, x, t, n, r⟩ := h
    rcases hx with hx | hx
    · exact ⟨a, p, gs, e, hx _ _ x, t, n, r.re hK hc⟩
    · exact absurd rfl (hx c fs)
theorem SR.re (hK : G.K = G'.K) (hc : G.cls = G'.cls) (ht : G.tabs = G'.tabs) {vs0 : List V} {σ : L2.St} {ρ : List SD} (hx : (∀ a q, G.xof a = some q → G'.xof a = some q) ∨ noXn ρ = true) (r : SR G vs0 O W σ H ρ) : SR G' vs0 O W σ H ρ :=
  ⟨r.wf, r.len, fun i s e => (r.slot i s e).re hK hc (hx.imp id fun z => noXn_get z e), r.apart, ht ▸ r.tabs.tc, fun q hq => (r.tabs.k q (ht ▸ hq)).re hK hc⟩
theorem ResR.re (hK : G.K = G'.K) (hc : G.cls = G'.cls) {σ : L2.St} {ρ : List SD} {v : V} {s : SD} (h : ResR G O W σ H ρ v s) : ResR G' O W σ H ρ v s := by
  cases s with
  | no => exact h
  | byr xs => exact h
  | xn _ _ => exact h
  | gv => exact h
  | sh d => exact Rp.re hK hc h
  | own xs =>
    obtain ⟨a, e, o, n⟩ := h
    exact ⟨a, e, o.re hK hc, n⟩
/-- an exception goes into a slot -/
theorem SR.setX {vs0 : List V} {σ : L2.St} {ρ : List SD} {i : Nat} {a p : Addr} {c : Str} {fs : List (Str × D)} {gs : List (Str × V)} (r : SR G vs0 O W σ H ρ) (hx : G.xof a = some (c, p)) (hp : H p = some (.xd gs)) (hn : p ∉ O) (hf : RpF G O H fs gs) :
    SR G vs0 O W (σ.set i (some (.ref a))) H (ρ.set i (.xn c fs)) := by
  refine ⟨r.wf, by rw [List.length_set, List.length_set, r.len], fun j s e => ?_, fun j k s t b e1 e2 m1 m2 s1 s2 => ?_, r.tabs⟩
  · by_cases hj : i = j
    · subst hj
      by_cases hl : i < ρ.length
      · rw [List.getElem?_set_self hl] at e; cases e
        rw [List.getElem?_set_self (by rw [r.len]; exact hl)]
        exact ⟨a, p, gs, rfl, hx, hp, hn, hf⟩
      · rw [List.getElem?_eq_none (by rw [List.length_set]; omega)] at e; cases e
    · rw [List.getElem?_set_ne hj] at e
      rw [List.getElem?_set_ne hj]
      exact r.slot j s e
  · have nn : ∀ {j : Nat} {s : SD}, (ρ.set i (.xn c fs))[j]? = some s → s.mine = true → i ≠ j := fun {j s} e m z => by
      subst z
      by_cases hl : i < ρ.length
      · rw [List.getElem?_set_self hl] at e; cases e; cases m
      · rw [List.getElem?_eq_none (by rw [List.length_set]; omega)] at e; cases e
    have nj := nn e1 m1
    have nk := nn e2 m2
    rw [List.getElem?_set_ne nj] at e1 s1
    rw [List.getElem?_set_ne nk] at e2 s2
    exact r.apart j k s t b e1 e2 m1 m2 s1 s2
/-- a slot is emptied -/
theorem SR.gone {vs0 : List V} {σ : L2.St} {ρ : List SD} (i : Nat) (r : SR G vs0 O W σ H ρ) : SR G vs0 O W (σ.set i none) H (ρ.set i .no) := by
  refine ⟨r.wf, by rw [List.length_set, List.length_set, r.len], fun j s e => ?_, fun j k s t b e1 e2 m1 m2 s1 s2 => ?_, r.tabs⟩
  · by_cases hj : i = j
    · subst hj
      by_cases hl : i < ρ.length
      · rw [List.getElem?_set_self hl] at e; cases e
        trivial
      · rw [List.getElem?_eq_none (by rw [List.length_set]; omega)] at e; cases e
    · rw [List.getElem?_set_ne hj] at e
      rw [List.getElem?_set_ne hj]
      exact r.slot j s e
  · have nn : ∀ {j : Nat} {s : SD}, (ρ.set i .no)[j]? = some s → s.mine = true → i ≠ j := fun {j s} e m z => by
      subst z
      by_cases hl : i < ρ.length
      · rw [List.getElem?_set_self hl] at e; cases e; cases m
      · rw [List.getElem?_eq_none (by rw [List.length_set]; omega)] at e; cases e
    have nj := nn e1 m1
    have nk := nn e2 m2
    rw [List.getElem?_set_ne nj] at e1 s1
    rw [List.getElem?_set_ne nk] at e2 s2
    exact r.apart j k s t b e1 e2 m1 m2 s1 s2
end
/-! ### what is meant -/
/-- a clause: its class, its name's slot, its suite -/
structure Hd where
  cn : Str
  sl : Option Nat
  g : Ss
def Hd.into (h : Hd) (c : Str) (fs : List (Str × D)) (ρ : List SD) : List SD := match h.sl with
  | none => ρ
  | some i => ρ.set i (.xn c fs)
def Hd.off (h : Hd) (ρ : List SD) : List SD := match h.sl with
  | none => ρ
  | some i => ρ.set i .no
def flX (o : List SD → List SD) : Rs Fl → Rs Fl
  | .ok (.nx ρ) => if noXn (o ρ) then .ok (.nx (o ρ)) else .bad
  | .ok (.rt r ρ) => if noXn (o ρ) then .ok (.rt r (o ρ)) else .bad
  | .ok (.bk ρ) => if noXn (o ρ) then .ok (.bk (o ρ)) else .bad
  | .ok (.ct ρ) => if noXn (o ρ) then .ok (.ct (o ρ)) else .bad
  | _ => .bad
def catchS (E : Str → Str → Option Bool) : List Hd → Str → List (Str × D) → List SD → Rs Fl
  | [], c, fs, ρ => .exc c fs ρ
  | h :: r, c, fs, ρ => match E c h.cn with
    | some true => flX h.off (h.g (h.into c fs ρ))
    | some false => catchS E r c fs ρ
    | none => .bad
def sTry (E : Str → Str → Option Bool) (gb : Ss) (hs : List Hd) : Ss := fun ρ => match gb ρ with
  | .exc c fs ρ' => catchS E hs c fs ρ'
  | r => r
/-- what a suite's context knows of the caught one -/
structure XofOk (cl cl' : Cl) (a : Addr) (cls : Value) (d : Option Addr) : Prop where
  at' : cl'.at' = cl.at'
  tb : cl'.tabs = cl.tabs
  xof : ∀ b c p, cl'.xof b = some (c, p) → b = a ∧ cls = .ref (cl.at' c) ∧ d = some p
inductive HJ (X : Cx) (cl : Cl) (vs0 : List V) : List ExceptHandler → List Hd → Prop
  | nil : HJ X cl vs0 [] []
  | one {x : Str} {g : Ss} {b₀ : Stmt} {bs : List Stmt} {p1 p2 : Pos} {hs : List ExceptHandler} {l : List Hd} (hc : Names X x (.ref (cl.at' x)))
      (hu : ∀ (a : Addr) (oe : Obj) (cls : Value) (d : Option Addr) (pn : List (Addr × Obj)) (cl' : Cl), Zc cls d oe → (∃ vs, oe.data = .fields vs) → XofOk cl cl' a cls d → BJ (X.suite a ((a, oe) :: pn)) cl' vs0 WX0 (b₀ :: bs) g) (r : HJ X cl vs0 hs l) :
      HJ X cl vs0 (.ExceptHandler (some (.Name x p1)) none (b₀ :: bs) p2 :: hs) (⟨x, none, g⟩ :: l)
  | named {x n : Str} {i : Nat} {g : Ss} {b₀ : Stmt} {bs : List Stmt} {p1 p2 : Pos} {hs : List ExceptHandler} {l : List Hd} (hc : Names X x (.ref (cl.at' x))) (hi : X.N[i]? = some n) (hl : X.env.kindOf n = some .local)
      (hu : ∀ (a : Addr) (oe : Obj) (cls : Value) (d : Option Addr) (pn : List (Addr × Obj)) (cl' : Cl), Zc cls d oe → (∃ vs, oe.data = .fields vs) → XofOk cl cl' a cls d → BJ (X.suite a ((a, oe) :: pn)) cl' vs0 WX0 (b₀ :: bs) g) (r : HJ X cl vs0 hs l) :
      HJ X cl vs0 (.ExceptHandler (some (.Name x p1)) (some n) (b₀ :: bs) p2 :: hs) (⟨x, some i, g⟩ :: l)
section
variable {X : Cx} {cl : Cl} {vs0 : List V} {Wx : WX}
/-- one reading of a suite -/
def tSui (K : PySem.W.Frag) (cl : Cl) (vs0 : List V) (g : Ss) : Cts := fun a cls d D σ H => ∃ cl' O W ρ, XofOk cl cl' a cls d ∧ SR (gk K cl') vs0 O W σ H ρ ∧ AftS (gk K cl') vs0 WX0 O W H D (g ρ)
theorem sui_ok {g : Ss} {sts : List Stmt} {a : Addr} {oe : Obj} {cls : Value} {d : Option Addr} {pn : List (Addr × Obj)} (hz : Zc cls d oe) (hf : ∃ vs, oe.data = .fields vs)
    (hu : ∀ (cl' : Cl), XofOk cl cl' a cls d → BJ (X.suite a ((a, oe) :: pn)) cl' vs0 WX0 sts g) : PSs (X.suite a ((a, oe) :: pn)) sts (tSui X.K cl vs0 g a cls d) := by
  refine ⟨fun pins s σ H D I h => ?_⟩
  obtain ⟨cl', O, W, ρ, hx, sr, hw⟩ := h
  obtain ⟨t, pt, q⟩ := (hu cl' hx).ex
  exact pt.run pins s σ H D I (q O W σ H ρ D sr hw)
def hdT (K : PySem.W.Frag) (cl : Cl) (vs0 : List V) (l : List Hd) : List (Value × Option Nat × Cts) := l.map fun h => (.ref (cl.at' h.cn), h.sl, tSui K cl vs0 h.g)
theorem hds_ok : ∀ {hs : List ExceptHandler} {l : List Hd}, HJ X cl vs0 hs l → HdsN X hs (hdT X.K cl vs0 l)
  | _, _, .nil => .nil
  | _, _, .one hc hu r => .one hc (fun a oe cls d pn hz hf => sui_ok hz hf fun cl' hx => hu a oe cls d pn cl' hz hf hx) (hds_ok r)
  | _, _, .named hc hi hl hu r => .named hc hi hl (fun a oe cls d pn hz hf => sui_ok hz hf fun cl' hx => hu a oe cls d pn cl' hz hf hx) (hds_ok r)
def offS (o : Option Nat) (σ : L2.St) : L2.St := match o with
  | none => σ
  | some i => σ.set i none
def offD (o : Option Nat) (D : Ends) : Ends := match o with
  | none => D
  | some i => offE i D
theorem SR.offs {G : Gx} {O W : List Addr} {σ : L2.St} {H : Hp} {ρ : List SD} {h : Hd} (r : SR G vs0 O W σ H ρ) : SR G vs0 O W (offS h.sl σ) H (h.off ρ) := by
  obtain ⟨cn, sl, g⟩ := h
  cases sl with
  | none => exact r
  | some i => exact r.gone i
theorem ResR.offs {G : Gx} {O W : List Addr} {σ : L2.St} {H : Hp} {ρ : List SD} {h : Hd} {v : V} {s : SD} (r : ResR G O W σ H ρ v s) : ResR G O W (offS h.sl σ) H (h.off ρ) v s := by
  obtain ⟨cn, sl, g⟩ := h
  cases sl with
  | none => exact r
  | some i =>
    cases s with
    | no => exact r
    | byr xs => exact r
    | xn _ _ => exact r
    | gv => exact r
    | sh d => exact r
    | own xs =>
      obtain ⟨a, e, o, n⟩ := r
      refine ⟨a, e, o, fun j t q m z => ?_⟩
      have q : (ρ.set i .no)[j]? = some t := q
      have z : (σ.set i none)[j]? = some (some (.ref a)) := z
      by_cases hj : i = j
      · subst hj
        by_cases hl : i < ρ.length
        · rw [List.getElem?_set_self hl] at q; cases q; cases m
        · rw [List.getElem?_eq_none (by rw [List.length_set]; omega)] at q; cases q
      · rw [List.getElem?_set_ne hj] at q z
        exact n j t q m z
theorem flX_core {G G' : Gx} {O W O' W' : List Addr} {H H' : Hp} {D : Ends} {h : Hd} (hK : G'.K = G.K) (hc : G'.cls = G.cls) (hT : G'.tabs = G.tabs) (w : Wf O W H) (st : Stp O W H O' W' H') {r : Rs Fl} (hw : AftS G vs0 Wx O W H D (flX h.off r)) : AftS G' vs0 WX0 O' W' H' (offD h.sl D) r := by
  have dn : ∀ {ρ σ O W H}, noXn (h.off ρ) = true → SR G' vs0 O W σ H ρ → SR G vs0 O W (offS h.sl σ) H (h.off ρ) := fun hn r => r.offs.re hK hc hT (.inr hn)
  have dnx : (offD h.sl D).nx = fun σ H => D.nx (offS h.sl σ) H := by obtain ⟨cn, sl, g⟩ := h; cases sl <;> rfl
  have dbk : (offD h.sl D).bk = fun σ H => D.bk (offS h.sl σ) H := by obtain ⟨cn, sl, g⟩ := h; cases sl <;> rfl
  have dct : (offD h.sl D).ct = fun σ H => D.ct (offS h.sl σ) H := by obtain ⟨cn, sl, g⟩ := h; cases sl <;> rfl
  have drt : (offD h.sl D).rt = D.rt := by obtain ⟨cn, sl, g⟩ := h; cases sl <;> rfl
  cases r with
  | bad => exact hw
  | exc c fs ρ => exact hw.elim
  | ok fl =>
    cases fl with
    | nx ρ2 =>
      have hw : AftS G vs0 Wx O W H D (if noXn (h.off ρ2) then .ok (.nx (h.off ρ2)) else .bad) := hw
      split at hw
      · rename_i hn
        intro σ2 O2 W2 H2 st2 sr2
        rw [dnx]
        exact hw _ O2 W2 H2 (st.trans w st2) (dn hn sr2)
      · exact hw.elim
    | bk ρ2 =>
      have hw : AftS G vs0 Wx O W H D (if noXn (h.off ρ2) then .ok (.bk (h.off ρ2)) else .bad) := hw
      split at hw
      · rename_i hn
        intro σ2 O2 W2 H2 st2 sr2
        rw [dbk]
        exact hw _ O2 W2 H2 (st.trans w st2) (dn hn sr2)
      · exact hw.elim
    | ct ρ2 =>
      have hw : AftS G vs0 Wx O W H D (if noXn (h.off ρ2) then .ok (.ct (h.off ρ2)) else .bad) := hw
      split at hw
      · rename_i hn
        intro σ2 O2 W2 H2 st2 sr2
        rw [dct]
        exact hw _ O2 W2 H2 (st.trans w st2) (dn hn sr2)
      · exact hw.elim
    | rt r ρ2 =>
      have hw : AftS G vs0 Wx O W H D (if noXn (h.off ρ2) then .ok (.rt r (h.off ρ2)) else .bad) := hw
      split at hw
      · rename_i hn
        intro v σ2 O2 W2 H2 st2 sr2 rr
        rw [drt]
        exact hw v _ O2 W2 H2 (st.trans w st2) (dn hn sr2) (rr.offs.re hK hc)
      · exact hw.elim
theorem sj_try {E : Str → Str → Option Bool} {body : List Stmt} {gb : Ss} {h0 : ExceptHandler} {hs : List ExceptHandler} {l : List Hd} {pos : Pos} (hx0 : ∀ b, cl.xof b = none) (hE : ∀ c h b, E c h = some b → PySem.W.exmOne X.K (.ref (cl.at' c)) (.ref (cl.at' h)) = some b)
    (hS : X.stack = X.env :: X.outer) (hF : X.env.frame = some X.env.locals) (hN : X.N.Nodup) (tk : Takes X Wx)
    (hb : ∀ (W : WX) (pn : List (Addr × Obj)) (xe : Value → Shared → Prop), Takes (X.tr pn xe) W → PassesOwn (model X.prog X.w) X.A X.env xe → BJ (X.tr pn xe) cl vs0 W body gb)
    (hh : HJ X cl vs0 (h0 :: hs) l) : SJ X cl vs0 Wx (.Try body (h0 :: hs) [] [] pos) (sTry E gb l) := by
  refine ⟨⟨_, ps_tryN (tb := fun W D σ H => ∃ O W' ρ, SR (gx X cl) vs0 O W' σ H ρ ∧ AftS (gx X cl) vs0 W O W' H D (gb ρ)) hS hF hN tk (fun W pn xe tk' pw => ?_) (hds_ok hh), fun O W σ H ρ D sr hw => ⟨O, W, ρ, sr, ?_⟩⟩⟩
  · refine ⟨fun pins s σ H D I h => ?_⟩
    obtain ⟨O, W', ρ, sr, hw⟩ := h
    obtain ⟨t, pt, q⟩ := (hb W pn xe tk' pw).ex
    exact pt.run pins s σ H D I (q O W' σ H ρ D sr hw)
  · unfold sTry at hw
    cases e : gb ρ with
    | bad => rw [e] at hw; exact hw
    | ok fl =>
      rw [e] at hw
      cases fl with
      | nx ρ' => exact hw
      | rt r ρ' => exact hw
      | bk ρ' => exact hw
      | ct ρ' => exact hw
    | exc c fs ρ' =>
      rw [e] at hw
      clear hh e
      intro σ' p gs O' W' H' st sr' hp hf
      have key : ∀ (l : List Hd), AftS (gx X cl) vs0 Wx O W H D (catchS E l c fs ρ') → wHds X.K Wx D (hdT X.K cl vs0 l) (.ref (cl.at' c)) (some p) σ' H' := by
        intro l
        induction l with
        | nil => intro hw; exact hw σ' p gs O' W' H' st sr' hp hf
        | cons h r ih =>
          intro hw
          have hw : AftS (gx X cl) vs0 Wx O W H D (match E c h.cn with
            | some true => flX h.off (h.g (h.into c fs ρ'))
            | some false => catchS E r c fs ρ'
            | none => .bad) := hw
          cases eb : E c h.cn with
          | none => rw [eb] at hw; exact hw.elim
          | some b =>
            rw [eb] at hw
            refine ⟨b, hE _ _ _ eb, fun hbt a na => ?_, fun hbf => ?_⟩
            · subst hbt
              have hw : AftS (gx X cl) vs0 Wx O W H D (flX h.off (h.g (h.into c fs ρ'))) := hw
              obtain ⟨cn, sl, g⟩ := h
              let cl' : Cl := ⟨cl.at', fun b => if b = a then some (c, p) else none, cl.tabs⟩
              have xo : XofOk cl cl' a (.ref (cl.at' c)) (some p) := ⟨rfl, rfl, fun b c' p' e => by
                have e : (if b = a then some (c, p) else none) = some (c', p') := e
                split at e
                · cases e; exact ⟨by assumption, rfl, rfl⟩
                · cases e⟩
              have up : ∀ {ρ σ O W H}, SR (gx X cl) vs0 O W σ H ρ → SR (gk X.K cl') vs0 O W σ H ρ := fun r => SR.re (G := gx X cl) (G' := gk X.K cl') rfl rfl rfl (.inl fun b q z => by
                have z : cl.xof b = some q := z
                rw [hx0] at z; cases z) r
              have fin := flX_core (G := gx X cl) (G' := gk X.K cl') (h := ⟨cn, sl, g⟩) rfl rfl rfl sr.wf st hw
              cases sl with
              | none => exact ⟨cl', O', W', ρ', xo, up sr', fin⟩
              | some i => exact ⟨cl', O', W', _, xo, (up sr').setX (c := c) (p := p) (show (if a = a then some (c, p) else none) = _ from if_pos rfl) hp.1 hp.2 (RpF.re (G := gx X cl) (G' := gk X.K cl') rfl rfl hf), fin⟩
            · subst hbf
              exact ih hw
      exact key l hw
/-- e.f of what was caught -/
def xFld (i : Nat) (cs : List Str) (f : Str) : Sx := fun ρ => match ρ[i]? with
  | some (.xn c fs) => if c ∈ cs then match fs.lookup f with
    | some d => .ok (.sh d, ρ)
    | none => .bad
    else .bad
  | _ => .bad
theorem RpF.look {G : Gx} {O : List Addr} {H : Hp} {f : Str} {d : D} : ∀ {fs : List (Str × D)} {gs : List (Str × V)}, RpF G O H fs gs → fs.lookup f = some d → ∃ v, gs.lookup f = some v ∧ Rp G O H d v
  | [], gs, _, e => by cases e
  | (n, d0) :: fs, gs, h, e => by
    simp only [RpF] at h
    obtain ⟨v, r, rfl, h1, h2⟩ := h
    rw [List.lookup_cons] at e ⊢
    by_cases hn : (f == n) = true
    · rw [hn] at e ⊢
      cases e
      exact ⟨v, rfl, h1⟩
    · rw [Bool.not_eq_true] at hn
      rw [hn] at e ⊢
      exact RpF.look h2 e
theorem ej_xf {a : Addr} {oe : Obj} {cls : Value} {d : Option Addr} {pn : List (Addr × Obj)} {cl' : Cl} {i : Nat} {e : Expr} {f : Str} {cs : List Str} {pos : Pos} (hz : Zc cls d oe) (hf : ∃ vs, oe.data = .fields vs) (hx : XofOk cl cl' a cls d)
    (hT : ∀ c ∈ cs, XfC X.K (cl.at' c) ∧ PySem.W.findIn X.K (.ref (cl.at' c)) f = some none) (he : PE (X.suite a ((a, oe) :: pn)) e (tVar i)) (hb : attributeBase e f X.env (eval e X.env) = eval e X.env := by rfl) :
    EJ (X.suite a ((a, oe) :: pn)) cl' vs0 Wx (.Attribute e f pos) (xFld i cs f) := by
  refine ⟨⟨fun σ H Q => ∃ c ∈ cs, tXf a cls d (cl.at' c) f (tVar i) σ H Q, ⟨fun pins s σ H Q I h => ?_⟩, fun O W σ H ρ Q sr hw => ?_⟩⟩
  · obtain ⟨c, hc, h⟩ := h
    exact (pe_xf (hT c hc).1 (hT c hc).2 hz hf he hb).run pins s σ H Q I h
  · unfold xFld at hw
    split at hw
    · rename_i c fs e0
      split at hw
      · rename_i hc
        obtain ⟨b, p, gs, ev, xb, hp, hn, hr⟩ := sr.slot i _ e0
        obtain ⟨rfl, rfl, rfl⟩ := hx.xof b c p xb
        split at hw
        · rename_i dd ed
          obtain ⟨v, e1, r1⟩ := RpF.look hr ed
          exact ⟨c, hc, .ref b, join_some ev, rfl, rfl, p, gs, v, rfl, hp, e1, hw v O W H Stp.refl sr r1⟩
        · exact hw.elim
      · exact hw.elim
    · exact hw.elim
end
end Wm
end

section
/-! Calls with keywords: what is written, put into the parameters' order, defaults among it. -/
namespace Wm
open PySem PySem.Spec PyProof.Rows L2
/-- where a parameter's value comes from -/
inductive SelI where
  | arg (j : Nat) | dfI (i : Int) | dfN
def pickA (as : List SD) : SelI → SD
  | .arg j => as[j]?.getD .no
  | .dfI i => .sh (.int i)
  | .dfN => .sh .non
def pickV (vs : List V) : SelI → V
  | .arg j => vs[j]?.getD .non
  | .dfI i => .int i
  | .dfN => .non
def unperm (inv : List Nat) (outs : List SD) : List SD := inv.map fun i => outs[i]?.getD .no
def permR (inv : List Nat) : Rs (SD × List SD) → Rs (SD × List SD)
  | .ok (r, outs) => .ok (r, unperm inv outs)
  | .exc c fs outs => .exc c fs (unperm inv outs)
  | .bad => .bad
def permF (sel : List SelI) (inv : List Nat) (F : Fn) : Fn := fun as => permR inv (F (sel.map (pickA as)))
def selB (m : Nat) (sel : List SelI) (inv : List Nat) : Bool :=
  inv.length == m && (List.range m).all (fun j => match inv[j]? with
    | some i => (match sel[i]? with
      | some (.arg k) => k == j
      | _ => false)
    | none => false) && (List.range sel.length).all (fun i => match sel[i]? with
    | some (.arg j) => inv[j]? == some i
    | _ => true)
theorem selB_len {m : Nat} {sel : List SelI} {inv : List Nat} (h : selB m sel inv = true) : inv.length = m := by
  unfold selB at h
  simp only [Bool.and_eq_true, beq_iff_eq] at h
  exact h.1.1
theorem selB_inv {m : Nat} {sel : List SelI} {inv : List Nat} (h : selB m sel inv = true) {i j : Nat} (e : inv[j]? = some i) : sel[i]? = some (.arg j) := by
  have hl := selB_len h
  unfold selB at h
  simp only [Bool.and_eq_true, beq_iff_eq, List.all_eq_true, List.mem_range] at h
  have hj : j < m := by have := (List.getElem?_eq_some_iff.mp e).1; omega
  have q := h.1.2 j hj
  rw [e] at q
  dsimp only at q
  cases es : sel[i]? with
  | none => rw [es] at q; cases q
  | some s =>
    rw [es] at q
    cases s with
    | arg k => have q : (k == j) = true := q; rw [beq_iff_eq] at q; rw [q]
    | dfI i => cases q
    | dfN => cases q
theorem selB_sel {m : Nat} {sel : List SelI} {inv : List Nat} (h : selB m sel inv = true) {i j : Nat} (e : sel[i]? = some (.arg j)) : inv[j]? = some i := by
  unfold selB at h
  simp only [Bool.and_eq_true, beq_iff_eq, List.all_eq_true, List.mem_range] at h
  have hi : i < sel.length := (List.getElem?_eq_some_iff.mp e).1
  have q := h.2 i hi
  rw [e] at q
  have q : (inv[j]? == some i) = true := q
  simpa using q
section
variable {G : Gx} {O W : List Addr} {H : Hp} {vs : List V}
theorem pickV_get {sel : List SelI} {i : Nat} {q : SelI} (e : sel[i]? = some q) : (sel.map (pickV vs))[i]? = some (pickV vs q) := by rw [List.getElem?_map, e]; rfl
theorem pv_join {sel : List SelI} {i : Nat} {q : SelI} (e : sel[i]? = some q) : (((sel.map (pickV vs)).map some)[i]?).join = some (pickV vs q) := by rw [List.getElem?_map, pickV_get e]; rfl
theorem vs_join {j : Nat} (h : j < vs.length) : ((vs.map some)[j]?).join = some (pickV vs (.arg j)) ∧ vs[j]? = some (pickV vs (.arg j)) := by
  have e : vs[j]? = some vs[j] := List.getElem?_eq_getElem h
  have p : pickV vs (.arg j) = vs[j] := by show vs[j]?.getD .non = _; rw [e]; rfl
  rw [List.getElem?_map, e, p]
  exact ⟨rfl, rfl⟩
theorem SR.perm {sel : List SelI} {inv : List Nat} {as : List SD} (ok : selB vs.length sel inv = true) (r : SR G vs O W (vs.map some) H as) : SR G (sel.map (pickV vs)) O W ((sel.map (pickV vs)).map some) H (sel.map (pickA as)) := by
  have la : as.length = vs.length := by have := r.len; rw [List.length_map] at this; exact this.symm
  have key : ∀ {i : Nat} {s : SD}, (sel.map (pickA as))[i]? = some s → ∃ q, sel[i]? = some q ∧ s = pickA as q := fun {i s} e => by
    rw [List.getElem?_map] at e
    obtain ⟨q, h1, h2⟩ := Option.map_eq_some_iff.mp e
    exact ⟨q, h1, h2.symm⟩
  have arg : ∀ {i j : Nat}, sel[i]? = some (.arg j) → j < vs.length ∧ as[j]? = some (pickA as (.arg j)) := fun {i j} e => by
    have hj : j < vs.length := by have := (List.getElem?_eq_some_iff.mp (selB_sel ok e)).1; rw [selB_len ok] at this; exact this
    refine ⟨hj, ?_⟩
    have e2 : as[j]? = some as[j] := List.getElem?_eq_getElem (by omega)
    show _ = some (as[j]?.getD .no)
    rw [e2]; rfl
  refine ⟨r.wf, by simp, fun i s e => ?_, fun i1 i2 s t a e1 e2 m1 m2 s1 s2 => ?_, r.tabs⟩
  · obtain ⟨q, h1, rfl⟩ := key e
    rw [pv_join h1, pickV_get h1]
    cases q with
    | arg j =>
      obtain ⟨hj, h2⟩ := arg h1
      have := r.slot j _ h2
      rw [(vs_join hj).1, (vs_join hj).2] at this
      exact this
    | dfI n => exact ⟨.int n, rfl, by simp only [Rp]⟩
    | dfN => exact ⟨.non, rfl, by simp only [Rp]⟩
  · obtain ⟨q1, h1, rfl⟩ := key e1
    obtain ⟨q2, h2, rfl⟩ := key e2
    have v1 := pv_join (vs := vs) h1
    have v2 := pv_join (vs := vs) h2
    rw [s1] at v1
    rw [s2] at v2
    cases q1 with
    | dfI n => cases m1
    | dfN => cases m1
    | arg j1 =>
      cases q2 with
      | dfI n => cases m2
      | dfN => cases m2
      | arg j2 =>
        obtain ⟨hj1, g1⟩ := arg h1
        obtain ⟨hj2, g2⟩ := arg h2
        have z := r.apart j1 j2 _ _ a g1 g2 m1 m2 (join_some (by rw [(vs_join hj1).1]; exact v1.symm)) (join_some (by rw [(vs_join hj2).1]; exact v2.symm))
        subst z
        have := (selB_sel ok h1).symm.trans (selB_sel ok h2)
        exact Option.some.inj this
theorem perm_back {sel : List SelI} {inv : List Nat} {outs : List SD} {j : Nat} {s : SD} (ok : selB vs.length sel inv = true) (lo : outs.length = sel.length) (e : (unperm inv outs)[j]? = some s) :
    ∃ i : Nat, sel[i]? = some (SelI.arg j) ∧ outs[i]? = some s ∧ j < vs.length := by
  unfold unperm at e
  rw [List.getElem?_map] at e
  obtain ⟨i, h1, h2⟩ := Option.map_eq_some_iff.mp e
  have h3 := selB_inv ok h1
  have hi : i < outs.length := by rw [lo]; exact (List.getElem?_eq_some_iff.mp h3).1
  have e2 : outs[i]? = some outs[i] := List.getElem?_eq_getElem hi
  rw [e2] at h2
  refine ⟨i, h3, e2.trans (congrArg some h2), ?_⟩
  have := (List.getElem?_eq_some_iff.mp h1).1
  rw [selB_len ok] at this
  exact this
theorem SR.unperm {sel : List SelI} {inv : List Nat} {outs : List SD} (ok : selB vs.length sel inv = true) (r : SR G (sel.map (pickV vs)) O W ((sel.map (pickV vs)).map some) H outs) : SR G vs O W (vs.map some) H (unperm inv outs) := by
  have lo : outs.length = sel.length := by have := r.len; simp at this; exact this.symm
  refine ⟨r.wf, by unfold Wm.unperm; rw [List.length_map, List.length_map, selB_len ok], fun j s e => ?_, fun j1 j2 s t a e1 e2 m1 m2 s1 s2 => ?_, r.tabs⟩
  · obtain ⟨i, h1, h2, hj⟩ := perm_back ok lo e
    have q := r.slot i s h2
    rw [pv_join h1, pickV_get h1] at q
    rw [(vs_join hj).1, (vs_join hj).2]
    exact q
  · obtain ⟨i1, h1, h2, hj1⟩ := perm_back ok lo e1
    obtain ⟨i2, g1, g2, hj2⟩ := perm_back ok lo e2
    have v1 := (vs_join hj1).1
    have v2 := (vs_join hj2).1
    rw [s1] at v1
    rw [s2] at v2
    have z := r.apart i1 i2 s t a h2 g2 m1 m2 (join_some (by rw [pv_join h1]; exact v1.symm)) (join_some (by rw [pv_join g1]; exact v2.symm))
    subst z
    have := h1.symm.trans g1
    cases this
    rfl
theorem ResR.unperm {sel : List SelI} {inv : List Nat} {outs : List SD} {v : V} {s : SD} (ok : selB vs.length sel inv = true) (r : SR G (sel.map (pickV vs)) O W ((sel.map (pickV vs)).map some) H outs) (h : ResR G O W ((sel.map (pickV vs)).map some) H outs v s) : ResR G O W (vs.map some) H (unperm inv outs) v s := by
  have lo : outs.length = sel.length := by have := r.len; simp at this; exact this.symm
  cases s with
  | no => exact h
  | byr xs => exact h
  | xn _ _ => exact h
  | gv => exact h
  | sh d => exact h
  | own xs =>
    obtain ⟨a, e, o, n⟩ := h
    refine ⟨a, e, o, fun j t q m z => ?_⟩
    obtain ⟨i, h1, h2, hj⟩ := perm_back ok lo q
    have v1 := (vs_join hj).1
    rw [z] at v1
    exact n i t h2 m (join_some (by rw [pv_join h1]; exact v1.symm))
theorem spF_perm {sel : List SelI} {inv : List Nat} {F : Fn} {m : Nat} {Q : VK} {E : XK} (ok : selB m sel inv = true) (h : spF G m (permF sel inv F) vs H Q E) : spF G sel.length F (sel.map (pickV vs)) H Q E := by
  obtain ⟨hl, O, W, as, sr, hw⟩ := h
  subst hl
  refine ⟨by simp, O, W, _, sr.perm ok, ?_⟩
  unfold permF at hw
  cases e : F (sel.map (pickA as)) with
  | bad => rw [e] at hw; exact hw
  | exc c fs outs =>
    rw [e] at hw
    exact fun p gs O' W' H' st sr' hp hf => hw p gs O' W' H' st (sr'.unperm ok) hp hf
  | ok q =>
    obtain ⟨r, outs⟩ := q
    rw [e] at hw
    exact fun v O' W' H' st sr' rr => hw v O' W' H' st (sr'.unperm ok) (rr.unperm ok sr')
end
/-- how a call with n values and keywords ks binds -/
structure KBs (K : PySem.W.Frag) (fd : FuncData) (ps : List Str) (n : Nat) (ks : List Str) (sel : List SelI) : Prop where
  ex : ∃ g, KBn K fd ps n ks g (fun vs zs => sel.map (pickV (vs ++ zs)))
def pickU (us : List Value) : Sum Nat Value → Value
  | .inl j => us[j]?.getD .none
  | .inr u => u
def selRel : List SelI → List (Sum Nat Value) → Prop
  | [], [] => True
  | .arg j :: r, .inl k :: t => j = k ∧ selRel r t
  | .dfI i :: r, .inr u :: t => (∃ k, u = .int i k) ∧ selRel r t
  | .dfN :: r, .inr u :: t => u = .none ∧ selRel r t
  | _, _ => False
theorem vals_get {vs : List V} {us : List Value} (h : Vals vs us) : ∀ j : Nat, RelV (vs[j]?.getD .non) (us[j]?.getD .none) := by
  induction h with
  | nil => intro j; exact rfl
  | cons h1 h2 ih =>
    intro j
    cases j with
    | zero => exact h1
    | succ j => exact ih j
theorem selRel_vals {vs : List V} {us : List Value} (h : Vals vs us) : ∀ {sel : List SelI} {su : List (Sum Nat Value)}, selRel sel su → Vals (sel.map (pickV vs)) (su.map (pickU us))
  | [], [], _ => .nil
  | .arg j :: r, .inl k :: t, q => by
    obtain ⟨rfl, q⟩ := q
    exact .cons (vals_get h j) (selRel_vals h q)
  | .dfI i :: r, .inr u :: t, q => by
    obtain ⟨⟨k, rfl⟩, q⟩ := q
    exact .cons ⟨k, rfl⟩ (selRel_vals h q)
  | .dfN :: r, .inr u :: t, q => by
    obtain ⟨rfl, q⟩ := q
    exact .cons rfl (selRel_vals h q)
theorem kbs_mk {K : PySem.W.Frag} {fd : FuncData} {ps : List Str} {n : Nat} {ks : List Str} {sel : List SelI} (su : List (Sum Nat Value)) (Dd : Addr) (dv : List (Str × Value)) (hr : selRel sel su) (hd : ∀ q ∈ dv, PySem.W.nsIn K Dd q.1 = some (some q.2))
    (h : ∀ us ws : List Value, us.length = n → ws.length = ks.length → KwChain Dd dv (bindArgs fd ⟨us, ks.zip ws⟩) (ps.zip (su.map (pickU (us ++ ws))))) : KBs K fd ps n ks sel :=
  ⟨fun us ws => su.map (pickU (us ++ ws)), ⟨fun s us ws X h1 h2 => BindsTo.of_looks fun M => KwChain.looks X hd (h us ws h1 h2), fun r1 r2 => selRel_vals (r1.append r2) hr⟩⟩
/-! ### the call -/
section
variable {X : Cx} {cl : Cl} {vs0 : List V} {Wx : WX} {k n : Nat} {f : Addr} {fd : FuncData} {ps ks : List Str} {x : Str} {p pos : Pos} {e : Expr} {es : List Expr} {kws : List Keyword} {fl : List LOp} {F : Fn} {sel : List SelI} {inv : List Nat} {m : Nat}
def tCallM (sp : Sp) (gV : List V → List V → List V) (E : L2.St → XK) (n m : Nat) (t tk : TA) : TE := fun σ H Q => t σ H fun vs H1 => tk σ H1 fun zs H2 => vs.length = n ∧ zs.length = m ∧ sp (gV vs zs) H2 Q (E σ)
theorem run_fnM {sp : Sp} {CX : CXT} {g : List Value → List Value → List Value} {gV : List V → List V → List V} {E : L2.St → XK} {pins : List (Addr × Obj)} {σ : L2.St} {H : Hp} {s : Shared} {Q : VK} {us ws : List Value} {vs zs : List V} (F : FnOk X.prog X.w X.K X.mg X.base CX k f fd ps sp) (hr : Room k X.A) (hb : KBn X.K fd ps n ks g gV) (hx : PassesAt CX X σ (E σ))
    (I : Inv X pins σ H s) (r : Vals vs us) (rz : Vals zs ws) (l1 : vs.length = n) (l2 : zs.length = ks.length) (h : sp (gV vs zs) H Q (E σ)) : wpAny (model X.prog X.w) X.A (call (.ref f) us (ks.zip ws)) (EP X pins σ Q) X.xe s := by
  refine wpAny_call (codeAny_mono (F.run X.A X.stack s H ⟨us, ks.zip ws⟩ (g us ws) (gV vs zs) Q (E σ) hr I.env0 (hb.to s us ws I.kIn (r.length.symm.trans l1) (rz.length.symm.trans l2)) (hb.rel r rz) h) fun q s' hq => ?_)
  match q, hq with
  | .error e, hq => exact hx pins H s e s' I hq
  | .ok (.ret u), hq => exact I.after hq
theorem pe_callM {sp : Sp} {CX : CXT} {g : List Value → List Value → List Value} {gV : List V → List V → List V} {E : L2.St → XK} {t tk : TA} (F : FnOk X.prog X.w X.K X.mg X.base CX k f fd ps sp) (hr : Room k X.A) (hg : Gl X x) (hm : X.mg x = some (.ref f)) (hk : PySem.W.keepIn X.K (.ref f) = true) (hb : KBn X.K fd ps n ks g gV) (hx : ∀ σ, PassesAt CX X σ (E σ))
    (ha : PA X (e :: es) t) (hkw : PK X kws tk) (hall : (backToKw pos (keywordEach kws X.env)).all (·.1.isSome) = true := by rfl) (hks : (backToKw pos (keywordEach kws X.env)).filterMap (·.1) = ks := by rfl)
    (hdb : (x == ("__debug__" : Str)) = false := by decide) (he : starEach (e :: es) X.env = (false, eval e X.env) :: starEach es X.env := by rfl)
    (hpl : ((backTo pos (starEach (e :: es) X.env)).any (·.1) || (backToKw pos (keywordEach kws X.env)).any (·.1.isNone)) = false := by rfl) :
    PE X (.Call (.Name x p) (e :: es) kws pos) (tCallM sp gV E n ks.length t tk) := by
  refine ⟨fun pins s σ H Q I h => wpAny_Call_Name_kw (ld_glob I hg hm ?_ hdb)⟩
  refine PySem.W.callWith_KW (h₀ := X.base) I.ok.mod.kin hk hall (thn (ha.run pos pins s σ H _ I h) fun us s1 q => ?_) hpl he
  obtain ⟨vs, H1, I1, r, q⟩ := q
  refine thn (hkw.run pos pins s1 σ H1 _ I1 q) fun ws s2 q2 => ?_
  obtain ⟨zs, H2, I2, rz, l1, l2, q2⟩ := q2
  refine ⟨I2.kIn, ?_⟩
  rw [hks]
  exact run_fnM F hr hb (hx σ) I2 r rz l1 l2 q2
theorem tAll_len : ∀ {ts : List TE} {σ : L2.St} {H : Hp} {R : List V → Hp → Prop}, tAll ts σ H R = tAll ts σ H fun vs H' => vs.length = ts.length ∧ R vs H'
  | [], σ, H, R => propext ⟨fun h => ⟨rfl, h⟩, fun h => h.2⟩
  | t :: ts, σ, H, R => by
    show t σ H (fun v H1 => tAll ts σ H1 fun vs H2 => R (v :: vs) H2) = t σ H fun v H1 => tAll ts σ H1 fun vs H2 => (v :: vs).length = (t :: ts).length ∧ R (v :: vs) H2
    congr 1
    funext v H1
    rw [tAll_len]
    congr 1
    funext vs H2
    simp only [List.length_cons, Nat.add_right_cancel_iff]
theorem tAll_app : ∀ {ts us : List TE} {σ : L2.St} {H : Hp} {R : List V → Hp → Prop}, tAll (ts ++ us) σ H R = tAll ts σ H fun vs H1 => tAll us σ H1 fun zs H2 => R (vs ++ zs) H2
  | [], us, σ, H, R => rfl
  | t :: ts, us, σ, H, R => by
    show t σ H (fun v H1 => tAll (ts ++ us) σ H1 fun vs H2 => R (v :: vs) H2) = t σ H fun v H1 => tAll ts σ H1 fun vs H2 => tAll us σ H2 fun zs H3 => R (v :: vs ++ zs) H3
    congr 1
    funext v H1
    exact tAll_app
inductive Stars (X : Cx) : List Expr → Prop
  | nil : Stars X []
  | cons {e : Expr} {es : List Expr} (h : starEach (e :: es) X.env = (false, eval e X.env) :: starEach es X.env) (r : Stars X es) : Stars X (e :: es)
theorem pes_split : ∀ {es fs : List Expr} {ts : List TE}, PEs X (es ++ fs) ts → ∃ t1 t2, ts = t1 ++ t2 ∧ PEs X es t1 ∧ PEs X fs t2
  | [], fs, ts, h => ⟨[], ts, rfl, .nil, h⟩
  | e :: es, fs, _, .cons h r => by
    obtain ⟨t1, t2, rfl, h1, h2⟩ := pes_split r
    exact ⟨_ :: t1, t2, rfl, .cons h h1, h2⟩
theorem pes_len : ∀ {es : List Expr} {ts : List TE}, PEs X es ts → ts.length = es.length
  | _, _, .nil => rfl
  | _, _, .cons _ r => congrArg (· + 1) (pes_len r)
theorem pes_pa : ∀ {es : List Expr} {ts : List TE}, PEs X es ts → Stars X es → PA X es (tAll ts)
  | _, _, .nil, _ => pa_nil
  | _, _, .cons h r, .cons q s => pa_cons h (pes_pa r s) q
theorem pes_pk : ∀ {kws : List Keyword} {ts : List TE}, PEs X (kws.map (·.value)) ts → PK X kws (tAll ts)
  | [], _, .nil => pk_nil
  | ⟨_, _, _⟩ :: kws, _, .cons h r => pk_cons h (pes_pk r)
/-- f(e, .., k = v, ..) -/
theorem ej_callK (hF : FnOk X.prog X.w X.K X.mg X.base (L2.CX X.prog X.w) k f fd ps (spF (gx X cl) sel.length F)) (hr : Room k X.A) (hg : Gl X x) (hm : X.mg x = some (.ref f)) (hk : PySem.W.keepIn X.K (.ref f) = true) (hb : KBs X.K fd ps (es.length + 1) ks sel) (tk : Takes X Wx)
    (hst : Stars X (e :: es)) (h : KJ X cl vs0 Wx (e :: es ++ kws.map (·.value)) fl) (ok : selB fl.length sel inv = true) (hall : (backToKw pos (keywordEach kws X.env)).all (·.1.isSome) = true := by rfl) (hks : (backToKw pos (keywordEach kws X.env)).filterMap (·.1) = ks := by rfl) (hkl : kws.length = ks.length := by rfl)
    (hdb : (x == ("__debug__" : Str)) = false := by decide) (he : starEach (e :: es) X.env = (false, eval e X.env) :: starEach es X.env := by rfl)
    (hpl : ((backTo pos (starEach (e :: es) X.env)).any (·.1) || (backToKw pos (keywordEach kws X.env)).any (·.1.isNone)) = false := by rfl) :
    EJ X cl vs0 Wx (.Call (.Name x p) (e :: es) kws pos) (xCall (permF sel inv F) fl) := by
  obtain ⟨ts, pe, _, q⟩ := h.ex
  obtain ⟨g, kb⟩ := hb.ex
  obtain ⟨t1, t2, rfl, h1, h2⟩ := pes_split pe
  refine ⟨⟨_, pe_callM (E := fun σ c d H => Wx c d σ H) hF hr hg hm hk kb (fun σ => passAt tk σ) (pes_pa h1 hst) (pes_pk h2) hall hks hdb he hpl, fun O W σ H ρ Q sr hw => ?_⟩⟩
  have z := call_core (F := permF sel inv F) rfl q O W σ H ρ Q (fun vs H1 => spF (gx X cl) sel.length F (sel.map (pickV vs)) H1 Q fun c d H' => Wx c d σ H') sr hw fun vs H1 h => spF_perm ok h
  have e1 : t1.length = es.length + 1 := pes_len h1
  have e2 : t2.length = ks.length := by rw [pes_len h2, List.length_map, hkl]
  rw [tAll_app, tAll_len] at z
  unfold tCallM
  rw [tAll_len]
  refine cast ?_ z
  congr 1
  funext vs H1
  refine propext (and_congr_right fun hl => ?_)
  rw [tAll_len]
  refine iff_of_eq ?_
  congr 1
  funext zs H2
  refine propext ⟨fun h => ⟨hl.trans e1, h.1.trans e2, h.2⟩, fun h => ⟨h.2.1.trans e2.symm, h.2.2⟩⟩
end
end Wm
end

section
/-! More operations: sorted, in, a dict without entries. -/
namespace Wm
open PySem PySem.Spec PyProof.Rows L2
section
variable {X : Cx} {cl : Cl} {vs0 : List V} {Wx : WX} {a b c e : Expr} {pos p2 : Pos} {fl : List LOp}
/-! ### sorted, of ints -/
def isrt (ns : List Int) : List Int := ns.mergeSort fun x y => decide (x ≤ y)
theorem isrt_perm (ns : List Int) : (isrt ns).Perm ns := List.mergeSort_perm ns _
theorem isrt_sorted (ns : List Int) : (isrt ns).Pairwise (· ≤ ·) := by
  have h := List.pairwise_mergeSort (le := fun (x y : Int) => decide (x ≤ y)) (fun x y z h1 h2 => by simp only [decide_eq_true_eq] at *; omega) (fun x y => by simp only [Bool.or_eq_true, decide_eq_true_eq]; omega) ns
  exact h.imp fun h => of_decide_eq_true h
theorem same_sorted {a b : List Int} (hp : a.Perm b) (ha : a.Pairwise (· ≤ ·)) (hb : b.Pairwise (· ≤ ·)) : a = b :=
  hp.eq_of_pairwise (fun x y _ _ h1 h2 => Int.le_antisymm h1 h2) ha hb
theorem isrt_of {ns ms : List Int} (h1 : ms.Perm ns) (h2 : ms.Pairwise (· ≤ ·)) : ms = isrt ns := same_sorted (h1.trans (isrt_perm ns).symm) h2 (isrt_sorted ns)
theorem isrt_self {ns : List Int} (h : ns.Pairwise (· ≤ ·)) : isrt ns = ns := (isrt_of (List.Perm.refl _) h).symm
abbrev pSorted := pIL fun ns => if ns.length ≤ sizeLine then .ok (.own ((isrt ns).map D.int)) else .bad
theorem pr_sorted : PrimR X cl (rSortedI X.K) pSorted := pr_IL fun O H a ns Q s hp => by
  split at hp
  · rename_i hl
    refine ⟨a, ns, rfl, s, fun ms p h1 h2 n => ?_⟩
    rw [isrt_of h1 h2]
    exact hp p _ _ (same_upd n) n upd_same (by rw [List.length_map, (isrt_perm ns).length_eq]; exact hl) RpA.ofInts
  · exact hp.elim
/-! ### {} -/
theorem ej_emp : EJ X cl vs0 Wx (.Dict [] [] pos) (xC (.dct [])) := by
  refine ⟨⟨_, pe_dnewK, fun O W σ H ρ Q sr q d hd => ?_⟩⟩
  have sm : Same H (upd H d (.dK [])) := same_upd hd
  refine q (.ref d) O W _ (Stp.same sm) (sr.same sm) ?_
  show Rp (gx X cl) O (upd H d (.dK [])) (.dct []) (.ref d)
  simp only [Rp, RpD]
  exact ⟨d, [], rfl, upd_same, fun z => sr.wf.trk d z (noD_none hd), rfl⟩
/-! ### in, not in: a list -/
def pIn (neg : Bool) : List D → Rs SD
  | [x, .lst ys] => if okN 60 x = true ∧ okN 60 (.lst ys) = true then .ok (.sh (.bl (neg ^^ ys.any fun y => eqD y x))) else .bad
  | _ => .bad
theorem any_py {x : D} (hx : okN 60 x = true) : ∀ {ys : List D}, okNs 59 ys = true → ((pys ys).any fun z => PyData.eqv z x.py) = ys.any fun y => eqD y x
  | [], _ => rfl
  | y :: ys, h => by
    simp only [okNs, Bool.and_eq_true] at h
    simp only [pys, List.any_cons, eqD_py h.1 hx, any_py hx h.2]
theorem in_core {O W : List Addr} {H : Hp} {ds : List D} {vs : List V} {Q : VK} {neg : Bool} (ho : OpA (gx X cl) O W H ds vs) (hp : AftP (gx X cl) O H Q (pIn neg ds)) : ∃ v w, vs = [v, w] ∧ ∃ d es, Dp X.K H v d ∧ Dp X.K H w (.list es) ∧ SeqAt.shaped d = true ∧ SeqAt.shaped (.list es) = true ∧ Q (.bl (neg ^^ es.any fun z => PyData.eqv z d)) H := by
  unfold pIn at hp
  split at hp
  · rename_i x ys
    split at hp
    · rename_i h
      obtain ⟨v, w, rfl, h1, h2⟩ := ho.two
      have hy : okNs 59 ys = true := by have := h.2; simpa only [okN] using this
      refine ⟨v, w, rfl, x.py, pys ys, h1.dp h.1, h2.dp h.2, okD_shaped h.1, okD_shaped h.2, ?_⟩
      rw [any_py h.1 hy]
      exact hp _ H (Same.refl H) (by simp only [Rp])
    · exact hp.elim
  · exact hp.elim
theorem pr_in : PrimR X cl (rd2 (rInD X.K)) (pIn false) := fun O W H ds vs Q w ho hp => by
  obtain ⟨v, w, rfl, d, es, h1, h2, h3, h4, h5⟩ := in_core ho hp
  exact ⟨d, es, h1, h2, h3, h4, by simpa using h5⟩
theorem pr_notIn : PrimR X cl (rd2 (rNotInD X.K)) (pIn true) := fun O W H ds vs Q w ho hp => by
  obtain ⟨v, w, rfl, d, es, h1, h2, h3, h4, h5⟩ := in_core ho hp
  exact ⟨d, es, h1, h2, h3, h4, by simpa using h5⟩
theorem ej_in (hu : X.A.units + 65 < cLine) (h : OJ X cl vs0 Wx [a, b] fl) (hm : behindInMarks .In b = false := by rfl) : EJ X cl vs0 Wx (.Compare a [.In] [b] pos) (xPrim fl (pIn false)) := ej_cmp (op_inD hu) pr_in h hm
theorem ej_notIn (hu : X.A.units + 65 < cLine) (h : OJ X cl vs0 Wx [a, b] fl) (hm : behindInMarks .NotIn b = false := by rfl) : EJ X cl vs0 Wx (.Compare a [.NotIn] [b] pos) (xPrim fl (pIn true)) := ej_cmp (op_notInD hu) pr_notIn h hm
theorem tj_in (hu : X.A.units + 65 < cLine) (h : OJ X cl vs0 Wx [a, b] fl) (hm : behindInMarks .In b = false := by rfl) : TJ X cl vs0 Wx (.Compare a [.In] [b] pos) (bT (xPrim fl (pIn false))) := tj_cmp (op_inD hu) pr_in h hm
theorem tj_notIn (hu : X.A.units + 65 < cLine) (h : OJ X cl vs0 Wx [a, b] fl) (hm : behindInMarks .NotIn b = false := by rfl) : TJ X cl vs0 Wx (.Compare a [.NotIn] [b] pos) (bT (xPrim fl (pIn true))) := tj_cmp (op_notInD hu) pr_notIn h hm
/-! ### in, not in: range(n) -/
theorem cr_rng1 : CallR X (.type "range") (fun vs H Q => ∃ j, vs = [V.int j] ∧ ∀ p, H p = none → Q (.ref p) (upd H p (.rng 0 j))) := by
  intro pins s σ H vs us Q I r h
  obtain ⟨j, rfl, q⟩ := h
  obtain ⟨u1, rfl, t, rfl⟩ := vals1 r
  exact call_range_1 ⟨.ref s.heap.objs.size, upd H s.heap.objs.size (.rng 0 j), I.laid (t' := s.toks + 2) (fun b o e => Heap.get?_push_of_some _ e) (Nat.le_refl _) ⟨_, _, _, Heap.get?_push_size _ rfl⟩, rfl, q _ (I.hok.fresh (Nat.le_refl _))⟩
theorem op_notInRng : OpR X (compareOp .NotIn) (fun x y H Q => ∃ i a lo hi, x = V.int i ∧ y = V.ref a ∧ H a = some (.rng lo hi) ∧ Q (.bl (!decide (lo ≤ i ∧ i < hi))) H) := by
  intro pins s σ H x y v u Q I rx ry h
  obtain ⟨i, a, lo, hi, rfl, rfl, ha, q⟩ := h
  obtain ⟨k, rfl⟩ := rx
  obtain rfl : u = Value.ref a := ry
  obtain ⟨t1, t2, t3, ho⟩ := I.hok a _ ha
  show wpAny _ _ (do return Value.bool (!(← contains (Value.ref a) (Value.int i k)))) _ _ s
  have ty : s.heap.get? a = some { cls := .type "range", dict := none, data := .fields #[.int lo t1, .int hi t2, .int 1 t3], slots := #[] } := ho
  refine wpAny_bind (wpAny_contains_slot (T := "range") ⟨_, ty, rfl⟩ F.slot_range_contains ?_)
  refine call_meets F.slot_range_contains ⟨_, ty, rfl⟩ F.entry_range_contains (F.args_range_contains_2 _ _) (q_contains a lo hi i t1 t2 t3 k) ⟨ty, wpAny_truthy_bool (wpAny_pure ⟨.bl _, H, I, rfl, ?_⟩)⟩
  rw [place1]
  exact q
def pNotInR : List D → Rs SD
  | [.int i, .int n] => .ok (.sh (.bl (!decide (0 ≤ i ∧ i < n))))
  | _ => .bad
theorem ej_notInR {p p3 : Pos} (hg : Gl X "range") (hm : X.mg "range" = none) (h : OJ X cl vs0 Wx [a, b] fl) (hs : starEach [b] X.env = [(false, eval b X.env)] := by rfl) (hmk : behindInMarks .NotIn (.Call (.Name "range" p) [b] [] p3) = false := by rfl) :
    EJ X cl vs0 Wx (.Compare a [.NotIn] [.Call (.Name "range" p) [b] [] p3] pos) (xPrim fl pNotInR) := by
  obtain ⟨ta, tb, ha, hb, q⟩ := two_of h
  refine ⟨⟨_, pe_cmpR op_notInRng ha (pe_callTy cr_rng1 hg hm (by decide +kernel) (pa_cons hb pa_nil hs) (by decide) (by decide) hs) hmk, prim_core (rd := rd2 fun x y H Q => ∃ j, [y] = [V.int j] ∧ ∀ p, H p = none → ∃ i a lo hi, x = V.int i ∧ V.ref p = V.ref a ∧ upd H p (.rng 0 j) a = some (.rng lo hi) ∧ Q (.bl (!decide (lo ≤ i ∧ i < hi))) (upd H p (.rng 0 j))) (fun O W H ds vs Q w ho hp => ?_) q⟩⟩
  unfold pNotInR at hp
  split at hp
  · obtain ⟨x, y, rfl, h1, h2⟩ := ho.two
    exact ⟨_, by rw [h2.int], fun p n => ⟨_, p, 0, _, h1.int, rfl, upd_same, hp _ _ (same_upd n) (by simp only [Rp])⟩⟩
  · exact hp.elim
end
end Wm
end

section
/-! Refusals: what is known of their classes. -/
namespace Wm
open PySem PySem.Spec PyProof.Rows L2
def clsBody : Stmt → List Stmt
  | .ClassDef _ _ _ b _ _ _ _ _ _ _ => b
  | _ => []
def inS (st : Stmt) (i : Nat) : Stmt := (clsBody st).getD i (.Pass ⟨0, 0, 0, 0⟩)
/-- the class above, by its name -/
structure WayC (K : PySem.W.Frag) (mg : Str → Option Value) (x : Str) where
  C : Addr
  mc : Value
  m : mg x = some (.ref C)
  ga : PySem.W.specialIn K (.ref C) "__getattribute__" = some (some (.builtin "type.__getattribute__"))
  rd : PySem.W.readsIn K C mc = true
  vV : PySem.W.findCls K (.ref C) mc "__init__" = some (.val (.builtin "ValueError.__init__"))
/-- a refusal's class: its fields, its __init__ -/
structure ExcC (K : PySem.W.Frag) (mg : Str → Option Value) (cl : Cl) (c : Str) (fs : List Str) (qual : Str) (st : Stmt) where
  fI : Addr
  fd : FuncData
  m : mg c = some (.ref (cl.at' c))
  oex : OexC K (cl.at' c)
  nf : ∀ f ∈ fs, PySem.W.findIn K (.ref (cl.at' c)) f = some none
  iC : PySem.W.findIn K (.ref (cl.at' c)) "__init__" = some (some (.ref fI))
  tI : PySem.W.typeIn K (.ref fI) = some (.type "function")
  F : Fun K "__init__" qual st fI fd
  xf : XfC K (cl.at' c)
theorem exm_pair {K : PySem.W.Frag} {A B : Addr} {b : Bool} (h1 : PySem.W.subIn K (.ref B) (.type "BaseException") = some true) (h2 : PySem.W.isClsIn K B = true) (h3 : PySem.W.typeIn K (.ref B) = some (.type "type")) (h4 : PySem.W.subIn K (.ref A) (.ref B) = some b) : PySem.W.exmOne K (.ref A) (.ref B) = some b := by
  have e1 : (PySem.W.subIn K (.ref B) (.type "BaseException") == some true) = true := by rw [h1]; rfl
  have e2 : ((PySem.W.clsIn K B).isSome && PySem.W.typeIn K (.ref B) == some (.type "type")) = true := by
    rw [show (PySem.W.clsIn K B).isSome = true from h2, h3]; rfl
  unfold PySem.W.exmOne
  simp only [e1, if_true, PySem.W.kitCls, e2]
  exact h4
def AllM {α : Type} (P : α → Prop) : List α → Prop
  | [] => True
  | q :: r => P q ∧ AllM P r
theorem AllM.mem {α : Type} {P : α → Prop} : ∀ {l : List α}, AllM P l → ∀ q ∈ l, P q
  | q :: r, h, p, hp => by
    rcases List.mem_cons.mp hp with rfl | hp
    · exact h.1
    · exact AllM.mem h.2 p hp
abbrev Exm := List ((Str × Str) × Bool)
def exmL (t : Exm) (c h : Str) : Option Bool := match t with
  | [] => none
  | ((a, b), v) :: r => if a = c ∧ b = h then some v else exmL r c h
theorem exmL_mem : ∀ {t : Exm} {c h : Str} {b : Bool}, exmL t c h = some b → ((c, h), b) ∈ t
  | ((a, b'), v) :: r, c, h, b, e => by
    unfold exmL at e
    split at e
    · rename_i q
      obtain ⟨rfl, rfl⟩ := q
      cases e
      exact List.mem_cons_self
    · exact List.mem_cons_of_mem _ (exmL_mem e)
def ExmOk (K : PySem.W.Frag) (cl : Cl) (t : Exm) : Prop := AllM (fun q => PySem.W.exmOne K (.ref (cl.at' q.1.1)) (.ref (cl.at' q.1.2)) = some q.2) t
theorem ExmOk.get {K : PySem.W.Frag} {cl : Cl} {t : Exm} (h : ExmOk K cl t) : ∀ c x b, exmL t c x = some b → PySem.W.exmOne K (.ref (cl.at' c)) (.ref (cl.at' x)) = some b := fun c x b e => AllM.mem h ((c, x), b) (exmL_mem e)
def clOf (l : List (Str × Addr)) (ts : TC := {}) : Cl := ⟨fun c => (l.lookup c).getD 0, fun _ => none, ts⟩
theorem passF {X : Cx} {Wx : WX} (tk : Takes X Wx) : Passes (L2.CX X.prog X.w) X (fun _ _ _ => False) := fun pins σ H s e s' I h => by
  obtain ⟨_, _, _, _, _, _, _, _, _, _, _, _, z⟩ := h
  exact z.elim
theorem spI1_len {K : PySem.W.Frag} {C : Addr} {f : Str} : ∀ vs H Q E, spI1 K C f vs H Q E → vs.length = 2 := fun vs H Q E h => by
  obtain ⟨a, w, rfl, _⟩ := h
  rfl
end Wm
end

section
/-! any, all, min, max of lists and tuples. -/
namespace Wm
open PySem PySem.Spec PyProof.Rows L2
theorem walkK {prog : Program} {w : World} {A : Around} (k : Kd) (hh : A.handled = none) (it a : Addr) (hne : a ≠ it) (its : Array Value) : Walks prog w A it [it, a] [it] its.size (fun i v => its[i]? = some v) (fun i h => ItK h it a i k ∧ IsK h a its k) := by
  cases k
  · exact Walks.list hh it a hne its
  · exact Walks.tuple hh it a hne its
theorem IsK.push {h : Heap} {a : Addr} {its : Array Value} {k : Kd} (x : IsK h a its k) (o : Obj) : IsK (h.push o) a its k := by
  cases k
  · exact Heap.IsList.push x o
  · exact Heap.IsTuple.push x o
theorem iterK {prog : Program} {w : World} {A : Around} {E : Value → Shared → Prop} {s : Shared} {a : Addr} {its : Array Value} {k : Kd} {Q : Value → Shared → Prop} (h : IsK s.heap a its k) (q : Q (.ref s.heap.objs.size) { s with heap := s.heap.push (obK a k) }) : wpAny (model prog w) A (pyIter (.ref a)) Q E s := by
  cases k
  · exact wpAny_pyIter_list h q
  · exact wpAny_pyIter_tuple h q
/-- a number's or a truth's truth -/
def truV : V → Option Bool
  | .int i => some (i != 0)
  | .bl b => some b
  | _ => none
theorem truth_flat {prog : Program} {w : World} {A : Around} {xs : List V} {its : List Value} (r : Vals xs its) (tr : Nat → Bool) (h : ∀ (i : Nat) (x : V), xs[i]? = some x → truV x = some (tr i)) : TruthOf prog w A (fun i v => its.toArray[i]? = some v) tr := fun i v s Q E hv hq => by
  have hv' : its[i]? = some v := by simpa using hv
  have key : ∀ {xs : List V} {its : List Value} {i : Nat} {v : Value}, Vals xs its → its[i]? = some v → ∃ x, xs[i]? = some x ∧ RelV x v := by
    intro xs its i v r
    induction r generalizing i with
    | nil => intro e; cases e
    | cons h1 h2 ih =>
      intro e
      cases i with
      | zero => cases e; exact ⟨_, rfl, h1⟩
      | succ i => exact ih e
  obtain ⟨x, e, rx⟩ := key r hv'
  have ht := h i x e
  cases x with
  | int n =>
    obtain ⟨t, rfl⟩ := rx
    injection ht with ht
    rw [← ht] at hq
    exact truthy_int hq
  | bl b =>
    obtain rfl : v = .bool b := rx
    injection ht with ht
    rw [← ht] at hq
    exact wpAny_truthy_bool hq
  | _ => cases ht
section
variable {X : Cx} {cl : Cl} {vs0 : List V} {Wx : WX} {a b c e : Expr} {pos p2 : Pos} {fl : List LOp}
def rAnyK (K : PySem.W.Frag) (f : List Bool → Bool) : List V → Hp → VK → Prop := fun vs H Q => ∃ (a : Addr) (k : Kd) (xs : List V) (bs : List Bool), vs = [V.ref a] ∧ SqK K H a xs k ∧ xs.length = bs.length ∧ (∀ (i : Nat) (x : V), xs[i]? = some x → truV x = some (bs.getD i false)) ∧ Q (.bl (f bs)) H
theorem cr_anyK (hc : X.calm = true) : CallR X (.builtin "any") (rAnyK X.K fun bs => bs.any id) := by
  intro pins s σ H vs us Q I r h
  obtain ⟨a, k, xs, bs, rfl, hs, hl, ht, q⟩ := h
  obtain ⟨its, rv, hk⟩ := seqK I hs
  rw [Vals.ref1 r]
  refine call_any_walk (iterK hk ⟨_, _, _, _, _, _, _, rfl, walkK (A := X.A.in1) k (I.ok.hd hc) _ a (Nat.ne_of_lt hk.lt) its.toArray, ⟨obK_it (Heap.get?_push_size _ (by cases k <;> rfl)), hk.push _⟩, truth_flat rv _ ht, fun h' tk hkp => ?_⟩)
  refine ⟨.bl _, H, I.kept fun b o eo => hkp b o (fun hm => ?_) (Heap.get?_push_of_some _ eo), ?_, q⟩
  · rcases List.mem_cons.mp hm with e1 | hm
    · exact absurd (e1 ▸ Heap.lt_size eo) (Nat.lt_irrefl _)
    · cases hm
  · show Value.bool _ = Value.bool _
    dsimp only
    rw [← L2.any_range, List.size_toArray, ← rv.length, hl]
theorem cr_allK (hc : X.calm = true) : CallR X (.builtin "all") (rAnyK X.K fun bs => bs.all id) := by
  intro pins s σ H vs us Q I r h
  obtain ⟨a, k, xs, bs, rfl, hs, hl, ht, q⟩ := h
  obtain ⟨its, rv, hk⟩ := seqK I hs
  rw [Vals.ref1 r]
  refine call_all_walk (iterK hk ⟨_, _, _, _, _, _, _, rfl, walkK (A := X.A.in1) k (I.ok.hd hc) _ a (Nat.ne_of_lt hk.lt) its.toArray, ⟨obK_it (Heap.get?_push_size _ (by cases k <;> rfl)), hk.push _⟩, truth_flat rv _ ht, fun h' tk hkp => ?_⟩)
  refine ⟨.bl _, H, I.kept fun b o eo => hkp b o (fun hm => ?_) (Heap.get?_push_of_some _ eo), ?_, q⟩
  · rcases List.mem_cons.mp hm with e1 | hm
    · exact absurd (e1 ▸ Heap.lt_size eo) (Nat.lt_irrefl _)
    · cases hm
  · show Value.bool _ = Value.bool _
    dsimp only
    rw [← L2.all_range, List.size_toArray, ← rv.length, hl]
def trB : D → Bool
  | .int i => i != 0
  | .bl b => b
  | _ => false
def okB : D → Bool
  | .int _ => true
  | .bl _ => true
  | _ => false
def pAnyK (f : List Bool → Bool) : List D → Rs SD
  | [.tup xs] => if xs.all okB then .ok (.sh (.bl (f (xs.map trB)))) else .bad
  | [.lst xs] => if xs.all okB then .ok (.sh (.bl (f (xs.map trB)))) else .bad
  | _ => .bad
abbrev pAny := pAnyK fun bs => bs.any id
abbrev pAll := pAnyK fun bs => bs.all id
theorem okB_tr {G : Gx} {O : List Addr} {H : Hp} {ds : List D} {vs : List V} (r : RpA G O H ds vs) (h : ds.all okB = true) : ∀ (i : Nat) (x : V), vs[i]? = some x → truV x = some ((ds.map trB).getD i false) := fun i x e => by
  obtain ⟨d, ed, rd⟩ := r.getV e
  have ho : okB d = true := List.all_eq_true.mp h d (List.mem_of_getElem? ed)
  rw [List.getD_eq_getElem?_getD, List.getElem?_map, ed]
  cases d with
  | int i => simp only [Rp] at rd; subst rd; rfl
  | bl b => simp only [Rp] at rd; subst rd; rfl
  | _ => cases ho
theorem pr_anyK (f : List Bool → Bool) : PrimR X cl (rAnyK X.K f) (pAnyK f) := by
  intro O W H ds vs Q w ho hp
  unfold pAnyK at hp
  split at hp
  · split at hp
    · rename_i xs hk
      obtain ⟨v, rfl, h1⟩ := ho.one
      obtain ⟨a, us, rfl, t, r⟩ := h1.tup
      exact ⟨a, .t, us, _, rfl, t.sq, by rw [List.length_map, r.length], okB_tr r hk, hp _ H (Same.refl H) (by simp only [Rp])⟩
    · exact hp.elim
  · split at hp
    · rename_i xs hk
      obtain ⟨v, rfl, h1⟩ := ho.one
      obtain ⟨a, us, rfl, t, _, r⟩ := h1.lst
      exact ⟨a, .l, us, _, rfl, SqL.of t, by rw [List.length_map, r.length], okB_tr r hk, hp _ H (Same.refl H) (by simp only [Rp])⟩
    · exact hp.elim
  · exact hp.elim
/-! ### min, max -/
def maxL : List Int → Int
  | [] => 0
  | [x] => x
  | x :: y :: r => let m := maxL (y :: r); if x < m then m else x
def minL : List Int → Int
  | [] => 0
  | [x] => x
  | x :: y :: r => let m := minL (y :: r); if m < x then m else x
theorem maxL_spec : ∀ (ns : List Int), 0 < ns.length → maxL ns ∈ ns ∧ ∀ y ∈ ns, y ≤ maxL ns
  | [x], _ => by simp [maxL]
  | x :: y :: r, _ => by
    have ih := maxL_spec (y :: r) (by simp)
    simp only [maxL]
    split
    · refine ⟨List.mem_cons_of_mem _ ih.1, fun z hz => ?_⟩
      rcases List.mem_cons.mp hz with rfl | hz
      · omega
      · exact ih.2 z hz
    · refine ⟨List.mem_cons_self, fun z hz => ?_⟩
      rcases List.mem_cons.mp hz with rfl | hz
      · omega
      · have := ih.2 z hz; omega
theorem minL_spec : ∀ (ns : List Int), 0 < ns.length → minL ns ∈ ns ∧ ∀ y ∈ ns, minL ns ≤ y
  | [x], _ => by simp [minL]
  | x :: y :: r, _ => by
    have ih := minL_spec (y :: r) (by simp)
    simp only [minL]
    split
    · refine ⟨List.mem_cons_of_mem _ ih.1, fun z hz => ?_⟩
      rcases List.mem_cons.mp hz with rfl | hz
      · omega
      · exact ih.2 z hz
    · refine ⟨List.mem_cons_self, fun z hz => ?_⟩
      rcases List.mem_cons.mp hz with rfl | hz
      · omega
      · have := ih.2 z hz; omega
def pMax : List D → Rs SD
  | [.int i, .int j] => .ok (.sh (.int (if i < j then j else i)))
  | [.lst ds] => match asInts ds with
    | some ns => if 0 < ns.length then .ok (.sh (.int (maxL ns))) else .bad
    | none => .bad
  | _ => .bad
def pMin : List D → Rs SD
  | [.int i, .int j] => .ok (.sh (.int (if j < i then j else i)))
  | [.lst ds] => match asInts ds with
    | some ns => if 0 < ns.length then .ok (.sh (.int (minL ns))) else .bad
    | none => .bad
  | _ => .bad
theorem call_maxD (hc : X.calm = true) : CallR X (.builtin "max") (fun xs H Q => (∃ i j, xs = [.int i, .int j] ∧ Q (.int (if j > i then j else i)) H) ∨ rMax X.K xs H Q) := (call_max2 hc).or (cr_max hc)
theorem call_minD (hc : X.calm = true) : CallR X (.builtin "min") (fun xs H Q => (∃ i j, xs = [.int i, .int j] ∧ Q (.int (if j < i then j else i)) H) ∨ rMin X.K xs H Q) := (call_min2 hc).or (cr_min hc)
theorem pr_max : PrimR X cl (fun xs H Q => (∃ i j, xs = [.int i, .int j] ∧ Q (.int (if j > i then j else i)) H) ∨ rMax X.K xs H Q) pMax := by
  intro O W H ds vs Q w ho hp
  unfold pMax at hp
  split at hp
  · obtain ⟨v, u, rfl, h1, h2⟩ := ho.two
    exact .inl ⟨_, _, by rw [h1.int, h2.int], hp _ H (Same.refl H) (by simp only [Rp])⟩
  · split at hp
    · split at hp
      · rename_i ns e hl
        obtain ⟨v, rfl, h1⟩ := ho.one
        rw [asInts_eq e] at h1
        obtain ⟨a, us, rfl, t, _, r⟩ := h1.lst
        rw [r.ints] at t
        refine .inr ⟨a, ns, rfl, SqL.of t, hl, fun m h1 h2 => ?_⟩
        have sp := maxL_spec ns hl
        rw [show m = maxL ns from Int.le_antisymm (sp.2 m h1) (h2 _ sp.1)]
        exact hp _ H (Same.refl H) (by simp only [Rp])
      · exact hp.elim
    · exact hp.elim
  · exact hp.elim
theorem pr_min : PrimR X cl (fun xs H Q => (∃ i j, xs = [.int i, .int j] ∧ Q (.int (if j < i then j else i)) H) ∨ rMin X.K xs H Q) pMin := by
  intro O W H ds vs Q w ho hp
  unfold pMin at hp
  split at hp
  · obtain ⟨v, u, rfl, h1, h2⟩ := ho.two
    exact .inl ⟨_, _, by rw [h1.int, h2.int], hp _ H (Same.refl H) (by simp only [Rp])⟩
  · split at hp
    · split at hp
      · rename_i ns e hl
        obtain ⟨v, rfl, h1⟩ := ho.one
        rw [asInts_eq e] at h1
        obtain ⟨a, us, rfl, t, _, r⟩ := h1.lst
        rw [r.ints] at t
        refine .inr ⟨a, ns, rfl, SqL.of t, hl, fun m h1 h2 => ?_⟩
        have sp := minL_spec ns hl
        rw [show m = minL ns from Int.le_antisymm (h2 _ sp.1) (sp.2 m h1)]
        exact hp _ H (Same.refl H) (by simp only [Rp])
      · exact hp.elim
    · exact hp.elim
  · exact hp.elim
theorem tj_notInR {p p3 : Pos} (hg : Gl X "range") (hm : X.mg "range" = none) (h : OJ X cl vs0 Wx [a, b] fl) (hs : starEach [b] X.env = [(false, eval b X.env)] := by rfl) (hmk : behindInMarks .NotIn (.Call (.Name "range" p) [b] [] p3) = false := by rfl) :
    TJ X cl vs0 Wx (.Compare a [.NotIn] [.Call (.Name "range" p) [b] [] p3] pos) (bT (xPrim fl pNotInR)) := by
  obtain ⟨ta, tb, ha, hb, q⟩ := two_of h
  refine ⟨⟨_, pt_cmpR op_notInRng ha (pe_callTy cr_rng1 hg hm (by decide +kernel) (pa_cons hb pa_nil hs) (by decide) (by decide) hs) hmk, fun O W σ H ρ Q sr hw => ?_⟩⟩
  refine prim_core (rd := rd2 fun x y H Q => ∃ j, [y] = [V.int j] ∧ ∀ p, H p = none → ∃ i a lo hi, x = V.int i ∧ V.ref p = V.ref a ∧ upd H p (.rng 0 j) a = some (.rng lo hi) ∧ Q (.bl (!decide (lo ≤ i ∧ i < hi))) (upd H p (.rng 0 j))) (fun O W H ds vs Q w ho hp => ?_) q O W σ H ρ _ sr (tst_core hw)
  unfold pNotInR at hp
  split at hp
  · obtain ⟨x, y, rfl, h1, h2⟩ := ho.two
    exact ⟨_, by rw [h2.int], fun p n => ⟨_, p, 0, _, h1.int, rfl, upd_same, hp _ _ (same_upd n) (by simp only [Rp])⟩⟩
  · exact hp.elim
end
end Wm
end

section
/-! The end for any classes; evaluation of what came behind k04. -/
namespace Wm
open PySem PySem.Spec PyProof.Rows L2
def spA (K : PySem.W.Frag) (n : Nat) (F : Fn) : Sp := fun vs H Q E => ∀ cl : Cl, cl.tabs = {} → spF (gk K cl) n F vs H Q E
theorem spA_sp {K : PySem.W.Frag} {F : Fn} {H : Hp} {a : Addr} {ns : List Int} (hl : ns.length ≤ 63) (hS : SqL K H a (ns.map V.int)) (hF : ∃ ρ, F [.sh (.scr ns)] = .ok (.sh (.bl true), ρ)) :
    spA K 1 F [.ref a] H (fun v _ => v = .bl true) fun _ _ _ => False := fun cl ht => law_sp hl hS (KT.nil ht) hF
theorem spA_ok {P : Program} {w : World} {K : PySem.W.Frag} {mg : Str → Option Value} {base : Heap} {CX : CXT} {k n : Nat} {f : Addr} {fd : FuncData} {ps : List Str} {cl : Cl} {F : Fn} (h : FnOk P w K mg base CX k f fd ps (spF (gk K cl) n F)) (ht : cl.tabs = {} := by rfl) : FnOk P w K mg base CX k f fd ps (spA K n F) := h.imp fun vs H Q E q => q cl ht
/-! ### calls with keywords -/
@[simp] theorem permF_ap (sel : List SelI) (inv : List Nat) (F : Fn) (as : List SD) : permF sel inv F as = permR inv (F (sel.map (pickA as))) := (rfl)
@[simp] theorem permR_ok (inv : List Nat) (r : SD) (outs : List SD) : permR inv (.ok (r, outs)) = .ok (r, inv.map fun i => outs[i]?.getD .no) := (rfl)
@[simp] theorem permR_exc (inv : List Nat) (c : Str) (fs : List (Str × D)) (outs : List SD) : permR inv (.exc c fs outs) = .exc c fs (inv.map fun i => outs[i]?.getD .no) := (rfl)
@[simp] theorem pickA_arg (as : List SD) (j : Nat) : pickA as (.arg j) = as[j]?.getD .no := (rfl)
@[simp] theorem pickA_dfI (as : List SD) (j : Int) : pickA as (.dfI j) = .sh (.int j) := (rfl)
@[simp] theorem pickA_dfN (as : List SD) : pickA as .dfN = .sh .non := (rfl)
/-! ### refusals -/
@[simp] theorem sRaise1_ap (c f : Str) (fx : Sx) (ρ : List SD) : sRaise1 c f fx ρ = (mops [fx] ρ).bind fun q => excOne c f q.2 q.1 := (rfl)
@[simp] theorem excOne_ev (c f : Str) (ρ : List SD) (d : D) : excOne c f ρ [d] = .exc c [(f, d)] ρ := (rfl)
@[simp] theorem leave_exc (n : Nat) (c : Str) (fs : List (Str × D)) (ρ : List SD) : Rs.leave n (.exc c fs ρ) = .exc c fs (trim n ρ) := (rfl)
@[simp] theorem home_exc (ps : List (SD × Option Nat)) (ρ : List SD) (c : Str) (fs : List (Str × D)) (as : List SD) : Rs.home ps ρ (.exc c fs as) = .exc c fs (backAll ps as ρ) := (rfl)
@[simp] theorem homeT_exc (ρ : List SD) (c : Str) (fs : List (Str × D)) (as : List SD) : Rs.homeT ρ (.exc c fs as) = .exc c fs ρ := (rfl)
def tryR (E : Str → Str → Option Bool) (hs : List Hd) : Rs Fl → Rs Fl
  | .exc c fs ρ => catchS E hs c fs ρ
  | r => r
@[simp] theorem sTry_ap (E : Str → Str → Option Bool) (gb : Ss) (hs : List Hd) (ρ : List SD) : sTry E gb hs ρ = tryR E hs (gb ρ) := by
  unfold sTry tryR
  rfl
@[simp] theorem tryR_ok (E : Str → Str → Option Bool) (hs : List Hd) (fl : Fl) : tryR E hs (.ok fl) = .ok fl := (rfl)
@[simp] theorem tryR_exc (E : Str → Str → Option Bool) (hs : List Hd) (c : Str) (fs : List (Str × D)) (ρ : List SD) : tryR E hs (.exc c fs ρ) = catchS E hs c fs ρ := (rfl)
@[simp] theorem catch_nil (E : Str → Str → Option Bool) (c : Str) (fs : List (Str × D)) (ρ : List SD) : catchS E [] c fs ρ = .exc c fs ρ := (rfl)
def catchO (E : Str → Str → Option Bool) (h : Hd) (r : List Hd) (c : Str) (fs : List (Str × D)) (ρ : List SD) : Option Bool → Rs Fl
  | some true => flX h.off (h.g (h.into c fs ρ))
  | some false => catchS E r c fs ρ
  | none => .bad
@[simp] theorem catch_cons (E : Str → Str → Option Bool) (h : Hd) (r : List Hd) (c : Str) (fs : List (Str × D)) (ρ : List SD) : catchS E (h :: r) c fs ρ = catchO E h r c fs ρ (E c h.cn) := by
  unfold catchO
  rw [catchS]
  try (rcases E c h.cn with _ | b <;> first | rfl | (cases b <;> rfl))
@[simp] theorem catchO_true (E : Str → Str → Option Bool) (h : Hd) (r : List Hd) (c : Str) (fs : List (Str × D)) (ρ : List SD) : catchO E h r c fs ρ (some true) = flX h.off (h.g (h.into c fs ρ)) := (rfl)
@[simp] theorem catchO_false (E : Str → Str → Option Bool) (h : Hd) (r : List Hd) (c : Str) (fs : List (Str × D)) (ρ : List SD) : catchO E h r c fs ρ (some false) = catchS E r c fs ρ := (rfl)
@[simp] theorem into_none (cn : Str) (g : Ss) (c : Str) (fs : List (Str × D)) (ρ : List SD) : Hd.into ⟨cn, none, g⟩ c fs ρ = ρ := (rfl)
@[simp] theorem into_some (cn : Str) (i : Nat) (g : Ss) (c : Str) (fs : List (Str × D)) (ρ : List SD) : Hd.into ⟨cn, some i, g⟩ c fs ρ = ρ.set i (.xn c fs) := (rfl)
@[simp] theorem off_none (cn : Str) (g : Ss) (ρ : List SD) : Hd.off ⟨cn, none, g⟩ ρ = ρ := (rfl)
@[simp] theorem off_some (cn : Str) (i : Nat) (g : Ss) (ρ : List SD) : Hd.off ⟨cn, some i, g⟩ ρ = ρ.set i .no := (rfl)
@[simp] theorem flX_nx (o : List SD → List SD) (ρ : List SD) : flX o (.ok (.nx ρ)) = if noXn (o ρ) then .ok (.nx (o ρ)) else .bad := (rfl)
@[simp] theorem flX_rt (o : List SD → List SD) (r : SD) (ρ : List SD) : flX o (.ok (.rt r ρ)) = if noXn (o ρ) then .ok (.rt r (o ρ)) else .bad := (rfl)
@[simp] theorem noXn_nil : noXn [] = true := (rfl)
@[simp] theorem noXn_no (r : List SD) : noXn (.no :: r) = noXn r := (rfl)
@[simp] theorem noXn_sh (d : D) (r : List SD) : noXn (.sh d :: r) = noXn r := (rfl)
@[simp] theorem noXn_own (d : List D) (r : List SD) : noXn (.own d :: r) = noXn r := (rfl)
@[simp] theorem noXn_byr (d : List D) (r : List SD) : noXn (.byr d :: r) = noXn r := (rfl)
def fldO (cs : List Str) (f : Str) (ρ : List SD) : Option SD → Rs (SD × List SD)
  | some (.xn c fs) => if c ∈ cs then (match fs.lookup f with
    | some d => .ok (.sh d, ρ)
    | none => .bad) else .bad
  | _ => .bad
@[simp] theorem xFld_ap (i : Nat) (cs : List Str) (f : Str) (ρ : List SD) : xFld i cs f ρ = fldO cs f ρ ρ[i]? := by
  unfold xFld fldO
  cases ρ[i]? with
  | none => rfl
  | some s =>
    cases s with
    | xn c fs =>
      first
      | (dsimp only; done)
      | (dsimp only
         by_cases h : c ∈ cs
         · rw [if_pos h, if_pos h]
           try (cases fs.lookup f <;> rfl)
         · rw [if_neg h, if_neg h])
    | _ => rfl
@[simp] theorem fldO_one (c f : Str) (d : D) (ρ : List SD) : fldO [c] f ρ (some (.xn c [(f, d)])) = .ok (.sh d, ρ) := by
  unfold fldO
  simp
/-! ### operations -/
@[simp] theorem pAnyK_tup (f : List Bool → Bool) (xs : List D) : pAnyK f [.tup xs] = if xs.all okB then .ok (.sh (.bl (f (xs.map trB)))) else .bad := (rfl)
@[simp] theorem pAnyK_lst (f : List Bool → Bool) (xs : List D) : pAnyK f [.lst xs] = if xs.all okB then .ok (.sh (.bl (f (xs.map trB)))) else .bad := (rfl)
@[simp] theorem pMax_two (i j : Int) : pMax [.int i, .int j] = .ok (.sh (.int (if i < j then j else i))) := (rfl)
@[simp] theorem pMin_two (i j : Int) : pMin [.int i, .int j] = .ok (.sh (.int (if j < i then j else i))) := (rfl)
@[simp] theorem pNotInR_ev (i n : Int) : pNotInR [.int i, .int n] = .ok (.sh (.bl (!decide (0 ≤ i ∧ i < n)))) := (rfl)
@[simp] theorem pIn_ev (neg : Bool) (x : D) (ys : List D) : pIn neg [x, .lst ys] = if okN 60 x = true ∧ okN 60 (.lst ys) = true then .ok (.sh (.bl (neg ^^ ys.any fun y => eqD y x))) else .bad := (rfl)
@[simp] theorem varV_none (i : Nat) (ρ : List SD) : varV i ρ (some .no) = .bad := (rfl)
@[simp] theorem truL_one (ρ : List SD) (d : D) : truL ρ [d] = match truD d with | some b => .ok (b, ρ) | none => .bad := (rfl)
@[simp] theorem truD_bl (b : Bool) : truD (.bl b) = some b := (rfl)
@[simp] theorem truD_int (i : Int) : truD (.int i) = some (i != 0) := (rfl)
@[simp] theorem truD_non : truD .non = some false := (rfl)
@[simp] theorem truD_tup (xs : List D) : truD (.tup xs) = some (!xs.isEmpty) := (rfl)
@[simp] theorem truD_lst (xs : List D) : truD (.lst xs) = some (!xs.isEmpty) := (rfl)
@[simp] theorem eqD_bl (a b : Bool) : eqD (.bl a) (.bl b) = (a == b) := (rfl)
@[simp] theorem eqD_str (a b : Str) : eqD (.str a) (.str b) = (a == b) := (rfl)
@[simp] theorem eqD_non : eqD .non .non = true := (rfl)
@[simp] theorem okN_str (n : Nat) (x : Str) : okN n (.str x) = PyData.strOk x := by cases n <;> rfl
@[simp] theorem kept_byr (xs : List D) : keptSD (some (.byr xs)) = .no := (rfl)
@[simp] theorem tst_exc (c : Str) (fs : List (Str × D)) (ρ : List SD) : Rs.tst (.exc c fs ρ) = .exc c fs ρ := (rfl)
/-! ### blocks over lists -/
section
variable {S α : Type} {m : Itm} {st : Tg} {test : Sb} {elt : Sx} {vs : List Nat}
theorem lc_mapL {g f : α → D} {ρ : List SD} : ∀ {xs : List α}, (∀ x ∈ xs, ∀ k, lcTg m test elt vs k (st (g x) ρ) = (k ρ).bind fun q => .ok (f x :: q.1, q.2)) → lcL m st test elt vs (xs.map g) ρ = .ok (xs.map f, ρ)
  | [], _ => rfl
  | x :: xs, h => by
    rw [List.map_cons, lcL_cons, h x (by simp), lc_mapL fun y hy => h y (List.mem_cons_of_mem _ hy)]
    rfl
theorem lc_filterL {g f : α → D} {p : α → Bool} {ρ : List SD} : ∀ {xs : List α}, (∀ x ∈ xs, ∀ k, lcTg m test elt vs k (st (g x) ρ) = if p x then (k ρ).bind fun q => .ok (f x :: q.1, q.2) else k ρ) → lcL m st test elt vs (xs.map g) ρ = .ok ((xs.filter p).map f, ρ)
  | [], _ => rfl
  | x :: xs, h => by
    rw [List.map_cons, lcL_cons, h x (by simp), lc_filterL fun y hy => h y (List.mem_cons_of_mem _ hy)]
    cases hp : p x with
    | true => simp [hp]
    | false => simp [hp]
theorem zip_ints (xs ys : List Int) : zipD (xs.map D.int) (ys.map D.int) = (xs.zip ys).map fun p => D.tup [.int p.1, .int p.2] := by
  unfold zipD
  induction xs generalizing ys with
  | nil => rfl
  | cons x xs ih =>
    cases ys with
    | nil => rfl
    | cons y ys => simp [ih]
theorem enum_map {g : α → D} (xs : List α) : enumD (xs.map g) = xs.zipIdx.map fun p => D.tup [.int (p.2 : Nat), g p.1] := by
  unfold enumD
  refine List.ext_getElem? fun i => ?_
  simp only [List.getElem?_mapIdx, List.getElem?_map, List.getElem?_zipIdx]
  cases xs[i]? <;> simp
/-- a loop whose turns go on, or return one thing -/
theorem for_ret {body : Ss} {g : α → D} {p : α → Bool} {r : SD} (I : List SD → Prop) : ∀ {xs : List α}, (∀ x ∈ xs, ∀ ρ, I ρ → ∃ ρ', I ρ' ∧ ∀ k, forT body k (st (g x) ρ) = if p x then k ρ' else .ok (.rt r ρ')) → ∀ {ρ : List SD}, I ρ → ∃ ρ', I ρ' ∧ forL st body (xs.map g) ρ = if xs.all p then .ok (.nx ρ') else .ok (.rt r ρ')
  | [], _, ρ, hi => ⟨ρ, hi, rfl⟩
  | x :: xs, h, ρ, hi => by
    obtain ⟨ρ1, h1, e1⟩ := h x (by simp) ρ hi
    cases hp : p x with
    | true =>
      obtain ⟨ρ2, h2, e2⟩ := for_ret I (xs := xs) (fun y hy => h y (List.mem_cons_of_mem _ hy)) h1
      refine ⟨ρ2, h2, ?_⟩
      rw [List.map_cons, forL_cons, e1, hp, if_pos rfl, e2]
      simp [hp]
    | false =>
      refine ⟨ρ1, h1, ?_⟩
      rw [List.map_cons, forL_cons, e1, hp]
      simp [hp]
theorem for_ret_use {body : Ss} {g : α → D} {p : α → Bool} {r : SD} {xs : List α} {ρ : List SD} {L : Rs Fl} (hL : forL st body (xs.map g) ρ = L) (I : List SD → Prop) (hi : I ρ) (h : ∀ x ∈ xs, ∀ ρ, I ρ → ∃ ρ', I ρ' ∧ ∀ k, forT body k (st (g x) ρ) = if p x then k ρ' else .ok (.rt r ρ')) : ∃ ρ', I ρ' ∧ L = if xs.all p then .ok (.nx ρ') else .ok (.rt r ρ') := by
  obtain ⟨ρ', h1, h2⟩ := for_ret I h hi
  exact ⟨ρ', h1, hL.symm.trans h2⟩
end
/-- a loop whose turns go on, or stop in some way -/
theorem for_stop {α : Type} {st : Tg} {body : Ss} {g : α → D} {p : α → Bool} {r : α → List SD → Rs Fl} (I : List SD → Prop) : ∀ {xs : List α}, (∀ x ∈ xs, ∀ ρ, I ρ → ∃ ρ', I ρ' ∧ ∀ k, forT body k (st (g x) ρ) = if p x then k ρ' else r x ρ') → ∀ {ρ : List SD}, I ρ → ∃ ρ', I ρ' ∧ forL st body (xs.map g) ρ = match xs.find? (fun x => !p x) with | none => .ok (.nx ρ') | some x => r x ρ'
  | [], _, ρ, hi => ⟨ρ, hi, rfl⟩
  | x :: xs, h, ρ, hi => by
    obtain ⟨ρ1, h1, e1⟩ := h x (by simp) ρ hi
    cases hp : p x with
    | true =>
      obtain ⟨ρ2, h2, e2⟩ := for_stop I (xs := xs) (fun y hy => h y (List.mem_cons_of_mem _ hy)) h1
      refine ⟨ρ2, h2, ?_⟩
      rw [List.map_cons, forL_cons, e1, hp, if_pos rfl, e2, List.find?_cons_of_neg (by simp [hp])]
    | false =>
      refine ⟨ρ1, h1, ?_⟩
      rw [List.map_cons, forL_cons, e1, hp, List.find?_cons_of_pos (by simp [hp])]
      rfl
theorem forK_stop {α : Type} {m : Itm} {st : Tg} {body : Ss} {g : α → D} {p : α → Bool} {r : α → List SD → Rs Fl} (I : List SD → Prop) (hk : ∀ ρ, I ρ → m.keep ρ) : ∀ {xs : List α}, (∀ x ∈ xs, ∀ ρ, I ρ → ∃ ρ', I ρ' ∧ ∀ k, forT body k (st (g x) ρ) = if p x then k ρ' else r x ρ') → ∀ {ρ : List SD}, I ρ → ∃ ρ', I ρ' ∧ forK m st body (xs.map g) ρ = match xs.find? (fun x => !p x) with | none => .ok (.nx ρ') | some x => r x ρ'
  | [], _, ρ, hi => ⟨ρ, hi, by rw [List.map_nil, forK_nil, if_pos (hk ρ hi)]; rfl⟩
  | x :: xs, h, ρ, hi => by
    obtain ⟨ρ1, h1, e1⟩ := h x (by simp) ρ hi
    cases hp : p x with
    | true =>
      obtain ⟨ρ2, h2, e2⟩ := forK_stop I hk (xs := xs) (fun y hy => h y (List.mem_cons_of_mem _ hy)) h1
      refine ⟨ρ2, h2, ?_⟩
      rw [List.map_cons, forK_cons, if_pos (hk ρ hi), e1, hp, if_pos rfl, e2, List.find?_cons_of_neg (by simp [hp])]
    | false =>
      refine ⟨ρ1, h1, ?_⟩
      rw [List.map_cons, forK_cons, if_pos (hk ρ hi), e1, hp, List.find?_cons_of_pos (by simp [hp])]
      rfl
theorem for_stop_use {α : Type} {st : Tg} {body : Ss} {g : α → D} {p : α → Bool} {r : α → List SD → Rs Fl} {xs : List α} {ρ : List SD} {L : Rs Fl} (hL : forL st body (xs.map g) ρ = L) (I : List SD → Prop) (hi : I ρ) (h : ∀ x ∈ xs, ∀ ρ, I ρ → ∃ ρ', I ρ' ∧ ∀ k, forT body k (st (g x) ρ) = if p x then k ρ' else r x ρ') : ∃ ρ', I ρ' ∧ L = match xs.find? (fun x => !p x) with | none => .ok (.nx ρ') | some x => r x ρ' := by
  obtain ⟨ρ', h1, h2⟩ := for_stop I h hi
  exact ⟨ρ', h1, hL.symm.trans h2⟩
theorem forK_stop_use {α : Type} {m : Itm} {st : Tg} {body : Ss} {g : α → D} {p : α → Bool} {r : α → List SD → Rs Fl} {xs : List α} {ρ : List SD} {L : Rs Fl} (hL : forK m st body (xs.map g) ρ = L) (I : List SD → Prop) (hk : ∀ ρ, I ρ → m.keep ρ) (hi : I ρ) (h : ∀ x ∈ xs, ∀ ρ, I ρ → ∃ ρ', I ρ' ∧ ∀ k, forT body k (st (g x) ρ) = if p x then k ρ' else r x ρ') : ∃ ρ', I ρ' ∧ L = match xs.find? (fun x => !p x) with | none => .ok (.nx ρ') | some x => r x ρ' := by
  obtain ⟨ρ', h1, h2⟩ := forK_stop I hk h hi
  exact ⟨ρ', h1, hL.symm.trans h2⟩
/-- the first of a list that is none -/
theorem find_bad {α : Type} {p : α → Bool} {pre post : List α} {d : α} (h1 : ∀ x ∈ pre, p x = true) (h2 : p d = false) : (pre ++ (d :: post)).zipIdx.find? (fun x => !p x.1) = some (d, pre.length) := by
  rw [List.zipIdx_append, List.find?_append, List.find?_eq_none.mpr]
  · rw [List.zipIdx_cons, List.find?_cons_of_pos (by simp [h2])]
    simp
  · intro x hx
    obtain ⟨a, i⟩ := x
    have := List.fst_mem_of_mem_zipIdx hx
    simp [h1 a this]
theorem find_none {α : Type} {p : α → Bool} {xs : List α} (h1 : ∀ x ∈ xs, p x = true) : xs.zipIdx.find? (fun x => !p x.1) = none := by
  rw [List.find?_eq_none]
  intro x hx
  obtain ⟨a, i⟩ := x
  have := List.fst_mem_of_mem_zipIdx hx
  simp [h1 a this]
theorem whl_succ (t : Sb) (body : Ss) (n : Nat) (ρ : List SD) : whl t body (n + 1) ρ = (t ρ).bind fun p => if p.1 then (body p.2).bind (Fl.turn (whl t body n)) else .ok (.nx p.2) := by
  rw [whl]
  refine congrArg _ (funext fun p => ?_)
  split
  · refine congrArg _ (funext fun fl => ?_)
    cases fl <;> rfl
  · rfl
@[simp] theorem sWhile_ap (fuel : List SD → Nat) (t : Sb) (body : Ss) (ρ : List SD) : sWhile fuel t body ρ = whl t body (fuel ρ) ρ := (rfl)
end Wm
end

section
/-! x(lambda: e): a def that asks what it got. -/
namespace Wm
open PySem PySem.Spec PyProof.Rows L2
section
variable {X : Cx} {cl : Cl} {vs0 : List V} {Wx : WX}
/-! ### steps that leave all lists alone -/
section
variable {G : Gx} {O W O' W' : List Addr} {H H' : Hp} {σ : L2.St} {ρ : List SD}
theorem Stp.quiet (s : Stp O [] H O' W' H') : Stp O W H O' W H' :=
  ⟨fun b o e _ ht => s.keep b o e (by simp) ht, fun b h => .inl h, s.onew, s.trk, fun b h _ => s.ofz b h (by simp)⟩
theorem quiet_obj (w : Wf O W H) (s : Stp O [] H O' W' H') {b : Addr} {o : HO} (hb : b ∈ W) (e : H b = some o) : H' b = some o :=
  s.keep b o e (by simp) fun ps z => w.trk b (w.sub b hb) fun o' e' => ⟨ps, by rw [e] at e'; cases e'; exact z⟩
theorem SR.quiet (r : SR G vs0 O W σ H ρ) (s : Stp O [] H O' W' H') (w' : Wf O' W' H') (tb : KT0 G.tabs H') : SR G vs0 O' W σ H' ρ :=
  r.step ⟨fun b hb => s.ofz b (r.wf.sub b hb) (by simp), w'.trk⟩ s.quiet (fun _ h => h) (fun b o hb e => quiet_obj r.wf s hb e) tb
theorem KT0.quiet {T T' : TC} (k : KT0 T H) (h : KT0 T' H') (e : T'.tabs = T.tabs) (s : Stp O [] H O' W' H') : KT0 T H' :=
  ⟨e ▸ h.t, fun p hp => s.keep _ _ (k.c p hp) (by simp) LamX.codeO_ne⟩
/-- all but the tables stay -/
theorem Stp.extN (e : LamX.ExtN H H') : Stp O W H O W H' :=
  ⟨fun b o h _ ht => e b o h ht, fun b h => .inl h, fun b h => .inl h, fun b h z => h fun o ho => by
    by_cases q : ∃ ps, o = .tbl ps
    · exact q
    · exact z o (e b o ho fun ps y => q ⟨ps, y⟩), fun b h _ => h⟩
theorem SR.extN (r : SR G vs0 O W σ H ρ) (e : LamX.ExtN H H') (t : LamX.Tabs G.tabs.tabs H') : SR G vs0 O W σ H' ρ :=
  r.step ⟨r.wf.sub, fun b hb => (Stp.extN (O := O) (W := W) e).trk b (r.wf.trk b hb)⟩ (Stp.extN e) (fun _ h => h)
    (fun b o hb h => e b o h fun ps z => r.wf.trk b (r.wf.sub b hb) fun o' e' => ⟨ps, by rw [h] at e'; cases e'; exact z⟩)
    ⟨t, fun p hp => e _ _ (r.tabs.tc.c p hp) LamX.codeO_ne⟩
/-! ### what a lambda has caught -/
def frz1 (ρ : List SD) (i : Nat) : List SD := match ρ[i]? with
  | some (.own xs) => ρ.set i (.sh (.lst xs))
  | some (.byr xs) => ρ.set i (.sh (.lst xs))
  | _ => ρ
def frzAt : List Nat → List SD → List SD
  | [], ρ => ρ
  | i :: r, ρ => frzAt r (frz1 ρ i)
theorem SR.frz1 (r : SR G vs0 O W σ H ρ) (i : Nat) : ∃ O' W', Stp O W H O' W' H ∧ SR G vs0 O' W' σ H (frz1 ρ i) := by
  unfold Wm.frz1
  split
  · rename_i xs e
    obtain ⟨a, O', W', _, st, sr, _⟩ := r.demote e (.inl rfl)
    exact ⟨O', W', st, sr⟩
  · rename_i xs e
    obtain ⟨a, O', W', _, st, sr, _⟩ := r.demote e (.inr rfl)
    exact ⟨O', W', st, sr⟩
  · exact ⟨O, W, Stp.refl, r⟩
theorem SR.frzAt : ∀ (is : List Nat) {O W : List Addr} {ρ : List SD}, SR G vs0 O W σ H ρ → ∃ O' W', Stp O W H O' W' H ∧ SR G vs0 O' W' σ H (frzAt is ρ)
  | [], O, W, ρ, r => ⟨O, W, Stp.refl, r⟩
  | i :: is, O, W, ρ, r => by
    obtain ⟨O1, W1, s1, r1⟩ := r.frz1 i
    obtain ⟨O2, W2, s2, r2⟩ := SR.frzAt is r1
    exact ⟨O2, W2, s1.trans r.wf s2, r2⟩
def keep1 : SD → SD
  | .sh d => .sh d
  | _ => .no
def viewN (is : List Nat) : Nat → List SD → List SD
  | _, [] => []
  | k, s :: r => (if k ∈ is then keep1 s else .no) :: viewN is (k + 1) r
theorem viewN_len {is : List Nat} : ∀ {k : Nat} {ρ : List SD}, (viewN is k ρ).length = ρ.length
  | k, [] => rfl
  | k, s :: r => congrArg (· + 1) viewN_len
theorem viewN_get {is : List Nat} : ∀ {k : Nat} {ρ : List SD} {i : Nat} {s : SD}, (viewN is k ρ)[i]? = some s → s = .no ∨ ∃ d, s = .sh d ∧ k + i ∈ is ∧ ρ[i]? = some (.sh d)
  | k, [], i, s, h => by cases h
  | k, t :: r, 0, s, h => by
    have h : some (if k ∈ is then keep1 t else .no) = some s := h
    split at h
    · rename_i q
      cases h
      cases t with
      | sh d => exact .inr ⟨d, rfl, q, rfl⟩
      | no => exact .inl rfl
      | own xs => exact .inl rfl
      | byr xs => exact .inl rfl
      | xn _ _ => exact .inl rfl
      | gv => exact .inl rfl
    · cases h; exact .inl rfl
  | k, t :: r, i + 1, s, h => by
    rcases viewN_get (k := k + 1) (ρ := r) (i := i) h with q | ⟨d, q1, q2, q3⟩
    · exact .inl q
    · exact .inr ⟨d, q1, by rw [show k + (i + 1) = k + 1 + i by omega]; exact q2, q3⟩
def knowOf (is : List Nat) (ρ : List SD) (σ : L2.St) : List (D × V) := is.filterMap fun i => match (ρ[i]? : Option SD), (σ[i]? : Option (Option V)) with
  | some (SD.sh d), some (some v) => some (d, v)
  | _, _ => none
theorem knowOf_rp {is : List Nat} (r : SR G vs0 O W σ H ρ) : ∀ q ∈ knowOf is ρ σ, Rp G O H q.1 q.2 := fun q hq => by
  unfold knowOf at hq
  obtain ⟨i, _, e⟩ := List.mem_filterMap.mp hq
  split at e
  · rename_i d v e1 e2
    cases e
    obtain ⟨w, h1, h2⟩ := r.get e1
    rw [e2] at h1; cases h1
    exact h2
  · cases e
theorem knowOf_mem {is : List Nat} {i : Nat} {d : D} (hi : i ∈ is) (r : SR G vs0 O W σ H ρ) (e : ρ[i]? = some (.sh d)) : ∃ v, σ[i]? = some (some v) ∧ (d, v) ∈ knowOf is ρ σ := by
  obtain ⟨w, h1, h2⟩ := r.get e
  refine ⟨w, h1, List.mem_filterMap.mpr ⟨i, hi, ?_⟩⟩
  rw [e, h1]
theorem view_sr {is : List Nat} {O2 W2 : List Addr} {H2 : Hp} (r : SR G vs0 O W σ H ρ) (w : Wf O2 W2 H2) (k : ∀ q ∈ knowOf is ρ σ, Rp G O2 H2 q.1 q.2) (t : KT G O2 H2) : SR G vs0 O2 [] σ H2 (viewN is 0 ρ) := by
  refine ⟨⟨fun b hb => absurd hb (by simp), w.trk⟩, by rw [viewN_len, r.len], fun i s e => ?_, fun i j s u a e1 e2 m1 m2 s1 s2 => ?_, t⟩
  · rcases viewN_get e with q | ⟨d, q1, q2, q3⟩
    · subst q; trivial
    · subst q1
      rw [Nat.zero_add] at q2
      obtain ⟨v, e1, e2⟩ := knowOf_mem q2 r q3
      exact ⟨v, by rw [e1]; rfl, k _ e2⟩
  · rcases viewN_get e1 with q | ⟨d, q1, _⟩
    · subst q; cases m1
    · subst q1; cases m1
end
/-! ### the asking -/
def askO : Rs (SD × List SD) → List SD → Rs (SD × List SD)
  | .ok (r, _), ρ => .ok (.sh r.frz, ρ)
  | .exc c fs _, ρ => .exc c fs ρ
  | .bad, _ => .bad
def xAsk (out : Rs (SD × List SD)) : Sx := fun ρ => match (ρ[(0 : Nat)]? : Option SD) with
  | some SD.gv => askO out ρ
  | _ => .bad
def lamR (ρ : List SD) : Rs Fl → Rs (SD × List SD)
  | .ok (.rt r _) => .ok (.sh r.frz, ρ)
  | .ok (.nx _) => .ok (.sh .non, ρ)
  | _ => .bad
def xLam (is : List Nat) (n : Nat) (gA : Sx → Ss) (fl : Sx) : Sx := fun ρ =>
  lamR (frzAt is ρ) (gA (xAsk (fl (viewN is 0 (frzAt is ρ)))) (.gv :: List.replicate (n - 1) .no))
/-- x(), in the def that got the lambda -/
theorem lam_act {ZC : CXT} {ZE : XK} {NZ : List Str} {nz : Str} {scz : Scope} {z f c' : Addr} {cz pmv tv : Value} {prm : Arguments} {bd : Expr} {sc : Scope} {k i : Nat} {a : Str} {pn : List (Addr × Obj)} {xe : Value → Shared → Prop} {W : WX} {t : XK → TE} {p1 p2 : Pos}
    {pins : List (Addr × Obj)} {σ : L2.St} {H : Hp} {s : Shared} (I : Inv X pins σ H s) (ls : LamX.LamS X.env.scope sc)
    (of : s.heap.get? f = some (PySem.W.kla_obj "<lambda>" (X.env.qual ++ "<lambda>") prm bd sc (cloFrom X.env.cells sc.names []) pmv c' tv)) (nf : H f = none) (rf : f ∉ frs X.stack)
    (hbd : bindArgs (PySem.W.kla_fn "<lambda>" (X.env.qual ++ "<lambda>") prm bd sc (cloFrom X.env.cells sc.names []) pmv (.ref c') tv) ⟨[], []⟩ = pure [])
    (tk : Takes ((cxOf ZC X.prog X.w X.K X.mg X.base NZ nz scz z cz X.A X.stack s H ZE).tr pn xe) W) (room : Room (k + 1) (X.A.deeper (envOfC nz scz s.heap.objs.size z cz)))
    (body : ∀ (E : XK) (A : Around) (outer : List Env) (s : Shared) (H : Hp), Room k (A.deeper (LamX.lamEnv X sc s.heap.objs.size f c')) → PE (LamX.lamCx X A outer s H E sc f c') bd (t E))
    (hat : NZ[i]? = some a) (vis : Vis scz a) (d1 : (a == ("__debug__" : Str)) = false) (d2 : (a == ("__classdict__" : Str)) = false) :
    PE ((cxOf ZC X.prog X.w X.K X.mg X.base NZ nz scz z cz X.A X.stack s H ZE).tr pn xe) (.Call (.Name a p1) [] [] p2)
      (fun τ J Q => τ[i]? = some (some (.ref f)) ∧ J c' = some (LamX.CodeO c' (X.env.qual ++ "<lambda>")) ∧ t (WE W τ) σ J Q) := by
  refine ⟨fun ps1 s1 τ J Q K1 hw => ?_⟩
  obtain ⟨w1, w2, w3⟩ := hw
  refine wpAny_Call_Name_kw (thn ((pe_var (pos := p1) (i := i) hat vis d1 d2).run ps1 s1 τ J (fun v J' => v = .ref f ∧ J' = J) K1 ⟨.ref f, w1, rfl, rfl⟩) fun u s2 hu => ?_)
  obtain ⟨v, J', K2, ru, q1, q2⟩ := hu
  subst q1 q2
  obtain rfl : u = Value.ref f := ru
  have of2 : s2.heap.get? f = some (PySem.W.kla_obj "<lambda>" (X.env.qual ++ "<lambda>") prm bd sc (cloFrom X.env.cells sc.names []) pmv c' tv) := K2.base.keep f _ of nf rf fun y => nomatch (show f ∈ ([] : List Addr) from y)
  refine PySem.W.callWith_F0 ⟨_, _, _, _, of2⟩ ?_
  obtain ⟨⟨oc, fv, ft, h1, h2, h3⟩, _⟩ := K2.hok c' _ w2
  have go : codeAny (model X.prog X.w) (X.A.deeper (envOfC nz scz s.heap.objs.size z cz)) (.call (.ref f) ⟨[], []⟩)
      (CR (L2.CX X.prog X.w) (envOfC nz scz s.heap.objs.size z cz :: X.stack) X.prog X.w J' s2 Q (WE W τ)) s2 := by
    refine PySem.W.kla_callFunE room.depth of2 rfl ls.co ls.gen rfl ⟨c', oc, fv, ft, rfl, h1, h2, h3⟩ ?_
    rw [hbd]
    refine wpAny_pure (wpAny_newFunctionEnv (fun y hy => (ls.own y hy).2) (fun y hy => absurd hy (by simp)) (fun hh ns sb => ⟨K2.nolimit.fresh _ sb, ?_⟩) ls.kind)
    have old : ∀ b o, s2.heap.get? b = some o → hh.get? b = some o := fun b o e => sb.extBut b o (Nat.ne_of_lt (Heap.lt_size e)) (Heap.get?_push_of_some _ e)
    refine PySem.W.kla_codeExpr (wpAny_mono ((body (WE W τ) _ _ s2 J' (room.deeper _)).run [] _ _ J' Q (LamX.lam_start2 I ls K2.env0 room.hd K2.base ns old) w3) (fun r s3 hr => ?_) fun e s3 he => he)
    obtain ⟨r', J3, K3, rr, hq⟩ := hr
    exact ⟨r', J3, K3.os, K3.bare, K3.base, K3.hok, rr, hq⟩
  refine wpAny_call (codeAny_mono go fun r s3 hr => ?_)
  cases r with
  | error e => exact passAt tk τ ps1 J' s2 e s3 K2 hr
  | ok fl =>
    cases fl with
    | ret u => exact K2.after hr
    | next => exact hr.elim
    | brk => exact hr.elim
    | cont => exact hr.elim
/-- the classes of the caller, in the def that asks -/
abbrev askC (cl : Cl) (tb : TC) : Cl := ⟨cl.at', fun _ => none, tb⟩
/-- x(lambda: e) -/
theorem ej_lam {is : List Nat} {x a : Str} {z c P : Addr} {k : Nat} {stA : Stmt} {fd : FuncData} {NZ : List Str} {prm : Arguments} {bd : Expr} {sc : Scope} {gA : Sx → Ss} {fl : Sx} {p lpos pos : Pos}
    (hg : Gl X x) (hm : X.mg x = some (.ref z)) (F : Fun X.K x x stA z fd) (hb : L2.Binds X.K fd [a] []) (S : FnScope NZ [a] (defScope stA)) (hat : NZ[0]? = some a) (vis : Vis (defScope stA) a)
    (hA : ∀ (cdv : Value) (A : Around) (outer : List Env) (s : Shared) (H : Hp) (f : Addr) (E : XK) (tb : TC) (ak : Sx), tb.tabs = cl.tabs.tabs → Room (k + 1) (A.deeper (envOfC x (defScope stA) s.heap.objs.size z cdv)) →
      (∀ (W : WX) (pn : List (Addr × Obj)) (xe : Value → Shared → Prop) (p1 p2 : Pos), Takes ((cxOf (L2.CX X.prog X.w) X.prog X.w X.K X.mg X.base NZ x (defScope stA) z cdv A outer s H E).tr pn xe) W →
        EJ ((cxOf (L2.CX X.prog X.w) X.prog X.w X.K X.mg X.base NZ x (defScope stA) z cdv A outer s H E).tr pn xe) (askC cl tb) [.ref f] W (.Call (.Name a p1) [] [] p2) ak) →
      BJ (cxOf (L2.CX X.prog X.w) X.prog X.w X.K X.mg X.base NZ x (defScope stA) z cdv A outer s H E) (askC cl tb) [.ref f] (wxE E) (defBody stA) (gA ak))
    (TB : LamX.TabB X.base X.mg c P) (hcode : X.env.code = .ref c) (hmT : (P, X.env.qual ++ "<lambda>") ∈ cl.tabs.tabs) (hu : ∀ p ∈ cl.tabs.tabs, p.1 = P → p.2 = X.env.qual ++ "<lambda>")
    (room : Room (k + 2) X.A) (ls : LamX.LamS X.env.scope sc) (hdef : defaultsOf prm X.env = ([], []))
    (hbd : ∀ (q : Str) (cs : List (Str × Addr)) (pm cv ctv : Value), bindArgs (PySem.W.kla_fn "<lambda>" q prm bd sc cs pm cv ctv) ⟨[], []⟩ = pure [])
    (body : ∀ (E : XK) (A : Around) (outer : List Env) (s : Shared) (H : Hp) (f c' : Addr), Room k (A.deeper (LamX.lamEnv X sc s.heap.objs.size f c')) → EJ (LamX.lamCx X A outer s H E sc f c') cl vs0 (wxE E) bd fl)
    (hdb : (x == ("__debug__" : Str)) = false := by decide) (d1 : (a == ("__debug__" : Str)) = false := by decide) (d2 : (a == ("__classdict__" : Str)) = false := by decide) :
    EJ X cl vs0 Wx (.Call (.Name x p) [.Lambda prm bd sc lpos] [] pos) (xLam is NZ.length gA fl) := by
  refine ⟨⟨fun σ H Q => ∃ O W ρ, SR (gx X cl) vs0 O W σ H ρ ∧ AftE (gx X cl) vs0 Wx O W σ H Q (xLam is NZ.length gA fl ρ), ⟨fun pins s σ H Q I hw => ?_⟩, fun O W σ H ρ Q sr hw => ⟨O, W, ρ, sr, hw⟩⟩⟩
  obtain ⟨O, W, ρ, sr, hw⟩ := hw
  unfold xLam at hw
  obtain ⟨O1, W1, st1, sr1⟩ := sr.frzAt is
  generalize frzAt is ρ = ρ1 at hw sr1
  refine wpAny_Call_Name_kw (ld_glob I hg hm ?_ hdb)
  refine PySem.W.callWith_K (h₀ := X.base) I.ok.mod.kin F.kp ?_ (by rfl) (by rfl)
  show wpAny _ _ (spliced ((false, eval (.Lambda prm bd sc lpos) X.env) :: backTo pos (starEach [] X.env))) _ _ s
  refine Calls.spliced_cons (LamX.lam_make2 (T := cl.tabs.tabs) I TB hcode hmT hu sr1.tabs.tc.t hdef (ls.has I.ok) fun f c' pmv tv H1 s1 I1 eN T1 of nf rf co => ?_)
  refine Calls.spliced_nil ⟨I1.kIn, ?_⟩
  have sr2 : SR (gx X cl) vs0 O1 W1 σ H1 ρ1 := sr1.extN eN T1
  have st2 : Stp O W H O1 W1 H1 := st1.trans sr.wf (Stp.extN eN)
  let cl' : Cl := ⟨cl.at', fun _ => none, ⟨cl.tabs.tabs, (c', X.env.qual ++ "<lambda>") :: cl.tabs.codes, knowOf is ρ1 σ ++ cl.tabs.know⟩⟩
  have aN : NZ.length = (NZ.length - 1) + 1 := by
    have := (List.getElem?_eq_some_iff.mp hat).1
    omega
  have en : SR (gk X.K cl') [.ref f] O1 [] (L2.start NZ [.ref f]) H1 (.gv :: List.replicate (NZ.length - 1) .no) := by
    have es : L2.start NZ [V.ref f] = some (.ref f) :: List.replicate (NZ.length - 1) none := rfl
    rw [es]
    refine ⟨⟨fun b hb => absurd hb (by simp), sr2.wf.trk⟩, by simp, fun i s e => ?_, fun i j s u b e1 e2 m1 m2 s1 s2 => ?_, ⟨T1, fun q hq => ?_⟩, fun q hq => ?_⟩
    · cases i with
      | zero => cases e; rfl
      | succ i =>
        have e : (List.replicate (NZ.length - 1) SD.no)[i]? = some s := e
        rw [List.getElem?_replicate] at e
        split at e
        · cases e; trivial
        · cases e
    · cases i with
      | zero => cases e1; cases m1
      | succ i =>
        have e1 : (List.replicate (NZ.length - 1) SD.no)[i]? = some s := e1
        rw [List.getElem?_replicate] at e1
        split at e1
        · cases e1; cases m1
        · cases e1
    · rcases List.mem_cons.mp hq with e | e
      · rw [e]; exact co
      · exact sr2.tabs.tc.c q e
    · rcases List.mem_append.mp hq with e | e
      · exact Rp.re (G := gx X cl) (G' := gk X.K cl') rfl rfl (knowOf_rp sr2 q e)
      · exact Rp.re (G := gx X cl) (G' := gk X.K cl') rfl rfl (sr2.tabs.k q e)
  obtain ⟨oc, od, kV, doc, pm, an, cdv, ct, osl, rfl, lk, hcd⟩ := F.ex
  have go : codeAny (model X.prog X.w) X.A (.call (.ref z) ⟨[.ref f], []⟩) (CR (L2.CX X.prog X.w) X.stack X.prog X.w H1 s1 Q fun _ _ _ => False) s1 := by
    refine LamX.run_ofS (N := NZ) (ps := [a]) (us := [.ref f]) (vs := [.ref f]) lk hcd S room I1.env0 (hb s1 [.ref f] I1.kIn rfl) (.cons rfl .nil) rfl fun room' => ?_
    let tb : XK → TE := fun E σ H Q => ∃ O W ρ, SR (gx X cl) vs0 O W σ H ρ ∧ AftE (gx X cl) vs0 (wxE E) O W σ H Q (fl ρ)
    have bdE : ∀ (E : XK) (A : Around) (outer : List Env) (s : Shared) (H : Hp), Room k (A.deeper (LamX.lamEnv X sc s.heap.objs.size f c')) → PE (LamX.lamCx X A outer s H E sc f c') bd (tb E) := fun E A outer s H r => ⟨fun pins s σ H Q I hw => by
      obtain ⟨O, W, ρ, sr, hw⟩ := hw
      obtain ⟨t, pt, q⟩ := (body E A outer _ _ f c' r).ex
      exact pt.run pins s σ H Q I (q O W σ H ρ Q sr hw)⟩
    have hak : ∀ (W : WX) (pn : List (Addr × Obj)) (xe : Value → Shared → Prop) (p1 p2 : Pos), Takes ((cxOf (L2.CX X.prog X.w) X.prog X.w X.K X.mg X.base NZ x (defScope stA) z cdv X.A X.stack s1 H1 fun _ _ _ => False).tr pn xe) W →
        EJ ((cxOf (L2.CX X.prog X.w) X.prog X.w X.K X.mg X.base NZ x (defScope stA) z cdv X.A X.stack s1 H1 fun _ _ _ => False).tr pn xe) cl' [.ref f] W (.Call (.Name a p1) [] [] p2) (xAsk (fl (viewN is 0 ρ1))) := fun W pn xe p1 p2 tk => by
      refine ⟨⟨_, lam_act (i := 0) (p1 := p1) (p2 := p2) I1 ls of nf rf (hbd _ _ _ _ _) tk room' bdE hat vis d1 d2, fun O3 W3 τ J ρ3 Q3 sr3 hw3 => ?_⟩⟩
      unfold xAsk at hw3
      split at hw3
      · rename_i e0
        have g0 := sr3.slot 0 _ e0
        have g0 : τ[0]?.join = some (.ref f) := g0
        refine ⟨join_some g0, sr3.tabs.tc.c _ List.mem_cons_self, O3, [], viewN is 0 ρ1, view_sr sr2 sr3.wf (fun q hq => Rp.re (G := gk X.K cl') (G' := gx X cl) rfl rfl (sr3.tabs.k q (List.mem_append_left _ hq)))
          ⟨⟨sr3.tabs.tc.t, fun q hq => sr3.tabs.tc.c q (List.mem_cons_of_mem _ hq)⟩, fun q hq => Rp.re (G := gk X.K cl') (G' := gx X cl) rfl rfl (sr3.tabs.k q (List.mem_append_right _ hq))⟩, ?_⟩
        have back : ∀ {O4 W4 : List Addr} {H4 : Hp}, Stp O3 [] J O4 W4 H4 → Wf O4 W4 H4 → KT0 (gx X cl).tabs H4 → Stp O3 W3 J O4 W3 H4 ∧ SR (gk X.K cl') [.ref f] O4 W3 τ H4 ρ3 := fun {O4 W4 H4} s4 w4 k4 =>
          ⟨s4.quiet, sr3.quiet s4 w4 (KT0.quiet sr3.tabs.tc k4 rfl s4)⟩
        cases eo : fl (viewN is 0 ρ1) with
        | bad => rw [eo] at hw3; exact hw3.elim
        | exc ce fs ρ4 =>
          rw [eo] at hw3
          intro p4 gs O4 W4 H4 s4 sr4 hp hf
          obtain ⟨y1, y2⟩ := back s4 sr4.wf sr4.tabs.tc
          exact hw3 p4 gs O4 W3 H4 y1 y2 hp (RpF.re (G := gx X cl) (G' := gk X.K cl') rfl rfl hf)
        | ok y =>
          obtain ⟨r, ρ4⟩ := y
          rw [eo] at hw3
          intro v O4 W4 H4 s4 sr4 rr
          obtain ⟨O5, W5, s5, sr5, r5⟩ := rr.frz sr4
          obtain ⟨y1, y2⟩ := back (s4.trans ⟨fun b hb => absurd hb (by simp), sr3.wf.trk⟩ s5) sr5.wf sr5.tabs.tc
          exact hw3 v O5 W3 H4 y1 y2 (Rp.re (G := gx X cl) (G' := gk X.K cl') rfl rfl r5)
      · exact hw3.elim
    obtain ⟨t, pt, q⟩ := (hA cdv X.A X.stack s1 H1 f (fun _ _ _ => False) ⟨cl.tabs.tabs, (c', X.env.qual ++ "<lambda>") :: cl.tabs.codes, knowOf is ρ1 σ ++ cl.tabs.know⟩ (xAsk (fl (viewN is 0 ρ1))) rfl room' hak).ex
    refine ⟨t, pt, q O1 [] _ H1 _ _ en ?_⟩
    cases eg : gA (xAsk (fl (viewN is 0 ρ1))) (.gv :: List.replicate (NZ.length - 1) .no) with
    | bad => rw [eg] at hw; exact hw.elim
    | exc _ _ _ => rw [eg] at hw; exact hw.elim
    | ok e =>
      rw [eg] at hw
      have fin : ∀ {O4 W4 : List Addr} {H4 : Hp}, Stp O1 [] H1 O4 W4 H4 → Wf O4 W4 H4 → KT0 (gk X.K cl').tabs H4 → Stp O W H O4 W1 H4 ∧ SR (gx X cl) vs0 O4 W1 σ H4 ρ1 := fun {O4 W4 H4} s4 w4 k4 =>
        ⟨st2.trans sr.wf s4.quiet, sr2.quiet s4 w4 (KT0.quiet sr2.tabs.tc k4 rfl s4)⟩
      cases e with
      | bk _ => exact hw.elim
      | ct _ => exact hw.elim
      | nx ρ4 =>
        intro σ4 O4 W4 H4 s4 sr4
        obtain ⟨y1, y2⟩ := fin s4 sr4.wf sr4.tabs.tc
        exact hw .non O4 W1 H4 y1 y2 (show Rp (gx X cl) O4 H4 .non .non by simp only [Rp])
      | rt r ρ4 =>
        intro v σ4 O4 W4 H4 s4 sr4 rr
        obtain ⟨O5, W5, s5, sr5, r5⟩ := rr.frz sr4
        obtain ⟨y1, y2⟩ := fin (s4.trans en.wf s5) sr5.wf sr5.tabs.tc
        exact hw v O5 W1 H4 y1 y2 (Rp.re (G := gk X.K cl') (G' := gx X cl) rfl rfl r5)
  refine wpAny_call (codeAny_mono go fun r s3 hr => ?_)
  cases r with
  | error e =>
    obtain ⟨_, _, _, _, _, _, _, _, _, _, _, _, z⟩ := (hr : L2.CX X.prog X.w _ _ _ _ _ _)
    exact z.elim
  | ok fl =>
    cases fl with
    | ret u => exact I1.after hr
    | next => exact hr.elim
    | brk => exact hr.elim
    | cont => exact hr.elim
theorem u65 {k : Nat} {A : Around} (r : Room k A) : A.units + 65 < cLine := by have := r.un; omega
/-! ### defs that make lambdas -/
structure FunC (K : PySem.W.Frag) (x qual : Str) (st : Stmt) (f : Addr) (fd : FuncData) (c : Addr) : Prop where
  ex : ∃ (oc : Value) (od : Option Addr) (kV doc pm : Value) (an : Option Addr) (ct : Value) (osl : Array (Option Value)),
    fd = PySem.W.fnOf x qual (defArgs st) (defBody st) (defScope st) .none kV doc pm an (.ref c) ct ∧ K.lookup f = some ⟨oc, od, .func fd, osl⟩ ∧ PySem.W.codeIn K (.ref c) qual = true
theorem funC_mk {K : PySem.W.Frag} {x qual : Str} {st : Stmt} {f c : Addr} {oc kV doc pm ct : Value} {od an : Option Addr} {osl : Array (Option Value)}
    (l : K.lookup f = some ⟨oc, od, .func (PySem.W.fnOf x qual (defArgs st) (defBody st) (defScope st) .none kV doc pm an (.ref c) ct), osl⟩) (h : PySem.W.codeIn K (.ref c) qual = true) :
    FunC K x qual st f (PySem.W.fnOf x qual (defArgs st) (defBody st) (defScope st) .none kV doc pm an (.ref c) ct) c := ⟨_, _, _, _, _, _, _, _, rfl, l, h⟩
theorem fn_okC {P : Program} {w : World} {K : PySem.W.Frag} {mg : Str → Option Value} {base : Heap} {x qual : Str} {st : Stmt} {f c : Addr} {fd : FuncData} {N ps : List Str} {k : Nat} {cl : Cl} {g : Ss} (F : FunC K x qual st f fd c) (S : FnScope N ps (defScope st))
    (hb : ∀ (A : Around) (outer : List Env) (s : Shared) (H : Hp) (vs : List V) (E : XK), Room k (A.deeper (envOfC qual (defScope st) s.heap.objs.size f (.ref c))) →
      BJ (cxOf (L2.CX P w) P w K mg base N qual (defScope st) f (.ref c) A outer s H E) cl vs (wxE E) (defBody st) g) : FnOk P w K mg base (L2.CX P w) (k + 1) f fd ps (spF (gk K cl) ps.length (bodyF N.length g)) := by
  obtain ⟨oc, od, kV, doc, pm, an, ct, osl, rfl, lk, hcd⟩ := F.ex
  exact fn_of lk hcd S (fun vs H Q E h => h.1) fun A outer s H vs Q E hr h => fn_sound S h.1 (hb A outer s H vs E hr) h
/-- what is never come to -/
def sBad : Ss := fun _ => .bad
@[simp] theorem sBad_ap (ρ : List SD) : sBad ρ = .bad := (rfl)
theorem bj_never {sts : List Stmt} : BJ X cl vs0 Wx sts sBad := ⟨⟨fun _ _ _ => False, ⟨fun _ _ _ _ _ _ h => h.elim⟩, fun _ _ _ _ _ _ _ hw => hw⟩⟩
/-- a refusal's class, told of the def that asks -/
def ExcC.re {K : PySem.W.Frag} {mg : Str → Option Value} {c : Str} {fs : List Str} {qual : Str} {st : Stmt} {tb : TC} (e : ExcC K mg cl c fs qual st) : ExcC K mg (askC cl tb) c fs qual st := ⟨e.fI, e.fd, e.m, e.oex, e.nf, e.iC, e.tI, e.F, e.xf⟩
/-- the law's promise, the tables empty -/
theorem spT_sp {K : PySem.W.Frag} {cl : Cl} {F : Fn} {H : Hp} {a : Addr} {ns : List Int} (hl : ns.length ≤ 63) (hc : cl.tabs.codes = []) (hk : cl.tabs.know = []) (ht : ∀ p ∈ cl.tabs.tabs, H p.1 = some (.tbl #[])) (hS : SqL K H a (ns.map V.int)) (hF : ∃ ρ, F [.sh (.scr ns)] = .ok (.sh (.bl true), ρ)) :
    spF (gk K cl) 1 F [.ref a] H (fun v _ => v = .bl true) fun _ _ _ => False :=
  law_sp hl hS ⟨⟨fun p hp => LamX.TabS.nil (ht p hp), fun p hp => absurd (show p ∈ cl.tabs.codes from hp) (by rw [hc]; simp)⟩, fun p hp => absurd (show p ∈ cl.tabs.know from hp) (by rw [hk]; simp)⟩ hF
/-! ### evaluation -/
@[simp] theorem xLam_ap (is : List Nat) (n : Nat) (gA : Sx → Ss) (fl : Sx) (ρ : List SD) : xLam is n gA fl ρ = lamR (frzAt is ρ) (gA (xAsk (fl (viewN is 0 (frzAt is ρ)))) (.gv :: List.replicate (n - 1) .no)) := (rfl)
@[simp] theorem lamR_rt (ρ : List SD) (r : SD) (ρ' : List SD) : lamR ρ (.ok (.rt r ρ')) = .ok (.sh r.frz, ρ) := (rfl)
@[simp] theorem lamR_nx (ρ : List SD) (ρ' : List SD) : lamR ρ (.ok (.nx ρ')) = .ok (.sh .non, ρ) := (rfl)
@[simp] theorem xAsk_gv (out : Rs (SD × List SD)) (r : List SD) : xAsk out (.gv :: r) = askO out (.gv :: r) := (rfl)
@[simp] theorem askO_ok (r : SD) (ρ' ρ : List SD) : askO (.ok (r, ρ')) ρ = .ok (.sh r.frz, ρ) := (rfl)
@[simp] theorem askO_exc (c : Str) (fs : List (Str × D)) (ρ' ρ : List SD) : askO (.exc c fs ρ') ρ = .exc c fs ρ := (rfl)
@[simp] theorem noXn_gv (r : List SD) : noXn (.gv :: r) = noXn r := (rfl)
@[simp] theorem viewN_nil (is : List Nat) (k : Nat) : viewN is k [] = [] := (rfl)
@[simp] theorem viewN_cons (is : List Nat) (k : Nat) (s : SD) (r : List SD) : viewN is k (s :: r) = (if k ∈ is then keep1 s else .no) :: viewN is (k + 1) r := (rfl)
@[simp] theorem keep1_sh (d : D) : keep1 (.sh d) = .sh d := (rfl)
@[simp] theorem frzAt_nil (ρ : List SD) : frzAt [] ρ = ρ := (rfl)
@[simp] theorem frzAt_cons (i : Nat) (r : List Nat) (ρ : List SD) : frzAt (i :: r) ρ = frzAt r (frz1 ρ i) := (rfl)
def frzO (ρ : List SD) (i : Nat) : Option SD → List SD
  | some (.own xs) => ρ.set i (.sh (.lst xs))
  | some (.byr xs) => ρ.set i (.sh (.lst xs))
  | _ => ρ
@[simp] theorem frz1_ap (ρ : List SD) (i : Nat) : frz1 ρ i = frzO ρ i ρ[i]? := by
  unfold frz1 frzO
  rcases ρ[i]? with _ | s
  · rfl
  · cases s <;> rfl
@[simp] theorem frzO_sh (ρ : List SD) (i : Nat) (d : D) : frzO ρ i (some (.sh d)) = ρ := (rfl)
@[simp] theorem frzO_own (ρ : List SD) (i : Nat) (xs : List D) : frzO ρ i (some (.own xs)) = ρ.set i (.sh (.lst xs)) := (rfl)
@[simp] theorem frzO_byr (ρ : List SD) (i : Nat) (xs : List D) : frzO ρ i (some (.byr xs)) = ρ.set i (.sh (.lst xs)) := (rfl)
end
end Wm
end

section
/-! Own classes: what __init__ makes, fields, methods. -/
namespace Wm
open PySem PySem.Spec PyProof.Rows L2
/-- an instance that is being made, met by nothing -/
structure HeldI (x C dx : Addr) (gs : List (Str × V)) (O W : List Addr) (H : Hp) : Prop where
  o : x ∈ O
  w : x ∉ W
  h : H x = some (.ins C dx gs)
section
variable {G : Gx} {x C dx : Addr} {gs : List (Str × V)} {O W O' W' O1 W1 : List Addr} {H H' H1 : Hp} {vs0 : List V} {σ : L2.St} {ρ : List SD}
theorem HeldI.step (h : HeldI x C dx gs O W H) (s : Stp O W H O' W' H') : HeldI x C dx gs O' W' H' :=
  ⟨s.ofz x h.o h.w, (fun z => by
    rcases s.wnew x z with q | q
    · exact h.w q
    · exact noD_not h.h (by intro _ z; cases z) q), s.keep x _ h.h h.w (fun _ z => by cases z)⟩
theorem RpF.grow {p : Addr} {o' : HO} (gr : ∀ {d v}, Rp G O H d v → Rp G O (upd H p o') d v) : ∀ {fs : List (Str × D)} {gs : List (Str × V)}, RpF G O H fs gs → RpF G O (upd H p o') fs gs
  | [], gs, h => by simp only [RpF] at h ⊢; exact h
  | (n, d) :: fs, gs, h => by
    simp only [RpF] at h ⊢
    obtain ⟨v, r, e, h1, h2⟩ := h
    exact ⟨v, r, e, gr h1, RpF.grow gr h2⟩
def putD (f : Str) (d : D) : List (Str × D) → List (Str × D)
  | [] => [(f, d)]
  | (g, e) :: r => if g = f then (f, d) :: r else (g, e) :: putD f d r
end
/-- behind (a part of) __init__: told of the world ahead of the making -/
def AftN (G : Gx) (vs0 : List V) (Wx : WX) (O1 W1 : List Addr) (H1 : Hp) (x : Addr) (c : Str) (D' : Ends) : Rs (List (Str × D) × List SD) → Prop
  | .ok (fs, ρ') => ∀ σ' O' W' H' dx gs, Stp O1 W1 H1 O' W' H' → SR G vs0 O' W' σ' H' ρ' → HeldI x (G.cls c) dx gs O' W' H' → RpF G O' H' fs gs → D'.nx σ' H'
  | .exc ce fs ρ' => ∀ σ' p gs O' W' H', Stp O1 W1 H1 O' W' H' → SR G vs0 O' W' σ' H' ρ' → (H' p = some (.xd gs) ∧ p ∉ O') → RpF G O' H' fs gs → Wx (.ref (G.cls ce)) (some p) σ' H'
  | .bad => False
abbrev Sn := List (Str × D) → List SD → Rs (List (Str × D) × List SD)
structure NJ (X : Cx) (cl : Cl) (vs0 : List V) (Wx : WX) (c : Str) (sts : List Stmt) (f : Sn) : Prop where
  ex : ∃ t, PSs X sts t ∧ ∀ O W σ H ρ D' (x dx : Addr) gs fs O1 W1 H1, H1 x = none → Wf O1 W1 H1 → Stp O1 W1 H1 O W H → SR (gx X cl) vs0 O W σ H ρ → vs0[0]? = some (.ref x) → HeldI x (cl.at' c) dx gs O W H → RpF (gx X cl) O H fs gs →
    AftN (gx X cl) vs0 Wx O1 W1 H1 x c D' (f fs ρ) → t D' σ H
section
variable {X : Cx} {cl : Cl} {vs0 : List V} {Wx : WX} {c : Str}
def nNil : Sn := fun fs ρ => .ok (fs, ρ)
theorem nj_nil : NJ X cl vs0 Wx c [] nNil := ⟨⟨_, pss_nil, fun O W σ H ρ D' x dx gs fs O1 W1 H1 _ _ st sr _ hh hf hw => hw σ O W H dx gs st sr hh hf⟩⟩
def nSeqR (f : Sn) (fs : List (Str × D)) : Rs Fl → Rs (List (Str × D) × List SD)
  | .ok (.nx ρ') => f fs ρ'
  | .exc ce es ρ' => .exc ce es ρ'
  | _ => .bad
def nSeq (g : Ss) (f : Sn) : Sn := fun fs ρ => nSeqR f fs (g ρ)
theorem nj_cons {s : Stmt} {sts : List Stmt} {g : Ss} {f : Sn} (h1 : SJ X cl vs0 Wx s g) (h2 : NJ X cl vs0 Wx c sts f) : NJ X cl vs0 Wx c (s :: sts) (nSeq g f) := by
  obtain ⟨t, p, q⟩ := h1.ex
  obtain ⟨t', p', q'⟩ := h2.ex
  refine ⟨⟨_, pss_cons p p', fun O W σ H ρ D' x dx gs fs O1 W1 H1 hx w1 st sr hv hh hf hw => q O W σ H ρ _ sr ?_⟩⟩
  unfold nSeq at hw
  cases e : g ρ with
  | bad => rw [e] at hw; exact hw
  | exc ce es ρ' =>
    rw [e] at hw
    exact fun σ' p gs O' W' H' s2 sr2 hp he => hw σ' p gs O' W' H' (st.trans w1 s2) sr2 hp he
  | ok fl =>
    rw [e] at hw
    cases fl with
    | nx ρ' => exact fun σ' O' W' H' s2 sr2 => q' O' W' σ' H' ρ' D' x dx gs fs O1 W1 H1 hx w1 (st.trans w1 s2) sr2 hv (hh.step s2) (hf.step sr.wf s2) hw
    | rt r ρ' => exact hw.elim
    | bk ρ' => exact hw.elim
    | ct ρ' => exact hw.elim
theorem RpF.len {G : Gx} {O : List Addr} {H : Hp} : ∀ {fs : List (Str × D)} {gs : List (Str × V)}, RpF G O H fs gs → fs.length = gs.length
  | [], gs, h => by simp only [RpF] at h; rw [h]; rfl
  | (n, d) :: fs, gs, h => by
    simp only [RpF] at h
    obtain ⟨v, r, e, _, h2⟩ := h
    rw [e]
    exact congrArg (· + 1) (RpF.len h2)
theorem RpF.put {G : Gx} {O : List Addr} {H : Hp} {f : Str} {d : D} {v : V} (hv : Rp G O H d v) : ∀ {fs : List (Str × D)} {gs : List (Str × V)}, RpF G O H fs gs → RpF G O H (putD f d fs) (putF f v gs)
  | [], gs, h => by
    simp only [RpF] at h
    subst h
    simp only [putD, putF, RpF]
    exact ⟨v, [], rfl, hv, rfl⟩
  | (n, e) :: fs, gs, h => by
    simp only [RpF] at h
    obtain ⟨u, r, rfl, h1, h2⟩ := h
    unfold putD putF
    by_cases q : n = f
    · rw [if_pos q, if_pos q]
      simp only [RpF]
      exact ⟨v, r, by rw [q], hv, h2⟩
    · rw [if_neg q, if_neg q]
      simp only [RpF]
      exact ⟨u, _, rfl, h1, RpF.put hv h2⟩
def isGv : List SD → Bool
  | .gv :: _ => true
  | _ => false
/-- self.f = e -/
def nStoR (f : Str) (h : Sn) (fs : List (Str × D)) : Rs (SD × List SD) → Rs (List (Str × D) × List SD)
  | .ok (r, ρ') => if isGv ρ' = true ∧ fs.length < 1000 then h (putD f r.frz fs) ρ' else .bad
  | .exc ce es ρ' => .exc ce es ρ'
  | .bad => .bad
def nSto (f : Str) (g : Sx) (h : Sn) : Sn := fun fs ρ => nStoR f h fs (g ρ)
theorem nj_store {o e : Expr} {f : Str} {p' pos : Pos} {sts : List Stmt} {g : Sx} {h : Sn} (ho : PE X o (tVar 0)) (cc : L2.Cls X.K (cl.at' c)) (na : NoAttr X.K (cl.at' c) f) (he : EJ X cl vs0 Wx e g) (hr : NJ X cl vs0 Wx c sts h)
    (hs : swapsWith e (some (.Attribute o f p')) pos.line X.env = pure false := by rfl) : NJ X cl vs0 Wx c (.Assign [.Attribute o f p'] e pos :: sts) (nSto f g h) := by
  obtain ⟨t, p, q⟩ := he.ex
  obtain ⟨t', p2, q'⟩ := hr.ex
  refine ⟨⟨_, pss_cons (ps_fld ho p hs) p2, fun O W σ H ρ D' x dx gs fs O1 W1 H1 hx w1 st sr hv hh hf hw => q O W σ H ρ _ sr ?_⟩⟩
  unfold nSto at hw
  cases eg : g ρ with
  | bad => rw [eg] at hw; exact hw
  | exc ce es ρ' =>
    rw [eg] at hw
    exact fun p gs O' W' H' s2 sr2 hp he => hw σ p gs O' W' H' (st.trans w1 s2) sr2 hp he
  | ok y =>
    obtain ⟨r, ρ'⟩ := y
    rw [eg] at hw
    have hw : AftN (gx X cl) vs0 Wx O1 W1 H1 x c D' (if isGv ρ' = true ∧ fs.length < 1000 then h (putD f r.frz fs) ρ' else .bad) := hw
    split at hw
    · rename_i hc
      intro v O2 W2 H2 s2 sr2 rr
      obtain ⟨O3, W3, s3, sr3, rp⟩ := rr.frz sr2
      have st3 := (st.trans w1 s2).trans w1 s3
      have hh3 := (hh.step s2).step s3
      have hf3 : RpF (gx X cl) O3 H2 fs gs := (hf.step sr.wf s2).step sr2.wf s3
      have e0 : ρ'[0]? = some .gv := by
        cases ρ' with
        | nil => cases hc.1
        | cons a b =>
          cases a with
          | gv => rfl
          | _ => cases hc.1
      have g0 : σ[0]?.join = vs0[0]? := sr3.slot 0 _ e0
      rw [hv] at g0
      obtain ⟨sr4, gr, _⟩ := sr3.grow (o' := .ins (cl.at' c) dx (putF f v gs)) hh3.o hh3.w hh3.h
      refine ⟨.ref x, join_some g0, x, cl.at' c, dx, gs, rfl, hh3.h, cc, na, by rw [← hf3.len]; exact hc.2, ?_⟩
      refine q' O3 W3 σ _ ρ' D' x dx _ (putD f r.frz fs) O1 W1 H1 hx w1 ?_ sr4 hv ⟨hh3.o, hh3.w, upd_same⟩ (RpF.put (gr rp) (RpF.grow gr hf3)) hw
      have nx : ∀ b o, H1 b = some o → b ≠ x := fun b o e z => by rw [z, hx] at e; cases e
      exact ⟨fun b o eo hb ht => by rw [upd_ne (nx b o eo)]; exact st3.keep b o eo hb ht, st3.wnew, st3.onew, fun b hb => noD_upd (st3.trk b hb), st3.ofz⟩
    · exact hw.elim
/-! ### __init__ -/
def AftI' (G : Gx) (O : List Addr) (H1 : Hp) (x : Addr) (c : Str) (Q : VK) (E : XK) : Rs (List (Str × D) × List SD) → Prop
  | .ok (fs, _) => ∀ O' W' H', Stp O [] H1 O' W' H' → Wf O' W' H' → KT G O' H' → Rp G O' H' (.ins c fs) (.ref x) → Q .non H'
  | .exc ce fs _ => ∀ p gs O' W' H', Stp O [] H1 O' W' H' → Wf O' W' H' → KT G O' H' → (H' p = some (.xd gs) ∧ p ∉ O') → RpF G O' H' fs gs → E (.ref (G.cls ce)) (some p) H'
  | .bad => False
abbrev Fi := List D → Rs (List (Str × D) × List SD)
def spN (G : Gx) (c : Str) (n : Nat) (F : Fi) : Sp := fun vs H Q E => ∃ x rest H1 dx O W ds, vs = .ref x :: rest ∧ rest.length = n ∧ H1 x = none ∧ H1 dx = none ∧ dx ≠ x ∧ H = upd (upd H1 dx (.own x)) x (.ins (G.cls c) dx []) ∧
  Wf O W H1 ∧ KT G O H1 ∧ RpA G O H1 ds rest ∧ AftI' G O H1 x c Q E (F ds)
def bodyN (N : Nat) (f : Sn) : Fi := fun ds => f [] (.gv :: (ds.map SD.sh ++ List.replicate (N - 1 - ds.length) .no))
theorem args_get {ds : List D} {m i : Nat} {s : SD} (h : (ds.map SD.sh ++ List.replicate m .no)[i]? = some s) : s = .no ∨ ∃ d, s = .sh d ∧ ds[i]? = some d := by
  by_cases hi : i < ds.length
  · rw [List.getElem?_append_left (by rw [List.length_map]; exact hi), List.getElem?_map] at h
    obtain ⟨d, h1, h2⟩ := Option.map_eq_some_iff.mp h
    exact .inr ⟨d, h2.symm, h1⟩
  · rw [List.getElem?_append_right (by rw [List.length_map]; omega), List.getElem?_replicate] at h
    split at h
    · cases h; exact .inl rfl
    · cases h
theorem RpA.at' {G : Gx} {O : List Addr} {H : Hp} : ∀ {ds : List D} {vs : List V} {i : Nat} {d : D}, RpA G O H ds vs → ds[i]? = some d → ∃ v, vs[i]? = some v ∧ Rp G O H d v
  | [], vs, i, d, _, h => by cases h
  | e :: ds, vs, 0, d, r, h => by
    simp only [RpA] at r
    obtain ⟨v, rest, rfl, h1, _⟩ := r
    cases h
    exact ⟨v, rfl, h1⟩
  | e :: ds, vs, i + 1, d, r, h => by
    simp only [RpA] at r
    obtain ⟨v, rest, rfl, _, h2⟩ := r
    exact RpA.at' (i := i) h2 h
theorem fn_okN {P : Program} {w : World} {K : PySem.W.Frag} {mg : Str → Option Value} {base : Heap} {x qual : Str} {st : Stmt} {f : Addr} {fd : FuncData} {N ps : List Str} {k n : Nat} {cl : Cl} {c : Str} {g : Sn} (F : Fun K x qual st f fd) (S : FnScope N ps (defScope st)) (hn : ps.length = n + 1)
    (hb : ∀ (cdv : Value) (A : Around) (outer : List Env) (s : Shared) (H : Hp) (vs : List V) (E : XK), Room k (A.deeper (envOfC qual (defScope st) s.heap.objs.size f cdv)) →
      NJ (cxOf (L2.CX P w) P w K mg base N qual (defScope st) f cdv A outer s H E) cl vs (wxE E) c (defBody st) g) : FnOk P w K mg base (L2.CX P w) (k + 1) f fd ps (spN (gk K cl) c n (bodyN N.length g)) := by
  have hpl : ps.length ≤ N.length := by have := congrArg List.length S.pre; rw [List.length_take] at this; omega
  refine F.okX S (fun vs H Q E h => ?_) fun cdv A outer s H vs Q E hr h => ?_
  · obtain ⟨x, rest, H1, dx, O, W, ds, rfl, hl, _⟩ := h
    simp [hl, hn]
  · obtain ⟨x, rest, H1, dx, O, W, ds, rfl, hl, nx, nd, ne, rfl, wf, kt, ra, hw⟩ := h
    obtain ⟨t, pt, q⟩ := (hb cdv A outer s _ (.ref x :: rest) E hr).ex
    have dl : ds.length = n := by rw [ra.length, hl]
    have sm : Same H1 (upd (upd H1 dx (.own x)) x (.ins ((gk K cl).cls c) dx [])) := fun b o e => by
      rw [upd_ne (ne_of_none e nx), upd_ne (ne_of_none e nd)]
      exact e
    have w0 : Wf O [] H1 := ⟨fun b hb => absurd hb (by simp), wf.trk⟩
    have s1 : Stp O [] H1 (x :: O) [] (upd (upd H1 dx (.own x)) x (.ins ((gk K cl).cls c) dx [])) := Stp.addO sm nx
    have w1 : Wf (x :: O) [] (upd (upd H1 dx (.own x)) x (.ins ((gk K cl).cls c) dx [])) := ⟨fun b hb => absurd hb (by simp), fun b hb => by
      rcases List.mem_cons.mp hb with z | z
      · rw [z]; exact noD_not upd_same
      · exact s1.trk b (wf.trk b z)⟩
    refine ⟨t, pt, q (x :: O) [] _ _ (.gv :: (ds.map SD.sh ++ List.replicate (N.length - 1 - ds.length) .no)) _ x dx [] [] O [] H1 nx w0 s1 ?_ rfl ⟨by simp, by simp, upd_same⟩ (by simp only [RpF]) ?_⟩
    · refine ⟨w1, ?_, fun i s e => ?_, fun i j s u b e1 e2 m1 m2 s1 s2 => ?_, kt.tc.ext sm, fun q hq => (kt.k q hq).step w0 s1⟩
      · unfold L2.start
        simp [hl, dl]
        omega
      · cases i with
        | zero => cases e; rfl
        | succ i =>
          rcases args_get e with rfl | ⟨d, rfl, ed⟩
          · trivial
          · obtain ⟨v, ev, rv⟩ := ra.at' ed
            refine ⟨v, ?_, rv.step w0 s1⟩
            unfold L2.start
            have hi := (List.getElem?_eq_some_iff.mp ev).1
            rw [List.getElem?_append_left (by simp; omega)]
            simp [ev]
      · cases i with
        | zero => cases e1; cases m1
        | succ i =>
          rcases args_get e1 with rfl | ⟨d, rfl, _⟩
          · cases m1
          · cases m1
    · unfold bodyN at hw
      cases eg : g [] (.gv :: (ds.map SD.sh ++ List.replicate (N.length - 1 - ds.length) .no)) with
      | bad => rw [eg] at hw; exact hw
      | exc ce es ρ' =>
        rw [eg] at hw
        intro σ' p gs O' W' H' st sr hp hf
        exact hw p gs O' W' H' st sr.wf sr.tabs hp hf
      | ok y =>
        obtain ⟨fs, ρ'⟩ := y
        rw [eg] at hw
        intro σ' O' W' H' dx' gs st sr hh hf
        refine hw (off x O') W' H' ⟨st.keep, st.wnew, fun b hb => st.onew b (mem_off.mp hb).1, st.trk, fun b hb hn => mem_off.mpr ⟨st.ofz b hb hn, fun z => ?_⟩⟩ ⟨fun b hb => mem_off.mpr ⟨sr.wf.sub b hb, fun z => hh.w (z ▸ hb)⟩, fun b hb => sr.wf.trk b (mem_off.mp hb).1⟩ ⟨sr.tabs.tc, fun q hq => (sr.tabs.k q hq).less less_off⟩ ?_
        · exact wf.trk b hb (by rw [z]; exact noD_none nx)
        · simp only [Rp]
          exact ⟨x, dx', gs, rfl, hh.h, fun z => (mem_off.mp z).2 rfl, RpF.less less_off hf⟩
end
end Wm
end

section
/-! C(e, .., k = v, ..) of an own class. -/
namespace Wm
open PySem PySem.Spec PyProof.Rows L2
section
variable {X : Cx} {cl : Cl} {vs0 : List V} {Wx : WX} {k n : Nat} {f : Addr} {fd : FuncData} {ps ks : List Str} {x c : Str} {p pos : Pos} {e : Expr} {es : List Expr} {kws : List Keyword} {fl : List LOp} {F : Fi} {sel : List SelI}
/-- the making, what is let out wished of the very slots -/
theorem run_makeM {sp : Sp} {CX : CXT} {C : Addr} {g : List Value → List Value → List Value} {gV : List V → List V → List V} {E : XK} {pins : List (Addr × Obj)} {σ : L2.St} {H : Hp} {s : Shared} {Q : VK} {us ws : List Value} {vs zs : List V}
    (M : Mk X.K C f) (hF : FnOk X.prog X.w X.K X.mg X.base CX k f fd ps sp) (hr : Room (k + 1) X.A) (hb : KBn X.K fd ps (n + 1) ks g gV) (hx : PassesAt CX X σ E) (I : Inv X pins σ H s) (r : Vals vs us) (rz : Vals zs ws) (l1 : vs.length = n) (l2 : zs.length = ks.length)
    (h : ∀ y dx, H y = none → H dx = none → dx ≠ y → sp (gV (.ref y :: vs) zs) (upd (upd H dx (.own y)) y (.ins C dx [])) (fun v H2 => v = .non ∧ Q (.ref y) H2) E) :
    wpAny (model X.prog X.w) X.A (call (.ref C) us (ks.zip ws)) (EP X pins σ Q) X.xe s := by
  have J := Inv.made (C := C) I
  have rr : Vals (V.ref (s.heap.objs.size + 1) :: vs) (Value.ref (s.heap.objs.size + 1) :: us) := .cons rfl r
  have go := hF.run _ X.stack _ _ ⟨Value.ref (s.heap.objs.size + 1) :: us, ks.zip ws⟩ (g (Value.ref (s.heap.objs.size + 1) :: us) ws) _ _ E (hr.make C us (ks.zip ws)) (J.env0.make C us (ks.zip ws))
    (hb.to _ (Value.ref (s.heap.objs.size + 1) :: us) ws J.kIn (by rw [List.length_cons, ← r.length, l1]) (rz.length.symm.trans l2)) (hb.rel rr rz)
    (h (s.heap.objs.size + 1) s.heap.objs.size (I.hok.fresh (Nat.le_succ _)) (I.hok.fresh (Nat.le_refl _)) (Nat.ne_of_lt (Nat.lt_succ_self _)))
  refine wpAny_call (make_map (f := f) I.kIn M.makes M.init (beq_iff_eq.mp M.fn) (codeAny_mono go fun q s' hq => ?_))
  match q, hq with
  | .error e, hq => exact hx pins _ _ e s' J hq
  | .ok (.ret u), hq =>
    obtain ⟨v, H', J', rv, ev, q3⟩ := J.after hq
    subst ev
    exact ⟨rv, ⟨V.ref (s.heap.objs.size + 1), H', J', rfl, q3⟩⟩
def tMakeM (C : Addr) (n m : Nat) (sp : Sp) (gV : List V → List V → List V) (E : L2.St → XK) (t tk : TA) : TE := fun σ H Q => t σ H fun vs H1 => tk σ H1 fun zs H2 => vs.length = n ∧ zs.length = m ∧ ∀ y dx, H2 y = none → H2 dx = none → dx ≠ y →
  sp (gV (.ref y :: vs) zs) (upd (upd H2 dx (.own y)) y (.ins C dx [])) (fun v H3 => v = .non ∧ Q (.ref y) H3) (E σ)
theorem pe_makeM {sp : Sp} {CX : CXT} {C : Addr} {g : List Value → List Value → List Value} {gV : List V → List V → List V} {E : L2.St → XK} {t tk : TA} (M : Mk X.K C f) (hF : FnOk X.prog X.w X.K X.mg X.base CX k f fd ps sp) (hr : Room (k + 1) X.A) (hg : Gl X x) (hm : X.mg x = some (.ref C)) (hb : KBn X.K fd ps (n + 1) ks g gV) (hx : ∀ σ, PassesAt CX X σ (E σ))
    (ha : PA X (e :: es) t) (hkw : PK X kws tk) (hall : (backToKw pos (keywordEach kws X.env)).all (·.1.isSome) = true := by rfl) (hks : (backToKw pos (keywordEach kws X.env)).filterMap (·.1) = ks := by rfl)
    (hdb : (x == ("__debug__" : Str)) = false := by decide) (he : starEach (e :: es) X.env = (false, eval e X.env) :: starEach es X.env := by rfl)
    (hpl : ((backTo pos (starEach (e :: es) X.env)).any (·.1) || (backToKw pos (keywordEach kws X.env)).any (·.1.isNone)) = false := by rfl) :
    PE X (.Call (.Name x p) (e :: es) kws pos) (tMakeM C n ks.length sp gV E t tk) := by
  refine ⟨fun pins s σ H Q I h => wpAny_Call_Name_kw (ld_glob I hg hm ?_ hdb)⟩
  refine PySem.W.callWith_KW (h₀ := X.base) I.ok.mod.kin M.kp hall (thn (ha.run pos pins s σ H _ I h) fun us s1 q => ?_) hpl he
  obtain ⟨vs, H1, I1, r, q⟩ := q
  refine thn (hkw.run pos pins s1 σ H1 _ I1 q) fun ws s2 q2 => ?_
  obtain ⟨zs, H2, I2, rz, l1, l2, q2⟩ := q2
  refine ⟨I2.kIn, ?_⟩
  rw [hks]
  exact run_makeM M hF hr hb (hx σ) I2 r rz l1 l2 q2
def pickD (ds : List D) : SelI → D
  | .arg j => ds[j]?.getD .non
  | .dfI i => .int i
  | .dfN => .non
/-- all of them are data -/
def shs : List (SD × Option Nat) → Option (List D)
  | [] => some []
  | (.sh d, _) :: r => (shs r).map (d :: ·)
  | _ => none
def makeR (c : Str) (ρ : List SD) : Rs (List (Str × D) × List SD) → Rs (SD × List SD)
  | .ok (fs, _) => .ok (.sh (.ins c fs), ρ)
  | .exc ce es _ => .exc ce es ρ
  | .bad => .bad
def makeO (c : Str) (F : Fi) (sel : List SelI) (ρ : List SD) : Option (List D) → Rs (SD × List SD)
  | some ds => makeR c ρ (F (sel.map (pickD (.non :: ds))))
  | none => .bad
def xMake (c : Str) (F : Fi) (sel : List SelI) (fl : List LOp) : Sx := fun ρ => (cargs fl ρ).bind fun p => makeO c F sel p.2 (shs p.1)
/-- no parameter but self takes self -/
def selS (m : Nat) : List SelI → Bool
  | [] => true
  | .arg j :: r => decide (1 ≤ j ∧ j ≤ m) && selS m r
  | _ :: r => selS m r
theorem shs_rp {G : Gx} {O W : List Addr} {σ : L2.St} {H : Hp} {ρ : List SD} : ∀ {l : List (SD × Option Nat)} {vs : List V} {ds : List D}, CRs G O W σ H ρ l vs → shs l = some ds → RpA G O H ds vs
  | [], vs, ds, h, e => by
    cases e
    simp only [RpA]
    exact h
  | (s, oi) :: r, vs, ds, h, e => by
    obtain ⟨v, r', rfl, h1, h2⟩ := h
    cases s with
    | sh d =>
      have e : (shs r).map (d :: ·) = some ds := e
      obtain ⟨ds', e1, e2⟩ := Option.map_eq_some_iff.mp e
      subst e2
      simp only [RpA]
      exact ⟨v, r', rfl, h1, shs_rp h2 e1⟩
    | _ => cases e
theorem sel_rp {G : Gx} {O : List Addr} {H : Hp} {ds : List D} {vs : List V} {y : Addr} (r : RpA G O H ds vs) : ∀ {sel : List SelI}, selS ds.length sel = true → RpA G O H (sel.map (pickD (.non :: ds))) (sel.map (pickV (.ref y :: vs)))
  | [], _ => by simp [RpA]
  | .arg j :: s, h => by
    simp only [selS, Bool.and_eq_true, decide_eq_true_eq] at h
    obtain ⟨⟨h1, h2⟩, h3⟩ := h
    obtain ⟨j, rfl⟩ : ∃ i, j = i + 1 := ⟨j - 1, by omega⟩
    have hl : j < ds.length := by omega
    obtain ⟨v, ev, rv⟩ := r.at' (List.getElem?_eq_getElem hl)
    simp only [List.map_cons, RpA]
    refine ⟨_, _, rfl, ?_, sel_rp r h3⟩
    show Rp G O H (ds[j]?.getD .non) (vs[j]?.getD .non)
    rw [ev, List.getElem?_eq_getElem hl]
    exact rv
  | .dfI i :: s, h => by
    simp only [List.map_cons, RpA]
    exact ⟨_, _, rfl, by simp only [pickD, pickV, Rp], sel_rp r h⟩
  | .dfN :: s, h => by
    simp only [List.map_cons, RpA]
    exact ⟨_, _, rfl, by simp only [pickD, pickV, Rp], sel_rp r h⟩
theorem shs_len : ∀ {l : List (SD × Option Nat)} {ds : List D}, shs l = some ds → ds.length = l.length
  | [], ds, e => by cases e; rfl
  | (s, oi) :: r, ds, e => by
    cases s with
    | sh d =>
      have e : (shs r).map (d :: ·) = some ds := e
      obtain ⟨ds', e1, e2⟩ := Option.map_eq_some_iff.mp e
      subst e2
      simp [shs_len e1]
    | _ => cases e
/-- C(e, .., k = v, ..) -/
theorem ej_make (M : Mk X.K (cl.at' c) f) (hF : FnOk X.prog X.w X.K X.mg X.base (L2.CX X.prog X.w) k f fd ps (spN (gx X cl) c sel.length F)) (hr : Room (k + 1) X.A) (hg : Gl X x) (hm : X.mg x = some (.ref (cl.at' c))) (hb : KBs X.K fd ps (es.length + 1 + 1) ks (.arg 0 :: sel)) (tk : Takes X Wx)
    (hst : Stars X (e :: es)) (h : KJ X cl vs0 Wx (e :: es ++ kws.map (·.value)) fl) (ok : selS (es.length + 1 + kws.length) sel = true) (hall : (backToKw pos (keywordEach kws X.env)).all (·.1.isSome) = true := by rfl) (hks : (backToKw pos (keywordEach kws X.env)).filterMap (·.1) = ks := by rfl) (hkl : kws.length = ks.length := by rfl)
    (hdb : (x == ("__debug__" : Str)) = false := by decide) (he : starEach (e :: es) X.env = (false, eval e X.env) :: starEach es X.env := by rfl)
    (hpl : ((backTo pos (starEach (e :: es) X.env)).any (·.1) || (backToKw pos (keywordEach kws X.env)).any (·.1.isNone)) = false := by rfl) :
    EJ X cl vs0 Wx (.Call (.Name x p) (e :: es) kws pos) (xMake c F sel fl) := by
  obtain ⟨ts, pe, _, q⟩ := h.ex
  obtain ⟨g, kb⟩ := hb.ex
  obtain ⟨t1, t2, rfl, h1, h2⟩ := pes_split pe
  have e1 : t1.length = es.length + 1 := pes_len h1
  have e2 : t2.length = ks.length := by rw [pes_len h2, List.length_map, hkl]
  refine ⟨⟨_, pe_makeM (E := fun σ c d H => Wx c d σ H) M hF hr hg hm kb (fun σ => passAt tk σ) (pes_pa h1 hst) (pes_pk h2) hall hks hdb he hpl, fun O W σ H ρ Q sr hw => ?_⟩⟩
  have z := q O W σ H ρ (fun vs H2 => vs.length = es.length + 1 + kws.length → ∀ y dx, H2 y = none → H2 dx = none → dx ≠ y →
    spN (gx X cl) c sel.length F ((SelI.arg 0 :: sel).map (pickV (.ref y :: vs))) (upd (upd H2 dx (.own y)) y (.ins (cl.at' c) dx [])) (fun v H3 => v = .non ∧ Q (.ref y) H3) (fun c d H' => Wx c d σ H')) sr (by
      unfold xMake at hw
      cases ea : cargs fl ρ with
      | bad => rw [ea] at hw; exact hw
      | exc ce fs ρ1 => rw [ea] at hw; exact hw
      | ok a =>
        obtain ⟨l, ρ1⟩ := a
        rw [ea] at hw
        have hw : AftE (gx X cl) vs0 Wx O W σ H Q (makeO c F sel ρ1 (shs l)) := hw
        intro vs O2 W2 H2 st sr2 cr hl y dx ny nd ne
        cases es' : shs l with
        | none => rw [es'] at hw; exact hw.elim
        | some ds =>
          rw [es'] at hw
          have hw : AftE (gx X cl) vs0 Wx O W σ H Q (makeR c ρ1 (F (sel.map (pickD (.non :: ds))))) := hw
          have ra := shs_rp cr es'
          have dl : ds.length = es.length + 1 + kws.length := by rw [ra.length, hl]
          refine ⟨y, sel.map (pickV (.ref y :: vs)), H2, dx, O2, W2, sel.map (pickD (.non :: ds)), rfl, by simp, ny, nd, ne, rfl, sr2.wf, sr2.tabs, sel_rp ra (by rw [dl]; exact ok), ?_⟩
          cases eF : F (sel.map (pickD (.non :: ds))) with
          | bad => rw [eF] at hw; exact hw
          | exc ce fs _ =>
            rw [eF] at hw
            intro p gs O3 W3 H3 s3 w3 k3 hp hf
            exact hw p gs O3 W2 H3 (st.trans sr.wf s3.quiet) (sr2.quiet s3 w3 k3.tc) hp hf
          | ok y' =>
            obtain ⟨fs, _⟩ := y'
            rw [eF] at hw
            intro O3 W3 H3 s3 w3 k3 rp
            exact ⟨rfl, hw (.ref y) O3 W2 H3 (st.trans sr.wf s3.quiet) (sr2.quiet s3 w3 k3.tc) rp⟩)
  rw [tAll_app, tAll_len] at z
  unfold tMakeM
  rw [tAll_len]
  refine cast ?_ z
  congr 1
  funext vs H1
  refine propext (and_congr_right fun hl => ?_)
  rw [tAll_len]
  refine iff_of_eq ?_
  congr 1
  funext zs H2
  refine propext ⟨fun h => ⟨hl.trans e1, h.1.trans e2, h.2 (by rw [List.length_append, hl, e1, h.1, e2, hkl])⟩, fun h => ⟨h.2.1.trans e2.symm, fun _ => h.2.2⟩⟩
end
end Wm
end

section
/-! Fields and methods of own classes. -/
namespace Wm
open PySem PySem.Spec PyProof.Rows L2
section
variable {X : Cx} {cl : Cl} {vs0 : List V} {Wx : WX}
theorem RpF.lookN {G : Gx} {O : List Addr} {H : Hp} {f : Str} : ∀ {fs : List (Str × D)} {gs : List (Str × V)}, RpF G O H fs gs → fs.lookup f = none → gs.lookup f = none
  | [], gs, h, _ => by
    simp only [RpF] at h
    subst h
    rfl
  | (n, e) :: fs, gs, h, hn => by
    simp only [RpF] at h
    obtain ⟨u, r, rfl, h1, h2⟩ := h
    by_cases q : f = n
    · subst q
      simp at hn
    · have q' : (f == n) = false := by simpa using q
      simp only [List.lookup_cons, q'] at hn ⊢
      exact RpF.lookN h2 hn
/-- e.f -/
def pFld (c f : Str) : List D → Rs SD
  | [.ins c' fs] => if c' = c then (match fs.lookup f with
    | some d => .ok (.sh d)
    | none => .bad) else .bad
  | _ => .bad
def rdFld (K : PySem.W.Frag) (f : Str) : List V → Hp → VK → Prop := fun vs H Q => ∃ x a C dx fs v, vs = [x] ∧ x = .ref a ∧ H a = some (.ins C dx fs) ∧ L2.Cls K C ∧ NoAttr K C f ∧ fs.lookup f = some v ∧ Q v H
theorem pr_fld {c f : Str} (cc : L2.Cls X.K (cl.at' c)) (na : NoAttr X.K (cl.at' c) f) : PrimR X cl (rdFld X.K f) (pFld c f) := fun O W H ds vs Q w ho hp => by
  unfold pFld at hp
  split at hp
  · rename_i c' fs
    split at hp
    · rename_i q
      subst q
      obtain ⟨x, rfl, h1⟩ := ho.one
      split at hp
      · rename_i d ed
        have h1 : Rp (gx X cl) O H (.ins c' fs) x := by
          rcases h1 with h1 | ⟨_, _, z, _⟩
          · exact h1
          · cases z
        simp only [Rp] at h1
        obtain ⟨a, dx, gs, rfl, ha, hn, hf⟩ := h1
        obtain ⟨v, e1, e2⟩ := hf.look ed
        exact ⟨_, a, _, dx, gs, v, rfl, rfl, ha, cc, na, e1, hp _ H (Same.refl H) e2⟩
      · exact hp.elim
    · exact hp.elim
  · exact hp.elim
theorem ej_fld {c f : Str} {e : Expr} {pos : Pos} {fl : List LOp} (cc : L2.Cls X.K (cl.at' c)) (na : NoAttr X.K (cl.at' c) f) (h : OJ X cl vs0 Wx [e] fl) (hb : attributeBase e f X.env (eval e X.env) = eval e X.env := by rfl) : EJ X cl vs0 Wx (.Attribute e f pos) (xPrim fl (pFld c f)) := by
  obtain ⟨ta, p, q⟩ := one_of h
  refine ⟨⟨_, pe_fld p hb, fun O W σ H ρ Q sr hw => ?_⟩⟩
  have z : ta σ H (fun x H1 => rdFld X.K f [x] H1 Q) := prim_core (pr_fld cc na) q O W σ H ρ Q sr hw
  refine cast ?_ z
  show _ = tFld X.K _ f σ H Q
  unfold tFld
  congr 1
  funext x H1
  refine propext ⟨fun ⟨y, a, C, dx, fs, v, e, h⟩ => ?_, fun ⟨a, C, dx, fs, v, h⟩ => ⟨x, a, C, dx, fs, v, rfl, h⟩⟩
  cases e
  exact ⟨a, C, dx, fs, v, h⟩
/-! ### methods -/
variable {k n : Nat} {f C : Addr} {fd : FuncData} {ps ks : List Str} {x c m : Str} {p pos apos : Pos} {o e : Expr} {es : List Expr} {kws : List Keyword} {fl : List LOp} {F : Fn} {sel : List SelI} {inv : List Nat} {i : Nat} {pl : Sem Bool}
def tMethM (C : Addr) (m : Str) (i : Nat) (sp : Sp) (gV : List V → List V → List V) (E : L2.St → XK) (n l : Nat) (t tk : TA) : TE := fun σ H Q => ∃ a dx fs, σ[i]? = some (some (.ref a)) ∧ H a = some (.ins C dx fs) ∧ fs.lookup m = none ∧
  t σ H fun vs H1 => tk σ H1 fun zs H2 => vs.length = n ∧ zs.length = l ∧ sp (gV (.ref a :: vs) zs) H2 Q (E σ)
theorem pe_methK {sp : Sp} {CX : CXT} {g : List Value → List Value → List Value} {gV : List V → List V → List V} {E : L2.St → XK} {t tk : TA} (ho : PE X o (tVar i)) (cc : L2.Cls X.K C) (hm : Meth X.K C m f) (hF : FnOk X.prog X.w X.K X.mg X.base CX k f fd ps sp) (hr : Room k X.A) (hb : KBn X.K fd ps (n + 1) ks g gV) (hx : ∀ σ, PassesAt CX X σ (E σ))
    (ha : PA X (e :: es) t) (hkw : PK X kws tk) (hall : (backToKw pos (keywordEach kws X.env)).all (·.1.isSome) = true) (hks : (backToKw pos (keywordEach kws X.env)).filterMap (·.1) = ks)
    (he : starEach (e :: es) X.env = (false, eval e X.env) :: starEach es X.env) (hpl : ((backTo pos (starEach (e :: es) X.env)).any (·.1) || (backToKw pos (keywordEach kws X.env)).any (·.1.isNone)) = false)
    (ht : eval (.Call (.Attribute o m apos) (e :: es) kws pos) X.env = (do
      let ov ← eval o X.env
      standAt apos.atName
      let (f, first) ← holding [ov] (getMethod ov m pl)
      callWith pos f first (backTo pos (starEach (e :: es) X.env)) (backToKw pos (keywordEach kws X.env)))) :
    PE X (.Call (.Attribute o m apos) (e :: es) kws pos) (tMethM C m i sp gV E n ks.length t tk) := by
  refine ⟨fun pins s σ H Q I h => ?_⟩
  obtain ⟨a, dx, fs, e1, e2, e3, h⟩ := h
  refine PySem.W.methodCall_KW (pl := pl) (thn (ho.run pins s σ H (fun v H1 => v = .ref a ∧ H1 = H) I ⟨_, e1, rfl, rfl⟩) fun u s1 q => ?_) ht
  obtain ⟨v, H1, I1, rv, q1, q2⟩ := q
  subst q1 q2
  obtain rfl : u = Value.ref a := rv
  refine getmeth_ok I1 e2 cc hm e3 ?_
  refine PySem.W.callWith_KW (first := [.ref a]) (h₀ := X.base) I.ok.mod.kin hm.kp hall (thn (ha.run pos pins s1 σ H1 _ I1 h) fun us s2 q => ?_) hpl he
  obtain ⟨vs, H2, I2, r, q⟩ := q
  refine thn (hkw.run pos pins s2 σ H2 _ I2 q) fun ws s3 q3 => ?_
  obtain ⟨zs, H3, I3, rz, l1, l2, q3⟩ := q3
  refine ⟨I3.kIn, ?_⟩
  rw [hks]
  exact run_fnM (us := .ref a :: us) (vs := .ref a :: vs) hF hr hb (hx σ) I3 (.cons rfl r) rz (by rw [List.length_cons, l1]) l2 q3
theorem pe_methK0 {sp : Sp} {CX : CXT} {g : List Value → List Value → List Value} {gV : List V → List V → List V} {E : L2.St → XK} {tk : TA} (ho : PE X o (tVar i)) (cc : L2.Cls X.K C) (hm : Meth X.K C m f) (hF : FnOk X.prog X.w X.K X.mg X.base CX k f fd ps sp) (hr : Room k X.A) (hb : KBn X.K fd ps 1 ks g gV) (hx : ∀ σ, PassesAt CX X σ (E σ))
    (hkw : PK X kws tk) (hall : (backToKw pos (keywordEach kws X.env)).all (·.1.isSome) = true) (hks : (backToKw pos (keywordEach kws X.env)).filterMap (·.1) = ks)
    (hpl : ((backTo pos (starEach [] X.env)).any (·.1) || (backToKw pos (keywordEach kws X.env)).any (·.1.isNone)) = false)
    (ht : eval (.Call (.Attribute o m apos) [] kws pos) X.env = (do
      let ov ← eval o X.env
      standAt apos.atName
      let (f, first) ← holding [ov] (getMethod ov m pl)
      callWith pos f first (backTo pos (starEach [] X.env)) (backToKw pos (keywordEach kws X.env)))) :
    PE X (.Call (.Attribute o m apos) [] kws pos) (tMethM C m i sp gV E 0 ks.length tNil tk) := by
  refine ⟨fun pins s σ H Q I h => ?_⟩
  obtain ⟨a, dx, fs, e1, e2, e3, h⟩ := h
  refine PySem.W.methodCall_KW (pl := pl) (thn (ho.run pins s σ H (fun v H1 => v = .ref a ∧ H1 = H) I ⟨_, e1, rfl, rfl⟩) fun u s1 q => ?_) ht
  obtain ⟨v, H1, I1, rv, q1, q2⟩ := q
  subst q1 q2
  obtain rfl : u = Value.ref a := rv
  refine getmeth_ok I1 e2 cc hm e3 ?_
  refine PySem.W.callWith_KW0 (first := [.ref a]) (h₀ := X.base) I.ok.mod.kin hm.kp hall (thn (hkw.run pos pins s1 σ H1 _ I1 h) fun ws s3 q3 => ?_) hpl
  obtain ⟨zs, H3, I3, rz, l1, l2, q3⟩ := q3
  refine ⟨I3.kIn, ?_⟩
  rw [hks]
  exact run_fnM (us := [.ref a]) (vs := [.ref a]) hF hr hb (hx σ) I3 (.cons rfl .nil) rz rfl l2 q3
/-- o.m(e, .., k = v, ..), o a name -/
def methO (c m : Str) (k : Rs (SD × List SD)) : Option SD → Rs (SD × List SD)
  | some (.sh (.ins c' fs)) => if c' = c ∧ fs.lookup m = none then k else .bad
  | _ => .bad
def xMeth (c m : Str) (i : Nat) (F : Fn) (fl : List LOp) : Sx := fun ρ => methO c m (xCall F (.va i :: fl) ρ) ρ[i]?
theorem meth_at {O W : List Addr} {σ : L2.St} {H : Hp} {ρ : List SD} {Q : VK} {r : Rs (SD × List SD)} (sr : SR (gx X cl) vs0 O W σ H ρ) (hw : AftE (gx X cl) vs0 Wx O W σ H Q (methO c m r ρ[i]?)) :
    (∃ a dx fs, σ[i]? = some (some (.ref a)) ∧ H a = some (.ins (cl.at' c) dx fs) ∧ fs.lookup m = none) ∧ AftE (gx X cl) vs0 Wx O W σ H Q r := by
  cases e : ρ[i]? with
  | none => rw [e] at hw; exact hw.elim
  | some s =>
    rw [e] at hw
    cases s with
    | sh d =>
      cases d with
      | ins c' fs =>
        have hw2 : AftE (gx X cl) vs0 Wx O W σ H Q (if c' = c ∧ fs.lookup m = none then r else .bad) := hw
        by_cases q : c' = c ∧ fs.lookup m = none
        · rw [if_pos q] at hw2
          obtain ⟨rfl, hn⟩ := q
          obtain ⟨v, ev, rv⟩ := sr.get e
          simp only [Rp] at rv
          obtain ⟨a, dx, gs, rfl, ha, _, hf⟩ := rv
          exact ⟨⟨a, dx, gs, ev, ha, hf.lookN hn⟩, hw2⟩
        · rw [if_neg q] at hw2
          exact hw2.elim
      | _ => exact hw.elim
    | _ => exact hw.elim
theorem kj_va {o : Expr} {es : List Expr} {i : Nat} {fl : List LOp} (hr : KJ X cl vs0 Wx es fl) : ∃ ts, PEs X es ts ∧ PA X es (tAll ts) ∧ ∀ O W σ H ρ R, SR (gx X cl) vs0 O W σ H ρ → AftK (gx X cl) vs0 Wx O W σ H R (cargs (.va i :: fl) ρ) → tAll (tVar i :: ts) σ H R := by
  obtain ⟨ts, p1, p2, p3⟩ := hr.ex
  refine ⟨ts, p1, p2, fun O W σ H ρ R sr hw => ?_⟩
  have hw' : AftK (gx X cl) vs0 Wx O W σ H R ((argOf ρ i).bind fun _ => (cargs fl ρ).bind fun p => (argOf p.2 i).bind fun s => .ok ((s, some i) :: p.1, p.2)) := hw
  cases e0 : argOf ρ i with
  | bad => rw [e0] at hw'; exact hw'.elim
  | exc c fs ρ' => exact absurd e0 argOf_noexc
  | ok d0 =>
    rw [e0] at hw'
    obtain ⟨v, ev, _⟩ := argOf_sr sr e0
    refine ⟨v, ev, p3 O W σ H ρ _ sr ?_⟩
    have hw2 : AftK (gx X cl) vs0 Wx O W σ H R ((cargs fl ρ).bind fun p => (argOf p.2 i).bind fun s => .ok ((s, some i) :: p.1, p.2)) := hw'
    cases e1 : cargs fl ρ with
    | bad => rw [e1] at hw2; exact hw2
    | exc c fs ρ' => rw [e1] at hw2; exact hw2
    | ok p =>
      obtain ⟨ps, ρ1⟩ := p
      rw [e1] at hw2
      have hw3 : AftK (gx X cl) vs0 Wx O W σ H R ((argOf ρ1 i).bind fun s => .ok ((s, some i) :: ps, ρ1)) := hw2
      intro vs O' W' H' st sr' ho
      cases e2 : argOf ρ1 i with
      | bad => rw [e2] at hw3; exact hw3.elim
      | exc c fs ρ' => exact absurd e2 argOf_noexc
      | ok d =>
        rw [e2] at hw3
        obtain ⟨v', ev', r'⟩ := argOf_sr sr' e2
        rw [ev] at ev'; cases ev'
        exact hw3 (v :: vs) O' W' H' st sr' ⟨v, vs, rfl, r', ho⟩
theorem ej_methK0 (ho : PE X o (tVar i)) (cc : L2.Cls X.K (cl.at' c)) (hm : Meth X.K (cl.at' c) m f) (hF : FnOk X.prog X.w X.K X.mg X.base (L2.CX X.prog X.w) k f fd ps (spF (gx X cl) sel.length F)) (hr : Room k X.A) (hb : KBs X.K fd ps 1 ks sel) (tk : Takes X Wx)
    (h : KJ X cl vs0 Wx (kws.map (·.value)) fl) (ok : selB (fl.length + 1) sel inv = true)
    (ht : eval (.Call (.Attribute o m apos) [] kws pos) X.env = (do
      let ov ← eval o X.env
      standAt apos.atName
      let (f, first) ← holding [ov] (getMethod ov m pl)
      callWith pos f first (backTo pos (starEach [] X.env)) (backToKw pos (keywordEach kws X.env))) := by rfl)
    (hall : (backToKw pos (keywordEach kws X.env)).all (·.1.isSome) = true := by rfl) (hks : (backToKw pos (keywordEach kws X.env)).filterMap (·.1) = ks := by rfl) (hkl : kws.length = ks.length := by rfl)
    (hpl : ((backTo pos (starEach [] X.env)).any (·.1) || (backToKw pos (keywordEach kws X.env)).any (·.1.isNone)) = false := by rfl) :
    EJ X cl vs0 Wx (.Call (.Attribute o m apos) [] kws pos) (xMeth c m i (permF sel inv F) fl) := by
  obtain ⟨g, kb⟩ := hb.ex
  obtain ⟨ts, pe, _, q⟩ := kj_va (o := o) (i := i) h
  have e2 : ts.length = ks.length := by rw [pes_len pe, List.length_map, hkl]
  refine ⟨⟨_, pe_methK0 (E := fun σ c d H => Wx c d σ H) ho cc hm hF hr kb (fun σ => passAt tk σ) (pes_pk pe) hall hks hpl ht, fun O W σ H ρ Q sr hw => ?_⟩⟩
  obtain ⟨⟨a, dx, fs, e1, e3, e4⟩, hw⟩ := meth_at sr hw
  obtain ⟨v, ev, z⟩ := call_core (F := permF sel inv F) (n := fl.length + 1) (t := tAll (tVar i :: ts)) rfl q O W σ H ρ Q (fun vs H1 => spF (gx X cl) sel.length F (sel.map (pickV vs)) H1 Q fun c d H' => Wx c d σ H') sr hw fun vs H1 h => spF_perm ok h
  rw [e1] at ev
  cases ev
  have z : tAll ts σ H fun vs H2 => spF (gx X cl) sel.length F (sel.map (pickV (.ref a :: vs))) H2 Q fun c d H' => Wx c d σ H' := z
  rw [tAll_len] at z
  refine ⟨a, dx, fs, e1, e3, e4, ?_⟩
  refine cast ?_ z
  show _ = tAll ts σ H fun zs H2 => ([] : List V).length = 0 ∧ zs.length = ks.length ∧ spF (gx X cl) sel.length F (sel.map (pickV ([V.ref a] ++ zs))) H2 Q fun c d H' => Wx c d σ H'
  congr 1
  funext zs H2
  rw [e2]
  exact propext ⟨fun h => ⟨rfl, h⟩, fun h => h.2⟩
theorem ej_methK (ho : PE X o (tVar i)) (cc : L2.Cls X.K (cl.at' c)) (hm : Meth X.K (cl.at' c) m f) (hF : FnOk X.prog X.w X.K X.mg X.base (L2.CX X.prog X.w) k f fd ps (spF (gx X cl) sel.length F)) (hr : Room k X.A) (hb : KBs X.K fd ps (es.length + 1 + 1) ks sel) (tk : Takes X Wx)
    (hst : Stars X (e :: es)) (h : KJ X cl vs0 Wx (e :: es ++ kws.map (·.value)) fl) (ok : selB (fl.length + 1) sel inv = true)
    (ht : eval (.Call (.Attribute o m apos) (e :: es) kws pos) X.env = (do
      let ov ← eval o X.env
      standAt apos.atName
      let (f, first) ← holding [ov] (getMethod ov m pl)
      callWith pos f first (backTo pos (starEach (e :: es) X.env)) (backToKw pos (keywordEach kws X.env))) := by rfl)
    (hall : (backToKw pos (keywordEach kws X.env)).all (·.1.isSome) = true := by rfl) (hks : (backToKw pos (keywordEach kws X.env)).filterMap (·.1) = ks := by rfl) (hkl : kws.length = ks.length := by rfl)
    (he : starEach (e :: es) X.env = (false, eval e X.env) :: starEach es X.env := by rfl)
    (hpl : ((backTo pos (starEach (e :: es) X.env)).any (·.1) || (backToKw pos (keywordEach kws X.env)).any (·.1.isNone)) = false := by rfl) :
    EJ X cl vs0 Wx (.Call (.Attribute o m apos) (e :: es) kws pos) (xMeth c m i (permF sel inv F) fl) := by
  obtain ⟨g, kb⟩ := hb.ex
  obtain ⟨ts, pe, _, q⟩ := kj_va (o := o) (i := i) h
  obtain ⟨t1, t2, rfl, h1, h2⟩ := pes_split pe
  have e1 : t1.length = es.length + 1 := pes_len h1
  have e2 : t2.length = ks.length := by rw [pes_len h2, List.length_map, hkl]
  refine ⟨⟨_, pe_methK (E := fun σ c d H => Wx c d σ H) ho cc hm hF hr kb (fun σ => passAt tk σ) (pes_pa h1 hst) (pes_pk h2) hall hks he hpl ht, fun O W σ H ρ Q sr hw => ?_⟩⟩
  obtain ⟨⟨a, dx, fs, e0, e3, e4⟩, hw⟩ := meth_at sr hw
  obtain ⟨v, ev, z⟩ := call_core (F := permF sel inv F) (n := fl.length + 1) (t := tAll (tVar i :: (t1 ++ t2))) rfl q O W σ H ρ Q (fun vs H1 => spF (gx X cl) sel.length F (sel.map (pickV vs)) H1 Q fun c d H' => Wx c d σ H') sr hw fun vs H1 h => spF_perm ok h
  rw [e0] at ev
  cases ev
  have z : tAll (t1 ++ t2) σ H fun vs H2 => spF (gx X cl) sel.length F (sel.map (pickV (.ref a :: vs))) H2 Q fun c d H' => Wx c d σ H' := z
  rw [tAll_app, tAll_len] at z
  refine ⟨a, dx, fs, e0, e3, e4, ?_⟩
  rw [tAll_len]
  refine cast ?_ z
  congr 1
  funext vs H1
  refine propext (and_congr_right fun hl => ?_)
  rw [tAll_len]
  refine iff_of_eq ?_
  congr 1
  funext zs H2
  refine propext ⟨fun h => ⟨hl.trans e1, h.1.trans e2, h.2⟩, fun h => ⟨h.2.1.trans e2.symm, h.2.2⟩⟩
end
end Wm
end

section
/-! a op b op c of ints. -/
namespace Wm
open PySem PySem.Spec PyProof.Rows L2
section
variable {X : Cx} {cl : Cl} {vs0 : List V} {Wx : WX}
def chain2 (g : Int → Int → Bool) (j : Int) (ρ : List SD) : List D → Rs (SD × List SD)
  | [.int k] => .ok (.sh (.bl (g j k)), ρ)
  | _ => .bad
def chain1 (g1 g2 : Int → Int → Bool) (fl2 : List LOp) (ρ : List SD) : List D → Rs (SD × List SD)
  | [.int i, .int j] => if g1 i j then (ops fl2 ρ).bind fun q => chain2 g2 j q.2 q.1 else .ok (.sh (.bl false), ρ)
  | _ => .bad
def xChain (g1 g2 : Int → Int → Bool) (fl fl2 : List LOp) : Sx := fun ρ => (ops fl ρ).bind fun q => chain1 g1 g2 fl2 q.2 q.1
theorem chain_core {g1 g2 : Int → Int → Bool} {fl fl2 : List LOp} {ta tb tc : TE}
    (q1 : ∀ O W σ H ρ R, SR (gx X cl) vs0 O W σ H ρ → AftO (gx X cl) vs0 Wx O W σ H R (ops fl ρ) → tAll [ta, tb] σ H R)
    (q2 : ∀ O W σ H ρ R, SR (gx X cl) vs0 O W σ H ρ → AftO (gx X cl) vs0 Wx O W σ H R (ops fl2 ρ) → tAll [tc] σ H R) :
    ∀ O W σ H ρ Q, SR (gx X cl) vs0 O W σ H ρ → AftE (gx X cl) vs0 Wx O W σ H Q (xChain g1 g2 fl fl2 ρ) → tChain (rI0 fun i j => .bl (g1 i j)) (rI0 fun i j => .bl (g2 i j)) ta tb tc σ H Q := by
  intro O W σ H ρ Q sr hw
  refine q1 O W σ H ρ (fun vs H2 => match vs with
    | [x, y] => rI0 (fun i j => .bl (g1 i j)) x y H2 fun z H3 => ∃ k, z = .bl k ∧ (if k = true then tc σ H3 fun w' H4 => rI0 (fun i j => .bl (g2 i j)) y w' H4 Q else Q (.bl false) H3)
    | _ => False) sr ?_
  unfold xChain at hw
  cases e : ops fl ρ with
  | bad => rw [e] at hw; exact hw
  | exc c fs ρ' => rw [e] at hw; exact hw
  | ok p =>
    obtain ⟨ds, ρ1⟩ := p
    rw [e] at hw
    replace hw : AftE (gx X cl) vs0 Wx O W σ H Q (chain1 g1 g2 fl2 ρ1 ds) := hw
    intro vs O1 W1 H1 st1 sr1 ho
    unfold chain1 at hw
    split at hw
    · rename_i i j
      obtain ⟨x, y, rfl, h1, h2⟩ := ho.two
      refine ⟨i, j, h1.int, h2.int, g1 i j, rfl, ?_⟩
      cases hg : g1 i j with
      | false =>
        rw [hg] at hw
        exact hw (.bl false) O1 W1 H1 st1 sr1 (show Rp (gx X cl) O1 H1 (.bl false) (.bl false) by simp only [Rp])
      | true =>
        rw [hg] at hw
        replace hw : AftE (gx X cl) vs0 Wx O W σ H Q ((ops fl2 ρ1).bind fun q => chain2 g2 j q.2 q.1) := hw
        refine q2 O1 W1 σ H1 ρ1 (fun vs H4 => match vs with
          | [w'] => rI0 (fun i j => .bl (g2 i j)) y w' H4 Q
          | _ => False) sr1 ?_
        cases e2 : ops fl2 ρ1 with
        | bad => rw [e2] at hw; exact hw
        | exc c fs ρ' =>
          rw [e2] at hw
          exact ExcA.back sr.wf st1 hw
        | ok p2 =>
          obtain ⟨ds2, ρ2⟩ := p2
          rw [e2] at hw
          replace hw : AftE (gx X cl) vs0 Wx O W σ H Q (chain2 g2 j ρ2 ds2) := hw
          intro vs2 O2 W2 H2 st2 sr2 ho2
          unfold chain2 at hw
          split at hw
          · rename_i k
            obtain ⟨z, rfl, h3⟩ := ho2.one
            exact ⟨j, k, h2.int, h3.int, hw _ O2 W2 H2 (st1.trans sr.wf st2) sr2 (show Rp (gx X cl) O2 H2 (.bl (g2 j k)) (.bl (g2 j k)) by simp only [Rp])⟩
          · exact hw.elim
    · exact hw.elim
variable {op op' : CmpOp} {g1 g2 : Int → Int → Bool} {fl fl2 : List LOp} {a b c : Expr} {pos : Pos}
theorem ej_chain (ho : OpR X (compareOp op) (rI0 fun i j => .bl (g1 i j))) (ho' : OpR X (compareOp op') (rI0 fun i j => .bl (g2 i j))) (h : OJ X cl vs0 Wx [a, b] fl) (h2 : OJ X cl vs0 Wx [c] fl2) (hm : lastMarks [op, op'] [b, c] = false := by with_unfolding_all rfl) :
    EJ X cl vs0 Wx (.Compare a [op, op'] [b, c] pos) (xChain g1 g2 fl fl2) := by
  obtain ⟨ta, tb, ha, hb, q⟩ := two_of h
  obtain ⟨tc, hc, q2⟩ := one_of h2
  exact ⟨⟨_, pe_chain ho ho' ha hb hc hm, chain_core q q2⟩⟩
theorem tj_chain (ho : OpR X (compareOp op) (rI0 fun i j => .bl (g1 i j))) (ho' : OpR X (compareOp op') (rI0 fun i j => .bl (g2 i j))) (h : OJ X cl vs0 Wx [a, b] fl) (h2 : OJ X cl vs0 Wx [c] fl2) (hm : lastMarks [op, op'] [b, c] = false := by with_unfolding_all rfl) :
    TJ X cl vs0 Wx (.Compare a [op, op'] [b, c] pos) (bT (xChain g1 g2 fl fl2)) := by
  obtain ⟨ta, tb, ha, hb, q⟩ := two_of h
  obtain ⟨tc, hc, q2⟩ := one_of h2
  refine ⟨⟨_, pt_chain ho ho' ha hb hc hm, fun O W σ H ρ Q sr hw => chain_core q q2 O W σ H ρ _ sr (tst_core hw)⟩⟩
theorem tj_isN (h : OJ X cl vs0 Wx [a, b] fl) : TJ X cl vs0 Wx (.Compare a [.Is] [b] pos) (bT (xPrim fl pIsN)) := tj_cmp op_isN (fun O W H ds vs Q w ho hp => by
  unfold pIsN at hp
  split at hp
  · obtain ⟨x, y, rfl, h1, h2⟩ := ho.two
    refine ⟨h2.non, ?_⟩
    rw [h1.non]
    exact hp _ H (Same.refl H) (by simp [Rp])
  · rename_i d hd
    obtain ⟨x, y, rfl, h1, h2⟩ := ho.two
    refine ⟨h2.non, ?_⟩
    rw [decide_eq_false (h1.notNon fun z => hd z)]
    exact hp _ H (Same.refl H) (by simp [Rp])
  · exact hp.elim) h (nomark _)
theorem tj_notN (h : OJ X cl vs0 Wx [a, b] fl) : TJ X cl vs0 Wx (.Compare a [.IsNot] [b] pos) (bT (xPrim fl pNotN)) := tj_cmp op_notN (fun O W H ds vs Q w ho hp => by
  unfold pNotN at hp
  split at hp
  · obtain ⟨x, y, rfl, h1, h2⟩ := ho.two
    refine ⟨h2.non, ?_⟩
    rw [h1.non]
    exact hp _ H (Same.refl H) (by simp [Rp])
  · rename_i d hd
    obtain ⟨x, y, rfl, h1, h2⟩ := ho.two
    refine ⟨h2.non, ?_⟩
    rw [decide_eq_false (h1.notNon fun z => hd z)]
    exact hp _ H (Same.refl H) (by simp [Rp])
  · exact hp.elim) h (nomark _)
end
end Wm
end

section
/-! Evaluation: own classes, chains. -/
namespace Wm
open PySem PySem.Spec PyProof.Rows L2
@[simp] theorem nNil_ap (fs : List (Str × D)) (ρ : List SD) : nNil fs ρ = .ok (fs, ρ) := (rfl)
@[simp] theorem nSeq_ap (g : Ss) (f : Sn) (fs : List (Str × D)) (ρ : List SD) : nSeq g f fs ρ = nSeqR f fs (g ρ) := (rfl)
@[simp] theorem nSeqR_nx (f : Sn) (fs : List (Str × D)) (ρ : List SD) : nSeqR f fs (.ok (.nx ρ)) = f fs ρ := (rfl)
@[simp] theorem nSeqR_exc (f : Sn) (fs : List (Str × D)) (c : Str) (es : List (Str × D)) (ρ : List SD) : nSeqR f fs (.exc c es ρ) = .exc c es ρ := (rfl)
@[simp] theorem nSto_ap (n : Str) (g : Sx) (h : Sn) (fs : List (Str × D)) (ρ : List SD) : nSto n g h fs ρ = nStoR n h fs (g ρ) := (rfl)
@[simp] theorem nStoR_ok (n : Str) (h : Sn) (fs : List (Str × D)) (r : SD) (ρ : List SD) : nStoR n h fs (.ok (r, .gv :: ρ)) = if fs.length < 1000 then h (putD n r.frz fs) (.gv :: ρ) else .bad := by
  show (if isGv (.gv :: ρ) = true ∧ fs.length < 1000 then h (putD n r.frz fs) (.gv :: ρ) else .bad) = _
  by_cases q : fs.length < 1000
  · rw [if_pos ⟨rfl, q⟩, if_pos q]
  · rw [if_neg (fun z => q z.2), if_neg q]
@[simp] theorem putD_nil (n : Str) (d : D) : putD n d [] = [(n, d)] := (rfl)
@[simp] theorem putD_cons (n m : Str) (d e : D) (r : List (Str × D)) : putD n d ((m, e) :: r) = if m = n then (n, d) :: r else (m, e) :: putD n d r := (rfl)
@[simp] theorem bodyN_ap (N : Nat) (f : Sn) (ds : List D) : bodyN N f ds = f [] (.gv :: (ds.map SD.sh ++ List.replicate (N - 1 - ds.length) .no)) := (rfl)
@[simp] theorem xMake_ap (c : Str) (F : Fi) (sel : List SelI) (fl : List LOp) (ρ : List SD) : xMake c F sel fl ρ = (cargs fl ρ).bind fun p => makeO c F sel p.2 (shs p.1) := (rfl)
@[simp] theorem shs_nil : shs [] = some [] := (rfl)
@[simp] theorem shs_cons (d : D) (o : Option Nat) (r : List (SD × Option Nat)) : shs ((.sh d, o) :: r) = (shs r).map (d :: ·) := (rfl)
@[simp] theorem makeO_some (c : Str) (F : Fi) (sel : List SelI) (ρ : List SD) (ds : List D) : makeO c F sel ρ (some ds) = makeR c ρ (F (sel.map (pickD (.non :: ds)))) := (rfl)
@[simp] theorem makeR_ok (c : Str) (ρ ρ' : List SD) (fs : List (Str × D)) : makeR c ρ (.ok (fs, ρ')) = .ok (.sh (.ins c fs), ρ) := (rfl)
@[simp] theorem makeR_exc (c ce : Str) (ρ ρ' : List SD) (fs : List (Str × D)) : makeR c ρ (.exc ce fs ρ') = .exc ce fs ρ := (rfl)
@[simp] theorem pickD_arg (ds : List D) (j : Nat) : pickD ds (.arg j) = ds[j]?.getD .non := (rfl)
@[simp] theorem pickD_dfI (ds : List D) (j : Int) : pickD ds (.dfI j) = .int j := (rfl)
@[simp] theorem pickD_dfN (ds : List D) : pickD ds .dfN = .non := (rfl)
@[simp] theorem xMeth_ap (c m : Str) (i : Nat) (F : Fn) (fl : List LOp) (ρ : List SD) : xMeth c m i F fl ρ = methO c m (xCall F (.va i :: fl) ρ) ρ[i]? := (rfl)
@[simp] theorem methO_ins (c m : Str) (k : Rs (SD × List SD)) (fs : List (Str × D)) : methO c m k (some (.sh (.ins c fs))) = if fs.lookup m = none then k else .bad := by
  show (if c = c ∧ fs.lookup m = none then k else .bad) = _
  by_cases q : fs.lookup m = none
  · rw [if_pos ⟨rfl, q⟩, if_pos q]
  · rw [if_neg (fun z => q z.2), if_neg q]
def fldR : Option D → Rs SD
  | some d => .ok (.sh d)
  | none => .bad
@[simp] theorem pFld_ins (c f : Str) (fs : List (Str × D)) : pFld c f [.ins c fs] = fldR (fs.lookup f) := by
  show (if c = c then (match fs.lookup f with | some d => Rs.ok (SD.sh d) | none => Rs.bad) else .bad) = _
  rw [if_pos rfl]
  cases fs.lookup f <;> rfl
@[simp] theorem fldR_some (d : D) : fldR (some d) = .ok (.sh d) := (rfl)
@[simp] theorem xChain_ap (g1 g2 : Int → Int → Bool) (fl fl2 : List LOp) (ρ : List SD) : xChain g1 g2 fl fl2 ρ = (ops fl ρ).bind fun q => chain1 g1 g2 fl2 q.2 q.1 := (rfl)
@[simp] theorem chain1_ev (g1 g2 : Int → Int → Bool) (fl2 : List LOp) (ρ : List SD) (i j : Int) : chain1 g1 g2 fl2 ρ [.int i, .int j] = if g1 i j then (ops fl2 ρ).bind fun q => chain2 g2 j q.2 q.1 else .ok (.sh (.bl false), ρ) := (rfl)
@[simp] theorem chain2_ev (g : Int → Int → Bool) (j : Int) (ρ : List SD) (k : Int) : chain2 g j ρ [.int k] = .ok (.sh (.bl (g j k)), ρ) := (rfl)
@[simp] theorem trim_ap4 (ρ : List SD) : trim 4 ρ = [trim1 (ρ[0]?.getD .no), trim1 (ρ[1]?.getD .no), trim1 (ρ[2]?.getD .no), trim1 (ρ[3]?.getD .no)] := (rfl)
@[simp] theorem trim_ap5 (ρ : List SD) : trim 5 ρ = [trim1 (ρ[0]?.getD .no), trim1 (ρ[1]?.getD .no), trim1 (ρ[2]?.getD .no), trim1 (ρ[3]?.getD .no), trim1 (ρ[4]?.getD .no)] := (rfl)
@[simp] theorem trim_ap6 (ρ : List SD) : trim 6 ρ = [trim1 (ρ[0]?.getD .no), trim1 (ρ[1]?.getD .no), trim1 (ρ[2]?.getD .no), trim1 (ρ[3]?.getD .no), trim1 (ρ[4]?.getD .no), trim1 (ρ[5]?.getD .no)] := (rfl)
@[simp] theorem trim_ap7 (ρ : List SD) : trim 7 ρ = [trim1 (ρ[0]?.getD .no), trim1 (ρ[1]?.getD .no), trim1 (ρ[2]?.getD .no), trim1 (ρ[3]?.getD .no), trim1 (ρ[4]?.getD .no), trim1 (ρ[5]?.getD .no), trim1 (ρ[6]?.getD .no)] := (rfl)
@[simp] theorem trim_ap8 (ρ : List SD) : trim 8 ρ = [trim1 (ρ[0]?.getD .no), trim1 (ρ[1]?.getD .no), trim1 (ρ[2]?.getD .no), trim1 (ρ[3]?.getD .no), trim1 (ρ[4]?.getD .no), trim1 (ρ[5]?.getD .no), trim1 (ρ[6]?.getD .no), trim1 (ρ[7]?.getD .no)] := (rfl)
end Wm
end

section
/-! Evaluation: names. -/
namespace Wm
open PySem PySem.Spec PyProof.Rows L2
theorem ofString_inj {a b : String} (h : Str.ofString a = Str.ofString b) : a = b := by
  rw [Str.ofString_eq_toList, Str.ofString_eq_toList] at h
  have h := congrArg Str.cps h
  have h : a.toList.map Char.toNat = b.toList.map Char.toNat := by simpa using h
  have := (List.map_inj_right (f := Char.toNat) (fun x y e => by
    apply Char.ext
    apply UInt32.toNat_inj.mp
    exact e)).mp h
  exact String.toList_inj.mp this
@[simp] theorem str_eq (a b : String) : (Str.ofString a = Str.ofString b) ↔ a = b := ⟨ofString_inj, fun e => by rw [e]⟩
@[simp] theorem str_beq (a b : String) : (Str.ofString a == Str.ofString b) = (a == b) := by
  by_cases h : a = b
  · subst h; simp
  · have : ¬ Str.ofString a = Str.ofString b := fun e => h (ofString_inj e)
    rw [beq_eq_false_iff_ne.mpr this, beq_eq_false_iff_ne.mpr h]
@[simp] theorem look_nil (n : Str) : List.lookup n ([] : List (Str × D)) = none := (rfl)
@[simp] theorem look_cons (n m : Str) (d : D) (r : List (Str × D)) : List.lookup n ((m, d) :: r) = if n == m then some d else List.lookup n r := by
  rw [List.lookup]
  cases n == m <;> rfl
end Wm
end

section
/-! Methods that write a list of one's own: extend, pop, remove. -/
namespace Wm
open PySem PySem.Spec PyProof.Rows L2
section
variable {X : Cx} {cl : Cl} {vs0 : List V} {Wx : WX}
/-- a method of one argument: what it tells, and what the list is then -/
def MutOk (X : Cx) (cl : Cl) (r : V → List V → Hp → VK → Prop) (m : List D → D → Rs (D × List D)) : Prop :=
  ∀ (O : List Addr) (H : Hp) (a : Addr) (xs : List D) (us : List V) (d : D) (v : V) (dr : D) (ys : List D), H a = some (.lst us) → us.length ≤ sizeLine → RpA (gx X cl) O H xs us → Rp (gx X cl) O H d v → m xs d = .ok (dr, ys) →
    ∃ rv vs, vs.length ≤ sizeLine ∧ RpA (gx X cl) O H ys vs ∧ Rp (gx X cl) O H dr rv ∧ ∀ Q : VK, Q rv (upd H a (.lst vs)) → r (.ref a) [v] H Q
def xMut1 (x : Nat) (m : List D → D → Rs (D × List D)) (f : Sx) : Sx := fun ρ => (ownGet ρ x).bind fun _ => (f ρ).bind fun p => (ownGet p.2 x).bind fun xs => (m xs p.1.frz).bind fun q => .ok (.sh q.1, ownSet p.2 x q.2)
def noExc {α : Type} : Rs α → Prop
  | .exc _ _ _ => False
  | _ => True
theorem ee_core {G : Gx} {O W : List Addr} {σ : L2.St} {H : Hp} {R : VK} {k : SD × List SD → Rs (SD × List SD)} {Q : VK} {r : Rs (SD × List SD)} (w : Wf O W H)
    (hw : AftE G vs0 Wx O W σ H Q (r.bind k)) (h : ∀ v s ρ' O' W' H', SR G vs0 O' W' σ H' ρ' → ResR G O' W' σ H' ρ' v s → AftE G vs0 Wx O' W' σ H' Q (k (s, ρ')) → R v H') : AftE G vs0 Wx O W σ H R r := by
  cases r with
  | bad => exact hw
  | exc c fs ρ => exact hw
  | ok p => exact fun v O' W' H' st sr rr => h v p.1 p.2 O' W' H' sr rr (AftE.back w st hw)
theorem ej_mut1 {x : Nat} {ex e : Expr} {f : Sx} {r : V → List V → Hp → VK → Prop} {m : List D → D → Rs (D × List D)} {apos cpos : Pos} {name : Str} {id : String}
    (slot : Slot "list" name id) (hty : typeOf (.builtin id) = pure (.type "method_descriptor")) (hm : MtR X id r) (hM : MutOk X cl r m) (hne : ∀ xs d, noExc (m xs d)) (hx : PE X ex (tVar x)) (h : EJ X cl vs0 Wx e f)
    (hbase : attributeBase ex name X.env (eval ex X.env) = eval ex X.env := by rfl)
    (hfew : ((backTo cpos (starEach [e] X.env)).all (fun x => !x.1) && (backToKw cpos (keywordEach [] X.env)).all (fun x => x.1.isSome)
      && decide ([e].length + ([] : List Keyword).length + (if ([] : List Keyword).isEmpty then 0 else 1) < 30)) = true := by rfl)
    (hline : (apos.endLine == cpos.line) = true := by rfl) (hs : starEach [e] X.env = (false, eval e X.env) :: starEach [] X.env := by rfl) (hplain : (backTo cpos (starEach [] X.env)).any (·.1) = false := by rfl) :
    EJ X cl vs0 Wx (.Call (.Attribute ex name apos) [e] [] cpos) (xMut1 x m f) := by
  obtain ⟨t, p, q⟩ := h.ex
  refine ⟨⟨_, pe_bm PySem.F.plainAttrs_list slot hty hm hx (pa_cons p pa_nil hs) hbase hfew hline hs hplain, fun O W σ H ρ E sr hw => ?_⟩⟩
  unfold xMut1 at hw
  cases eg : ownGet ρ x with
  | bad => rw [eg] at hw; exact hw.elim
  | exc c fs ρ' => exact absurd eg ownGet_noexc
  | ok xs0 =>
    rw [eg] at hw
    obtain ⟨a, ea, oa⟩ := ownGet_at sr eg
    obtain ⟨_, us0, h20, _⟩ := oa
    refine ⟨.ref a, ea, .inl ⟨rfl, _, SqL.of h20⟩, q O W σ H ρ _ sr (ee_core sr.wf hw fun v s ρ1 O1 W1 H1 sr1 rr hk => ?_)⟩
    obtain ⟨O2, W2, st2, sr2, rp⟩ := rr.frz sr1
    have hk := AftE.back sr1.wf st2 hk
    have hk : AftE (gx X cl) vs0 Wx O2 W2 σ H1 E ((ownGet ρ1 x).bind fun xs => (m xs s.frz).bind fun q => .ok (.sh q.1, ownSet ρ1 x q.2)) := hk
    cases eg2 : ownGet ρ1 x with
    | bad => rw [eg2] at hk; exact hk.elim
    | exc c fs ρ' => exact absurd eg2 ownGet_noexc
    | ok xs =>
      rw [eg2] at hk
      have hk : AftE (gx X cl) vs0 Wx O2 W2 σ H1 E ((m xs s.frz).bind fun q => .ok (.sh q.1, ownSet ρ1 x q.2)) := hk
      obtain ⟨b, eb, oW, us, h2, h3, h4⟩ := ownGet_at sr2 eg2
      rw [ea] at eb; cases eb
      have hn := hne xs s.frz
      cases em : m xs s.frz with
      | bad => rw [em] at hk; exact hk.elim
      | exc c fs ρ' => rw [em] at hn; exact hn.elim
      | ok pr =>
        obtain ⟨dr, ys⟩ := pr
        rw [em] at hk
        obtain ⟨rv, vs, hl, hr, hrv, hq⟩ := hM O2 H1 a xs us s.frz v dr ys h2 h3 h4 rp em
        obtain ⟨st4, sr4⟩ := sr2.write (vs := vs) eg2 ea hl hr
        exact hq _ (hk rv O2 W2 _ st4 sr4 (hrv.step sr2.wf st4))
/-- a method without arguments -/
def MutOk0 (X : Cx) (cl : Cl) (r : V → List V → Hp → VK → Prop) (m : List D → Rs (D × List D)) : Prop :=
  ∀ (O : List Addr) (H : Hp) (a : Addr) (xs : List D) (us : List V) (dr : D) (ys : List D), H a = some (.lst us) → us.length ≤ sizeLine → RpA (gx X cl) O H xs us → m xs = .ok (dr, ys) →
    ∃ rv vs, vs.length ≤ sizeLine ∧ RpA (gx X cl) O H ys vs ∧ Rp (gx X cl) O H dr rv ∧ ∀ Q : VK, Q rv (upd H a (.lst vs)) → r (.ref a) [] H Q
def xMut0 (x : Nat) (m : List D → Rs (D × List D)) : Sx := fun ρ => (ownGet ρ x).bind fun xs => (m xs).bind fun q => .ok (.sh q.1, ownSet ρ x q.2)
theorem ej_mut0 {x : Nat} {ex : Expr} {r : V → List V → Hp → VK → Prop} {m : List D → Rs (D × List D)} {apos cpos : Pos} {name : Str} {id : String}
    (slot : Slot "list" name id) (hty : typeOf (.builtin id) = pure (.type "method_descriptor")) (hm : MtR X id r) (hM : MutOk0 X cl r m) (hne : ∀ xs, noExc (m xs)) (hx : PE X ex (tVar x))
    (hbase : attributeBase ex name X.env (eval ex X.env) = eval ex X.env := by rfl) (hline : (apos.endLine == cpos.line) = true := by rfl) :
    EJ X cl vs0 Wx (.Call (.Attribute ex name apos) [] [] cpos) (xMut0 x m) := by
  refine ⟨⟨_, pe_bm0 PySem.F.plainAttrs_list slot hty hm hx hbase hline, fun O W σ H ρ E sr hw => ?_⟩⟩
  unfold xMut0 at hw
  cases eg : ownGet ρ x with
  | bad => rw [eg] at hw; exact hw.elim
  | exc c fs ρ' => exact absurd eg ownGet_noexc
  | ok xs =>
    rw [eg] at hw
    obtain ⟨a, ea, oW, us, h2, h3, h4⟩ := ownGet_at sr eg
    refine ⟨.ref a, ea, .inl ⟨rfl, _, SqL.of h2⟩, ?_⟩
    have hw : AftE (gx X cl) vs0 Wx O W σ H E ((m xs).bind fun q => .ok (.sh q.1, ownSet ρ x q.2)) := hw
    have hn := hne xs
    cases em : m xs with
    | bad => rw [em] at hw; exact hw.elim
    | exc c fs ρ' => rw [em] at hn; exact hn.elim
    | ok pr =>
      obtain ⟨dr, ys⟩ := pr
      rw [em] at hw
      obtain ⟨rv, vs, hl, hr, hrv, hq⟩ := hM O H a xs us dr ys h2 h3 h4 em
      obtain ⟨st4, sr4⟩ := sr.write (vs := vs) eg ea hl hr
      exact hq _ (hw rv O W _ st4 sr4 (hrv.step sr.wf st4))
/-! ### extend -/
def mExt (xs : List D) : D → Rs (D × List D)
  | .lst zs => if xs.length + zs.length ≤ sizeLine then .ok (.non, xs ++ zs) else .bad
  | _ => .bad
theorem mut_ext : MutOk X cl rExtend mExt := by
  intro O H a xs us d v dr ys h2 h3 h4 rp em
  cases d with
  | lst zs =>
    unfold mExt at em
    dsimp only at em
    split at em
    · rename_i hz
      cases em
      simp only [Rp] at rp
      obtain ⟨b, ws, rfl, lo, ra⟩ := rp
      have e1 := h4.length
      have e2 := ra.length
      have hz' : us.length + ws.length ≤ sizeLine := by omega
      exact ⟨.non, us ++ ws, by rw [List.length_append]; exact hz', h4.append ra, by simp only [Rp], fun Q hQ => ⟨a, b, us, ws, rfl, rfl, h2, lo.2.1, hz', hQ⟩⟩
    · cases em
  | _ => cases em
theorem ne_ext (xs : List D) (d : D) : noExc (mExt xs d) := by
  cases d <;> first | trivial | skip
  unfold mExt
  dsimp only
  split <;> trivial
/-! ### pop -/
theorem RpA.erase {G : Gx} {O : List Addr} {H : Hp} : ∀ {ds : List D} {vs : List V} (j : Nat), RpA G O H ds vs → RpA G O H (ds.eraseIdx j) (vs.eraseIdx j)
  | [], vs, j, h => by simp only [RpA] at h; subst h; simp [RpA]
  | d :: ds, vs, 0, h => by
    simp only [RpA] at h
    obtain ⟨v, r, rfl, h1, h2⟩ := h
    simpa using h2
  | d :: ds, vs, j + 1, h => by
    simp only [RpA] at h
    obtain ⟨v, r, rfl, h1, h2⟩ := h
    simp only [List.eraseIdx_cons_succ, RpA]
    exact ⟨v, _, rfl, h1, h2.erase j⟩
def popK (xs : List D) : Option Nat → Rs (D × List D)
  | some k => match xs[k]? with
    | some d => .ok (d, xs.eraseIdx k)
    | none => .bad
  | none => .bad
def mPopAt (xs : List D) : D → Rs (D × List D)
  | .int i => popK xs (ixN xs.length i)
  | _ => .bad
theorem mut_popAt : MutOk X cl rPopAt mPopAt := by
  intro O H a xs us d v dr ys h2 h3 h4 rp em
  cases d with
  | int i =>
    simp only [Rp] at rp
    subst rp
    have em : popK xs (ixN xs.length i) = .ok (dr, ys) := em
    cases ek : ixN xs.length i with
    | none => rw [ek] at em; cases em
    | some k =>
      rw [ek] at em
      unfold popK at em
      dsimp only at em
      obtain ⟨s1, s2, s3, s4⟩ := ixN_seq ek
      cases ex : xs[k]? with
      | none => rw [ex] at em; cases em
      | some d =>
        rw [ex] at em
        cases em
        obtain ⟨v, ev, rv⟩ := h4.getD ex
        have e1 := h4.length
        have hz := sizeLine_eq
        refine ⟨v, us.eraseIdx k, ?_, h4.erase k, rv, fun Q hQ => ⟨a, us, i, k, v, rfl, rfl, h2, ?_, ?_, by rw [← e1]; exact s1, ev, hQ⟩⟩
        · exact Nat.le_trans (len_erase us k) h3
        · omega
        · omega
  | _ => cases em
theorem ne_popAt (xs : List D) (d : D) : noExc (mPopAt xs d) := by
  cases d <;> first | trivial | skip
  unfold mPopAt
  dsimp only
  cases ixN xs.length _ with
  | none => trivial
  | some k =>
    unfold popK
    dsimp only
    cases xs[k]? <;> trivial
def mPop (xs : List D) : Rs (D × List D) := match xs[xs.length - 1]? with
  | some d => .ok (d, xs.dropLast)
  | none => .bad
theorem RpA.dropLast {G : Gx} {O : List Addr} {H : Hp} : ∀ {ds : List D} {vs : List V}, RpA G O H ds vs → RpA G O H ds.dropLast vs.dropLast
  | [], vs, h => by simp only [RpA] at h; subst h; simp [RpA]
  | [d], vs, h => by
    simp only [RpA] at h
    obtain ⟨v, r, rfl, h1, rfl⟩ := h
    simp [RpA]
  | d :: e :: ds, vs, h => by
    simp only [RpA] at h
    obtain ⟨v, r, rfl, h1, w, r2, rfl, h2, h3⟩ := h
    have : RpA G O H (e :: ds) (w :: r2) := by
      simp only [RpA]
      exact ⟨w, r2, rfl, h2, h3⟩
    have := this.dropLast
    have e1 : (d :: e :: ds).dropLast = d :: (e :: ds).dropLast := rfl
    have e2 : (v :: w :: r2).dropLast = v :: (w :: r2).dropLast := rfl
    rw [e1, e2, RpA]
    exact ⟨v, _, rfl, h1, this⟩
theorem mut_pop : MutOk0 X cl rPop mPop := by
  intro O H a xs us dr ys h2 h3 h4 em
  unfold mPop at em
  cases ex : xs[xs.length - 1]? with
  | none => rw [ex] at em; cases em
  | some d =>
    rw [ex] at em
    cases em
    obtain ⟨v, ev, rv⟩ := h4.getD ex
    exact ⟨v, us.dropLast, by rw [List.length_dropLast]; omega, h4.dropLast, rv, fun Q hQ => ⟨a, us, v, rfl, rfl, h2, by rw [← h4.length]; exact ev, hQ⟩⟩
theorem ne_pop (xs : List D) : noExc (mPop xs) := by
  unfold mPop
  cases xs[xs.length - 1]? <;> trivial
/-! ### remove, by equality of data -/
def rRemD (K : PySem.W.Frag) : V → List V → Hp → VK → Prop := fun x xs H Q => ∃ (l : Addr) (us : List V) (y : V) (d : PyData) (ds : List PyData) (j : Nat) (z : PyData), x = .ref l ∧ xs = [y] ∧ H l = some (.lst us) ∧ DpAll K H us ds ∧ Dp K H y d ∧
  SeqAt.shaped (.list ds) = true ∧ SeqAt.shaped d = true ∧ ds[j]? = some z ∧ PyData.eqv z d = true ∧ (∀ (m : Nat) (z' : PyData), m < j → ds[m]? = some z' → PyData.eqv z' d = false) ∧ Q .non (upd H l (.lst (us.eraseIdx j)))
theorem mt_removeD (hu : X.A.units + 65 < cLine) : MtR X "list.remove" (rRemD X.K) := by
  intro pins s σ H x xs v us Q I rx rxs h
  obtain ⟨l, ws, y, d, ds, j, z, rfl, rfl, hH, ha, hy, sl, sd, hz, hzj, hno, q⟩ := h
  cases rx
  obtain ⟨uy, rfl, ry⟩ := rxs.one
  obtain ⟨bs, r1⟩ := Dp.reads I d y uy hy ry
  have hxs : PyData.canLayAll0 ds = true := SeqAt.canLay_of_shaped sl
  have hroom : X.A.units + 1 + min (PyData.depthAll ds) d.depth < cLine := room_in_shaped sd hu
  obtain ⟨zz, its, n, r, hl, e⟩ := I.lstM hH
  obtain ⟨as, h4⟩ := Dp.readsAll I ds _ its ha r
  have hn : its.length = ds.length := SeqAt.ReadsAll.length ds its as h4
  have hmap : its.map (SeqAt.readOf s.heap) = ds := SeqAt.readsAll_map ds its as hxs h4
  have hsl := sizeLine_eq
  obtain ⟨hjd, _⟩ := List.getElem?_eq_some_iff.mp hz
  have hjl : j < its.length := by omega
  have hj : j < its.toArray.size := by simpa using hjl
  have at_ : ∀ (m : Nat) (hm : m < its.toArray.size) (z' : PyData), ds[m]? = some z' → SeqAt.readOf s.heap its.toArray[m] = z' := by
    intro m hm z' hz'
    have hml : m < its.length := by simpa using hm
    rw [← hmap, List.getElem?_map, List.getElem?_eq_getElem hml] at hz'
    have e1 : SeqAt.readOf s.heap its[m] = z' := Option.some.inj (show some (SeqAt.readOf s.heap its[m]) = some z' from hz')
    simpa using e1
  refine call_meets PySem.F.slot_list_remove ⟨_, e, rfl⟩ PySem.F.entry_list_remove (PySem.F.args_list_remove_2 _ _)
    (SeqAt.list_removeAt l its.toArray n none #[] uy (fun u => PyData.eqv (SeqAt.readOf s.heap u) d) j hj ?_ ?_ (by rw [List.size_toArray]; omega)) ⟨e, SeqAt.items_eqAt (vs := its.toArray) (show ReadsAll s.heap its.toArray.toList ds as from h4) r1 hxs (SeqAt.canLay_of_shaped sd) hroom, ?_⟩
  · show PyData.eqv (SeqAt.readOf s.heap its.toArray[j]) d = true
    rw [at_ j hj z hz]
    exact hzj
  · intro m hm hmj
    have hmd : m < ds.length := by omega
    have hz' : ds[m]? = some ds[m] := List.getElem?_eq_getElem hmd
    show PyData.eqv (SeqAt.readOf s.heap its.toArray[m]) d = false
    rw [at_ m hm _ hz']
    exact hno m _ hmj hz'
  · refine ⟨.non, _, I.lset (its' := its.eraseIdx j) hH e ?_ (r.eraseIdx j) ?_, rfl, q⟩
    · show its.toArray.eraseIdxIfInBounds j = (its.eraseIdx j).toArray
      rw [List.eraseIdxIfInBounds_toArray]
    · have := len_erase ws j
      omega
def remK (xs : List D) : Option Nat → Rs (D × List D)
  | some j => .ok (.non, xs.eraseIdx j)
  | none => .bad
noncomputable def mRem (xs : List D) (d : D) : Rs (D × List D) := if okN 60 d = true ∧ okN 60 (.lst xs) = true then remK xs (xs.findIdx? fun y => eqD y d) else .bad
theorem pys_get : ∀ {ds : List D} {j : Nat}, (pys ds)[j]? = ds[j]?.map D.py
  | [], j => by simp [pys]
  | d :: ds, 0 => by simp [pys]
  | d :: ds, j + 1 => by simp [pys, pys_get (ds := ds) (j := j)]
theorem okNs_at {n : Nat} : ∀ {ds : List D}, okNs n ds = true → ∀ {d}, d ∈ ds → okN n d = true
  | [], _, d, hd => by cases hd
  | e :: ds, h, d, hd => by
    simp only [okNs, Bool.and_eq_true] at h
    rcases List.mem_cons.mp hd with rfl | hd
    · exact h.1
    · exact okNs_at h.2 hd
theorem mut_rem : MutOk X cl (rRemD X.K) mRem := by
  intro O H a xs us d v dr ys h2 h3 h4 rp em
  unfold mRem at em
  split at em
  · rename_i hk
    cases ej : xs.findIdx? fun y => eqD y d with
    | none => rw [ej] at em; cases em
    | some j =>
      rw [ej] at em
      cases em
      have hy : okNs 59 xs = true := by have := hk.2; simpa only [okN] using this
      obtain ⟨hj, h5, h6⟩ := List.findIdx?_eq_some_iff_getElem.mp ej
      have ha : DpAll X.K H us (pys xs) := RpA.dp hy h4
      refine ⟨.non, us.eraseIdx j, Nat.le_trans (len_erase us j) h3, h4.erase j, by simp only [Rp], fun Q hQ => ⟨a, us, v, d.py, pys xs, j, xs[j].py, rfl, rfl, h2, ha, Rp.dp hk.1 rp, okD_shaped hk.2, okD_shaped hk.1, ?_, ?_, ?_, hQ⟩⟩
      · rw [pys_get, List.getElem?_eq_getElem hj]
        rfl
      · rw [eqD_py (okNs_at hy (List.getElem_mem hj)) hk.1]
        exact h5
      · intro m z' hm hz'
        have hm' : m < xs.length := by omega
        rw [pys_get, List.getElem?_eq_getElem hm'] at hz'
        cases hz'
        rw [eqD_py (okNs_at hy (List.getElem_mem hm')) hk.1]
        have := h6 m hm
        simpa using this
  · cases em
theorem ne_rem (xs : List D) (d : D) : noExc (mRem xs d) := by
  unfold mRem
  split
  · cases xs.findIdx? fun y => eqD y d <;> trivial
  · trivial
end
end Wm
end

section
/-! list(range(..)), tuple(range(..)), xs[::-1], is of truths. -/
namespace Wm
open PySem PySem.Spec PyProof.Rows L2
section
variable {X : Cx} {cl : Cl} {vs0 : List V} {Wx : WX} {a b c e : Expr} {pos p2 : Pos} {fl : List LOp}
def rgI (a b : Int) : List Int := (List.range (b - a).toNat).map fun i => a + (i : Nat)
theorem rgV_rgI (a b : Int) : rgV a b = (rgI a b).map V.int := by
  unfold rgV rgI
  rw [List.map_map]
  rfl
noncomputable instance (a b : Int) : Decidable (RgOk a b) := Classical.propDecidable _
noncomputable def rgLst (a b : Int) : Rs SD := if RgOk a b then .ok (.own ((rgI a b).map D.int)) else .bad
noncomputable def rgTup (a b : Int) : Rs SD := if RgOk a b then .ok (.sh (.tup ((rgI a b).map D.int))) else .bad
theorem rgV_sz {a b : Int} (h : RgOk a b) : (rgV a b).length ≤ sizeLine := by
  obtain ⟨_, _, _, _, h5⟩ := h
  rw [rgV_length, sizeLine_eq]
  omega
theorem rgLst_ok {O W : List Addr} {H : Hp} {Q : VK} {i j : Int} (w : Wf O W H) (hp : AftP (gx X cl) O H Q (rgLst i j)) : RgOk i j ∧ ∀ q, H q = none → Q (.ref q) (upd H q (.lst (rgV i j))) := by
  unfold rgLst at hp
  split at hp
  · rename_i h
    refine ⟨h, fun q n => hp q _ _ (same_upd n) n upd_same (rgV_sz h) ?_⟩
    rw [rgV_rgI]
    exact RpA.ofInts
  · exact hp.elim
theorem rgTup_ok {O W : List Addr} {H : Hp} {Q : VK} {i j : Int} (w : Wf O W H) (hp : AftP (gx X cl) O H Q (rgTup i j)) : RgOk i j ∧ ∀ q, H q = none → Q (.ref q) (upd H q (.tup (rgV i j))) := by
  unfold rgTup at hp
  split at hp
  · rename_i h
    refine ⟨h, fun q n => hp _ _ (same_upd n) ?_⟩
    refine rp_tup w n (rgV_sz h) ?_
    rw [rgV_rgI]
    exact RpA.ofInts
  · exact hp.elim
noncomputable def pLrg1 : List D → Rs SD
  | [.int j] => rgLst 0 j
  | _ => .bad
noncomputable def pTrg1 : List D → Rs SD
  | [.int j] => rgTup 0 j
  | _ => .bad
noncomputable def pLrg2 : List D → Rs SD
  | [.int i, .int j] => rgLst i j
  | _ => .bad
noncomputable def pTrg2 : List D → Rs SD
  | [.int i, .int j] => rgTup i j
  | _ => .bad
theorem ej_lrg1 {p q pq : Pos} (hc : X.calm = true) (hgl : Gl X "list") (hml : X.mg "list" = none) (hg : Gl X "range") (hm : X.mg "range" = none) (h : OJ X cl vs0 Wx [a] fl) (na : starEach [a] X.env = (false, eval a X.env) :: starEach [] X.env := by rfl)
    (nb : starEach [(.Call (.Name "range" p) [a] [] pq : Expr)] X.env = (false, eval (.Call (.Name "range" p) [a] [] pq) X.env) :: starEach [] X.env := by rfl) :
    EJ X cl vs0 Wx (.Call (.Name "list" q) [.Call (.Name "range" p) [a] [] pq] [] pos) (xPrim fl pLrg1) := by
  obtain ⟨ta, ha, q⟩ := one_of h
  refine ⟨⟨_, pe_listRg hc hgl hml (prg_1 hg hm ha na) nb, prim_core (rd := rd1 fun x H Q => ∃ n, x = .int n ∧ RgOk 0 n ∧ ∀ q, H q = none → Q (.ref q) (upd H q (.lst (rgV 0 n)))) (fun O W H ds vs Q w ho hp => ?_) q⟩⟩
  unfold pLrg1 at hp
  split at hp
  · obtain ⟨x, rfl, h1⟩ := ho.one
    exact ⟨_, h1.int, rgLst_ok w hp⟩
  · exact hp.elim
theorem ej_trg1 {p q pq : Pos} (hc : X.calm = true) (hgl : Gl X "tuple") (hml : X.mg "tuple" = none) (hg : Gl X "range") (hm : X.mg "range" = none) (h : OJ X cl vs0 Wx [a] fl) (na : starEach [a] X.env = (false, eval a X.env) :: starEach [] X.env := by rfl)
    (nb : starEach [(.Call (.Name "range" p) [a] [] pq : Expr)] X.env = (false, eval (.Call (.Name "range" p) [a] [] pq) X.env) :: starEach [] X.env := by rfl) :
    EJ X cl vs0 Wx (.Call (.Name "tuple" q) [.Call (.Name "range" p) [a] [] pq] [] pos) (xPrim fl pTrg1) := by
  obtain ⟨ta, ha, q⟩ := one_of h
  refine ⟨⟨_, pe_tupRg hc hgl hml (prg_1 hg hm ha na) nb, prim_core (rd := rd1 fun x H Q => ∃ n, x = .int n ∧ RgOk 0 n ∧ ∀ q, H q = none → Q (.ref q) (upd H q (.tup (rgV 0 n)))) (fun O W H ds vs Q w ho hp => ?_) q⟩⟩
  unfold pTrg1 at hp
  split at hp
  · obtain ⟨x, rfl, h1⟩ := ho.one
    exact ⟨_, h1.int, rgTup_ok w hp⟩
  · exact hp.elim
theorem ej_lrg2 {p q pq : Pos} (hc : X.calm = true) (hgl : Gl X "list") (hml : X.mg "list" = none) (hg : Gl X "range") (hm : X.mg "range" = none) (h : OJ X cl vs0 Wx [a, b] fl) (na : starEach [a, b] X.env = (false, eval a X.env) :: starEach [b] X.env := by rfl)
    (nb : starEach [b] X.env = (false, eval b X.env) :: starEach [] X.env := by rfl) (hpl : (backTo pq (starEach [b] X.env)).any (·.1) = false := by rfl)
    (nc : starEach [(.Call (.Name "range" p) [a, b] [] pq : Expr)] X.env = (false, eval (.Call (.Name "range" p) [a, b] [] pq) X.env) :: starEach [] X.env := by rfl) :
    EJ X cl vs0 Wx (.Call (.Name "list" q) [.Call (.Name "range" p) [a, b] [] pq] [] pos) (xPrim fl pLrg2) := by
  obtain ⟨ta, tb, ha, hb, q⟩ := two_of h
  refine ⟨⟨_, pe_listRg hc hgl hml (prg_2 hg hm ha hb na nb hpl) nc, prim_core (rd := rd2 fun x y H Q => ∃ i j, x = .int i ∧ y = .int j ∧ RgOk i j ∧ ∀ q, H q = none → Q (.ref q) (upd H q (.lst (rgV i j)))) (fun O W H ds vs Q w ho hp => ?_) q⟩⟩
  unfold pLrg2 at hp
  split at hp
  · obtain ⟨x, y, rfl, h1, h2⟩ := ho.two
    exact ⟨_, _, h1.int, h2.int, rgLst_ok w hp⟩
  · exact hp.elim
theorem ej_trg2 {p q pq : Pos} (hc : X.calm = true) (hgl : Gl X "tuple") (hml : X.mg "tuple" = none) (hg : Gl X "range") (hm : X.mg "range" = none) (h : OJ X cl vs0 Wx [a, b] fl) (na : starEach [a, b] X.env = (false, eval a X.env) :: starEach [b] X.env := by rfl)
    (nb : starEach [b] X.env = (false, eval b X.env) :: starEach [] X.env := by rfl) (hpl : (backTo pq (starEach [b] X.env)).any (·.1) = false := by rfl)
    (nc : starEach [(.Call (.Name "range" p) [a, b] [] pq : Expr)] X.env = (false, eval (.Call (.Name "range" p) [a, b] [] pq) X.env) :: starEach [] X.env := by rfl) :
    EJ X cl vs0 Wx (.Call (.Name "tuple" q) [.Call (.Name "range" p) [a, b] [] pq] [] pos) (xPrim fl pTrg2) := by
  obtain ⟨ta, tb, ha, hb, q⟩ := two_of h
  refine ⟨⟨_, pe_tupRg hc hgl hml (prg_2 hg hm ha hb na nb hpl) nc, prim_core (rd := rd2 fun x y H Q => ∃ i j, x = .int i ∧ y = .int j ∧ RgOk i j ∧ ∀ q, H q = none → Q (.ref q) (upd H q (.tup (rgV i j)))) (fun O W H ds vs Q w ho hp => ?_) q⟩⟩
  unfold pTrg2 at hp
  split at hp
  · obtain ⟨x, y, rfl, h1, h2⟩ := ho.two
    exact ⟨_, _, h1.int, h2.int, rgTup_ok w hp⟩
  · exact hp.elim
/-! ### xs[::-1] -/
theorem RpA.rev {G : Gx} {O : List Addr} {H : Hp} : ∀ {ds : List D} {vs : List V}, RpA G O H ds vs → RpA G O H ds.reverse vs.reverse
  | [], vs, h => by simp only [RpA] at h; subst h; simp [RpA]
  | d :: ds, vs, h => by
    simp only [RpA] at h
    obtain ⟨v, r, rfl, h1, h2⟩ := h
    rw [List.reverse_cons, List.reverse_cons]
    exact h2.rev.snoc h1
def pRev : List D → Rs SD
  | [.lst xs] => .ok (.own xs.reverse)
  | _ => .bad
theorem ej_rev {k : Nat} {p1 p2 p3 : Pos} (h : OJ X cl vs0 Wx [a] fl) : EJ X cl vs0 Wx (.Subscript a (.Slice none none (some (.UnaryOp .USub (.Constant (.int 1) k p1) p2)) p3) pos) (xPrim fl pRev) := by
  obtain ⟨ta, ha, q⟩ := one_of h
  refine ⟨⟨_, pe_revL ha, prim_core (rd := rd1 fun x H Q => ∃ a xs, x = .ref a ∧ SqL X.K H a xs ∧ ∀ p, H p = none → Q (.ref p) (upd H p (.lst xs.reverse))) (fun O W H ds vs Q w ho hp => ?_) q⟩⟩
  unfold pRev at hp
  split at hp
  · obtain ⟨x, rfl, h1⟩ := ho.one
    obtain ⟨a, vs, rfl, h2, h3, h4⟩ := h1.lst
    exact ⟨a, vs, rfl, SqL.of h2, fun p n => hp p _ _ (same_upd n) n upd_same (by rw [List.length_reverse]; exact h3) h4.rev⟩
  · exact hp.elim
/-! ### is, is not: truths -/
def pIsBl (neg : Bool) : List D → Rs SD
  | [.bl x, .bl y] => .ok (.sh (.bl (neg ^^ decide (x = y))))
  | _ => .bad
theorem ej_isBl (h : OJ X cl vs0 Wx [a, b] fl) (hm : behindInMarks .Is b = false := by rfl) : EJ X cl vs0 Wx (.Compare a [.Is] [b] pos) (xPrim fl (pIsBl false)) := ej_cmp op_isBl (fun O W H ds vs Q w ho hp => by
  unfold pIsBl at hp
  split at hp
  · obtain ⟨x, y, rfl, h1, h2⟩ := ho.two
    exact ⟨_, _, h1.bl, h2.bl, hp _ H (Same.refl H) (by simp only [Rp, Bool.false_xor])⟩
  · exact hp.elim) h hm
theorem ej_notBl (h : OJ X cl vs0 Wx [a, b] fl) (hm : behindInMarks .IsNot b = false := by rfl) : EJ X cl vs0 Wx (.Compare a [.IsNot] [b] pos) (xPrim fl (pIsBl true)) := ej_cmp op_notBl (fun O W H ds vs Q w ho hp => by
  unfold pIsBl at hp
  split at hp
  · obtain ⟨x, y, rfl, h1, h2⟩ := ho.two
    exact ⟨_, _, h1.bl, h2.bl, hp _ H (Same.refl H) (by simp only [Rp, Bool.true_xor])⟩
  · exact hp.elim) h hm
end
end Wm
end

section
/-! An own class's own ==, isinstance of instances of own classes. -/
namespace Wm
open PySem PySem.Spec PyProof.Rows L2
section
variable {X : Cx} {cl : Cl} {vs0 : List V} {Wx : WX} {a b c e : Expr} {pos p2 : Pos} {fl : List LOp}
/-! ### isinstance(x, C) -/
structure IsC (K : PySem.W.Frag) (C : Addr) : Prop where
  cc : L2.Cls K C
  ha : PySem.W.findIn K (.ref C) "__class__" = some (some (.builtin "object.__class__"))
  hn : PySem.W.specialIn K (.builtin "object.__class__") "__get__" = some (some (.builtin "getset_descriptor.__get__"))
  htk : PySem.W.takesIn K (.builtin "object.__class__") = some true
  hm : PySem.W.mroIn K C (.type "object") = some true
  kt : PySem.W.kitOne K (.type "tuple") (.ref C) = some false
def pIsO (c : Str) : List D → Rs SD
  | [.ins c' _] => if c' = c then .ok (.sh (.bl true)) else .bad
  | [.tup _] => .ok (.sh (.bl false))
  | _ => .bad
theorem kit_self {K : PySem.W.Frag} {t : Value} : PySem.W.kitOne K t t = some true := by
  unfold PySem.W.kitOne
  rw [if_pos (beq_self_eq_true t)]
theorem ej_isO {c : Str} {C : Str} {p : Pos} (ic : IsC X.K (cl.at' c)) (hm : X.mg "isinstance" = none) (hg : Gl X "isinstance") (h : OJ X cl vs0 Wx [a] fl) (hc : PE X b (tC (.ref (cl.at' c))))
    (hs2 : starEach [b] X.env = (false, eval b X.env) :: starEach [] X.env := by rfl) (hs1 : starEach [a, b] X.env = (false, eval a X.env) :: starEach [b] X.env := by rfl) (hpl : (backTo pos (starEach [b] X.env)).any (·.1) = false := by rfl) :
    EJ X cl vs0 Wx (.Call (.Name "isinstance" p) [a, b] [] pos) (xPrim fl (pIsO c)) := by
  obtain ⟨ta, ha, q⟩ := one_of h
  refine ⟨⟨_, pe_callB call_isi hg hm (by decide +kernel) (pa_cons ha (pa_cons hc pa_nil hs2) hs1) (by decide) (by decide) hs1 hpl, prim_core (ts := [ta]) (rd := fun vs H Q => rIsi X.K (vs ++ [.ref (cl.at' c)]) H Q) (fun O W H ds vs Q w ho hp => ?_) q⟩⟩
  unfold pIsO at hp
  split at hp
  · rename_i c' fs
    split at hp
    · rename_i e
      subst e
      obtain ⟨x, rfl, h1⟩ := ho.one
      rcases h1 with h1 | ⟨_, _, z, _⟩
      · simp only [Rp] at h1
        obtain ⟨a, dx, gs, rfl, h2, _, _⟩ := h1
        exact ⟨_, _, .ref (cl.at' c'), .ref (cl.at' c'), true, rfl, .own _, .base (.ins h2 ic.cc ic.ha ic.hn ic.htk ic.hm), kit_self, hp _ H (Same.refl H) (by simp only [Rp])⟩
      · cases z
    · exact hp.elim
  · obtain ⟨x, rfl, h1⟩ := ho.one
    exact ⟨_, _, .type "tuple", .ref (cl.at' c), false, rfl, .own _, h1.ty rfl, ic.kt, hp _ H (Same.refl H) (by simp only [Rp])⟩
  · exact hp.elim
/-! ### == -/
/-- an own ==, asked of two instances of the class -/
def eqR : Rs (SD × List SD) → Rs (SD × List SD)
  | .ok (.sh (.bl b), ρ) => .ok (.sh (.bl b), ρ)
  | _ => .bad
def eqF (c : Str) (F : Fn) : Fn := fun as => match as with
  | [.sh (.ins c1 f1), .sh (.ins c2 f2)] => if c1 = c ∧ c2 = c then eqR (F [.sh (.ins c1 f1), .sh (.ins c2 f2)]) else .bad
  | _ => .bad
theorem aft_eqR {G : Gx} {vs : List V} {O W : List Addr} {σ : L2.St} {H : Hp} {Q : VK} {Wx : WX} : ∀ {r : Rs (SD × List SD)}, AftE G vs Wx O W σ H Q (eqR r) → AftE G vs Wx O W σ H (fun v H' => ∃ b, v = .bl b ∧ Q v H') r
  | .ok (.sh (.bl b), ρ), h => fun v O' W' H' st sr rr => by
    have e : v = .bl b := by simpa only [ResR, Rp] using rr
    exact ⟨b, e, h v O' W' H' st sr rr⟩
  | .ok (.sh .non, ρ), h => h.elim
  | .ok (.sh (.int _), ρ), h => h.elim
  | .ok (.sh (.str _), ρ), h => h.elim
  | .ok (.sh (.tup _), ρ), h => h.elim
  | .ok (.sh (.lst _), ρ), h => h.elim
  | .ok (.sh (.ins _ _), ρ), h => h.elim
  | .ok (.sh (.scr _), ρ), h => h.elim
  | .ok (.sh (.dct _), ρ), h => h.elim
  | .ok (.no, ρ), h => h.elim
  | .ok (.own _, ρ), h => h.elim
  | .ok (.byr _, ρ), h => h.elim
  | .ok (.xn _ _, ρ), h => h.elim
  | .ok (.gv, ρ), h => h.elim
  | .exc _ _ _, h => h.elim
  | .bad, h => h.elim
theorem ej_eqO {k : Nat} {f : Addr} {fd : FuncData} {ps : List Str} {c : Str} {F : Fn} (hm : Meth X.K (cl.at' c) "__eq__" f) (hF : FnOk X.prog X.w X.K X.mg X.base (L2.CX X.prog X.w) k f fd ps (spF (gx X cl) 2 F)) (hr : Room k X.A) (hb : Binds X.K fd ps []) (tk : Takes X Wx) (h : KJ X cl vs0 Wx [a, b] fl) (hn : fl.length = 2) (hmk : behindInMarks .Eq b = false := by rfl) :
    EJ X cl vs0 Wx (.Compare a [.Eq] [b] pos) (xCall (eqF c F) fl) := by
  obtain ⟨ts, pes, pa, q⟩ := h.ex
  cases pes with
  | cons p1 pes =>
    cases pes with
    | cons p2 pes =>
      cases pes
      rename_i ta tb
      refine ⟨⟨fun σ H Q => ta σ H fun x H1 => tb σ H1 fun y H2 => spF (gx X cl) 2 (eqF c F) [x, y] H2 Q fun cc d H' => Wx cc d σ H', ⟨fun pins s σ H Q I h => ?_⟩, fun O W σ H ρ Q sr hw => ?_⟩⟩
      · refine wpAny_Compare1 (binT p1 p2 I h fun v u s2 x y H2 I2 rx ry q => ?_) hmk
        obtain ⟨_, O, W, as, sr, af⟩ := q
        unfold eqF at af
        split at af
        · rename_i c1 f1 c2 f2
          split at af
          · rename_i hc
            obtain ⟨rfl, rfl⟩ := hc
            have sl0 := sr.slot 0 _ rfl
            have sl1 := sr.slot 1 _ rfl
            obtain ⟨v0, e0, r0⟩ := sl0
            obtain ⟨v1, e1, r1⟩ := sl1
            have e0 : x = v0 := by simpa using e0
            have e1 : y = v1 := by simpa using e1
            subst e0 e1
            simp only [Rp] at r0 r1
            obtain ⟨aa, dx, fs, rfl, ha, _, _⟩ := r0
            obtain ⟨bb, dy, gs, rfl, hb', _, _⟩ := r1
            have rx' : v = Value.ref aa := rx
            have ry' : u = Value.ref bb := ry
            subst rx' ry'
            obtain ⟨mA, J, _⟩ := ins_get I2.hok ha
            obtain ⟨mB, J', _⟩ := ins_get I2.hok hb'
            obtain ⟨od, J, _⟩ := J.look
            obtain ⟨od', J', _⟩ := J'.look
            obtain ⟨m, hFr⟩ := I2.fr
            show wpAny (model X.prog X.w) X.A (richCompare .Eq (.ref aa) (.ref bb)) (EP X pins σ Q) X.xe s2
            refine PySem.W.cmp_K (op := .Eq) (tb := .ref (cl.at' c2)) hr.units0 hFr I2.ok.mod.kin J J'.type (by simp [PySem.W.notFirst]) hm.at_ hm.fn ?_
            have r2 : Vals [V.ref aa, V.ref bb] [Value.ref aa, Value.ref bb] := .cons rfl (.cons rfl .nil)
            refine wpAny_mono (run_fnS (E := fun σ cc d H' => Wx cc d σ H') hF hr hb (passAt tk σ) I2 r2 ⟨rfl, O, W, _, sr, aft_eqR af⟩) (fun w s3 z => ?_) fun _ _ x => x
            obtain ⟨z1, H3, I3, rz, bv, ez, qz⟩ := z
            subst ez
            have rz' : w = Value.bool bv := rz
            subst rz'
            exact ⟨.bl bv, H3, I3, rfl, qz⟩
          · exact af.elim
        · exact af.elim
      · have z := call_core (F := eqF c F) hn q O W σ H ρ Q (fun vs H1 => spF (gx X cl) 2 (eqF c F) vs H1 Q fun cc d H' => Wx cc d σ H') sr hw fun _ _ h => h
        exact z
end
/-! ### f(k = v, ..) -/
section
variable {X : Cx} {cl : Cl} {vs0 : List V} {Wx : WX} {k n : Nat} {f : Addr} {fd : FuncData} {ps ks : List Str} {x : Str} {p pos : Pos} {kws : List Keyword} {fl : List LOp} {F : Fn} {sel : List SelI} {inv : List Nat} {m : Nat}
theorem pe_callM0 {sp : Sp} {CX : CXT} {g : List Value → List Value → List Value} {gV : List V → List V → List V} {E : L2.St → XK} {tk : TA} (F : FnOk X.prog X.w X.K X.mg X.base CX k f fd ps sp) (hr : Room k X.A) (hg : Gl X x) (hm : X.mg x = some (.ref f)) (hk : PySem.W.keepIn X.K (.ref f) = true) (hb : KBn X.K fd ps 0 ks g gV) (hx : ∀ σ, PassesAt CX X σ (E σ))
    (hkw : PK X kws tk) (hall : (backToKw pos (keywordEach kws X.env)).all (·.1.isSome) = true) (hks : (backToKw pos (keywordEach kws X.env)).filterMap (·.1) = ks)
    (hdb : (x == ("__debug__" : Str)) = false) (hpl : ((backTo pos (starEach [] X.env)).any (·.1) || (backToKw pos (keywordEach kws X.env)).any (·.1.isNone)) = false) :
    PE X (.Call (.Name x p) [] kws pos) (fun σ H Q => tk σ H fun zs H2 => zs.length = ks.length ∧ sp (gV [] zs) H2 Q (E σ)) := by
  refine ⟨fun pins s σ H Q I h => wpAny_Call_Name_kw (ld_glob I hg hm ?_ hdb)⟩
  refine PySem.W.callWith_KW0 (first := []) (h₀ := X.base) I.ok.mod.kin hk hall (thn (hkw.run pos pins s σ H _ I h) fun ws s2 q2 => ?_) hpl
  obtain ⟨zs, H2, I2, rz, l2, q2⟩ := q2
  refine ⟨I2.kIn, ?_⟩
  rw [hks]
  exact run_fnM F hr hb (hx σ) I2 .nil rz rfl l2 q2
theorem ej_callK0 (hF : FnOk X.prog X.w X.K X.mg X.base (L2.CX X.prog X.w) k f fd ps (spF (gx X cl) sel.length F)) (hr : Room k X.A) (hg : Gl X x) (hm : X.mg x = some (.ref f)) (hk : PySem.W.keepIn X.K (.ref f) = true) (hb : KBs X.K fd ps 0 ks sel) (tk : Takes X Wx)
    (h : KJ X cl vs0 Wx (kws.map (·.value)) fl) (ok : selB fl.length sel inv = true) (hall : (backToKw pos (keywordEach kws X.env)).all (·.1.isSome) = true := by rfl) (hks : (backToKw pos (keywordEach kws X.env)).filterMap (·.1) = ks := by rfl) (hkl : kws.length = ks.length := by rfl)
    (hdb : (x == ("__debug__" : Str)) = false := by decide) (hpl : ((backTo pos (starEach [] X.env)).any (·.1) || (backToKw pos (keywordEach kws X.env)).any (·.1.isNone)) = false := by rfl) :
    EJ X cl vs0 Wx (.Call (.Name x p) [] kws pos) (xCall (permF sel inv F) fl) := by
  obtain ⟨ts, pe, _, q⟩ := h.ex
  obtain ⟨g, kb⟩ := hb.ex
  refine ⟨⟨_, pe_callM0 (E := fun σ c d H => Wx c d σ H) hF hr hg hm hk kb (fun σ => passAt tk σ) (pes_pk pe) hall hks hdb hpl, fun O W σ H ρ Q sr hw => ?_⟩⟩
  have z := call_core (F := permF sel inv F) rfl q O W σ H ρ Q (fun vs H1 => spF (gx X cl) sel.length F (sel.map (pickV vs)) H1 Q fun c d H' => Wx c d σ H') sr hw fun vs H1 h => spF_perm ok h
  have e2 : ts.length = ks.length := by rw [pes_len pe, List.length_map, hkl]
  rw [tAll_len] at z
  rw [e2] at z
  exact z
end
/-! ### evaluation -/
@[simp] theorem pIsO_ins (c : Str) (fs : List (Str × D)) : pIsO c [.ins c fs] = .ok (.sh (.bl true)) := by
  show (if c = c then _ else _) = _
  rw [if_pos rfl]
@[simp] theorem pIsO_tup (c : Str) (ds : List D) : pIsO c [.tup ds] = .ok (.sh (.bl false)) := (rfl)
@[simp] theorem eqF_ins (c : Str) (F : Fn) (f1 f2 : List (Str × D)) : eqF c F [.sh (.ins c f1), .sh (.ins c f2)] = eqR (F [.sh (.ins c f1), .sh (.ins c f2)]) := by
  show (if c = c ∧ c = c then _ else _) = _
  rw [if_pos ⟨rfl, rfl⟩]
@[simp] theorem eqR_bl (b : Bool) (ρ : List SD) : eqR (.ok (.sh (.bl b), ρ)) = .ok (.sh (.bl b), ρ) := (rfl)
@[simp] theorem xMut1_ap (x : Nat) (m : List D → D → Rs (D × List D)) (f : Sx) (ρ : List SD) : xMut1 x m f ρ = (ownGet ρ x).bind fun _ => (f ρ).bind fun p => (ownGet p.2 x).bind fun xs => (m xs p.1.frz).bind fun q => .ok (.sh q.1, ownSet p.2 x q.2) := (rfl)
@[simp] theorem xMut0_ap (x : Nat) (m : List D → Rs (D × List D)) (ρ : List SD) : xMut0 x m ρ = (ownGet ρ x).bind fun xs => (m xs).bind fun q => .ok (.sh q.1, ownSet ρ x q.2) := (rfl)
@[simp] theorem mExt_ap (xs zs : List D) : mExt xs (.lst zs) = if xs.length + zs.length ≤ sizeLine then .ok (.non, xs ++ zs) else .bad := (rfl)
theorem mPopAt_nat {xs : List D} {k : Nat} {d : D} (h : xs[k]? = some d) : mPopAt xs (.int k) = .ok (d, xs.eraseIdx k) := by
  have hl := (List.getElem?_eq_some_iff.mp h).1
  have e : ixN xs.length (k : Int) = some k := by
    unfold ixN
    rw [if_pos (by omega), if_pos (by omega)]
    simp
  show popK xs (ixN xs.length (k : Int)) = _
  rw [e]
  unfold popK
  dsimp only
  rw [h]
@[simp] theorem pLrg1_ap (j : Int) : pLrg1 [.int j] = rgLst 0 j := (rfl)
@[simp] theorem pTrg1_ap (j : Int) : pTrg1 [.int j] = rgTup 0 j := (rfl)
@[simp] theorem pLrg2_ap (i j : Int) : pLrg2 [.int i, .int j] = rgLst i j := (rfl)
@[simp] theorem pTrg2_ap (i j : Int) : pTrg2 [.int i, .int j] = rgTup i j := (rfl)
theorem rgI_0 (n : Nat) : rgI 0 n = (List.range n).map fun (k : Nat) => (k : Int) := by
  unfold rgI
  simp
theorem rgLst_nat {n : Nat} (h : n ≤ 100000) : rgLst 0 n = .ok (.own ((List.range n).map fun (k : Nat) => D.int k)) := by
  unfold rgLst
  rw [if_pos (RgOk.of_le (by omega) (by omega) (by omega) (by omega)), rgI_0, List.map_map]
  rfl
theorem rgTup_nat {n : Nat} (h : n ≤ 100000) : rgTup 0 n = .ok (.sh (.tup ((List.range n).map fun (k : Nat) => D.int k))) := by
  unfold rgTup
  rw [if_pos (RgOk.of_le (by omega) (by omega) (by omega) (by omega)), rgI_0, List.map_map]
  rfl
@[simp] theorem pRev_lst (xs : List D) : pRev [.lst xs] = .ok (.own xs.reverse) := (rfl)
@[simp] theorem pIsBl_ap (n x y : Bool) : pIsBl n [.bl x, .bl y] = .ok (.sh (.bl (n ^^ decide (x = y)))) := (rfl)
end Wm
end

section
/-! Evaluation: loops that go through, by a state. -/
namespace Wm
open PySem PySem.Spec PyProof.Rows L2
variable {α S : Type} {m : Itm} {st : Tg} {body : Ss} {g : α → D}
theorem for_thru (I : List SD → Prop) : ∀ {xs : List α}, (∀ x ∈ xs, ∀ ρ, I ρ → ∃ ρ', I ρ' ∧ ∀ k, forT body k (st (g x) ρ) = k ρ') → ∀ {ρ : List SD}, I ρ → ∃ ρ', I ρ' ∧ forL st body (xs.map g) ρ = .ok (.nx ρ')
  | [], _, ρ, hi => ⟨ρ, hi, rfl⟩
  | x :: xs, h, ρ, hi => by
    obtain ⟨ρ1, h1, e1⟩ := h x (by simp) ρ hi
    obtain ⟨ρ2, h2, e2⟩ := for_thru I (xs := xs) (fun y hy => h y (List.mem_cons_of_mem _ hy)) h1
    exact ⟨ρ2, h2, by rw [List.map_cons, forL_cons, e1, e2]⟩
theorem forK_thru (I : List SD → Prop) (hk : ∀ ρ, I ρ → m.keep ρ) : ∀ {xs : List α}, (∀ x ∈ xs, ∀ ρ, I ρ → ∃ ρ', I ρ' ∧ ∀ k, forT body k (st (g x) ρ) = k ρ') → ∀ {ρ : List SD}, I ρ → ∃ ρ', I ρ' ∧ forK m st body (xs.map g) ρ = .ok (.nx ρ')
  | [], _, ρ, hi => ⟨ρ, hi, by rw [List.map_nil, forK_nil, if_pos (hk ρ hi)]⟩
  | x :: xs, h, ρ, hi => by
    obtain ⟨ρ1, h1, e1⟩ := h x (by simp) ρ hi
    obtain ⟨ρ2, h2, e2⟩ := forK_thru I hk (xs := xs) (fun y hy => h y (List.mem_cons_of_mem _ hy)) h1
    exact ⟨ρ2, h2, by rw [List.map_cons, forK_cons, if_pos (hk ρ hi), e1, e2]⟩
/-- a state, and slots that are of no matter: I s ρ -/
theorem for_fold (I : S → List SD → Prop) (f : S → α → S) : ∀ {xs : List α}, (∀ x ∈ xs, ∀ s ρ, I s ρ → ∃ ρ', I (f s x) ρ' ∧ ∀ k, forT body k (st (g x) ρ) = k ρ') → ∀ {s : S} {ρ : List SD}, I s ρ → ∃ ρ', I (xs.foldl f s) ρ' ∧ forL st body (xs.map g) ρ = .ok (.nx ρ')
  | [], _, s, ρ, hi => ⟨ρ, hi, rfl⟩
  | x :: xs, h, s, ρ, hi => by
    obtain ⟨ρ1, h1, e1⟩ := h x (by simp) s ρ hi
    obtain ⟨ρ2, h2, e2⟩ := for_fold I f (xs := xs) (fun y hy => h y (List.mem_cons_of_mem _ hy)) h1
    exact ⟨ρ2, h2, by rw [List.map_cons, forL_cons, e1, e2]⟩
theorem forK_fold (I : S → List SD → Prop) (f : S → α → S) (hk : ∀ s ρ, I s ρ → m.keep ρ) : ∀ {xs : List α}, (∀ x ∈ xs, ∀ s ρ, I s ρ → ∃ ρ', I (f s x) ρ' ∧ ∀ k, forT body k (st (g x) ρ) = k ρ') → ∀ {s : S} {ρ : List SD}, I s ρ → ∃ ρ', I (xs.foldl f s) ρ' ∧ forK m st body (xs.map g) ρ = .ok (.nx ρ')
  | [], _, s, ρ, hi => ⟨ρ, hi, by rw [List.map_nil, forK_nil, if_pos (hk s ρ hi)]⟩
  | x :: xs, h, s, ρ, hi => by
    obtain ⟨ρ1, h1, e1⟩ := h x (by simp) s ρ hi
    obtain ⟨ρ2, h2, e2⟩ := forK_fold I f hk (xs := xs) (fun y hy => h y (List.mem_cons_of_mem _ hy)) h1
    exact ⟨ρ2, h2, by rw [List.map_cons, forK_cons, if_pos (hk s ρ hi), e1, e2]⟩
/-- with the number of things put behind a list -/
theorem foldl_app {β : Type} (f : α → β) : ∀ (xs : List α) (s : List β), xs.foldl (fun s x => s ++ [f x]) s = s ++ xs.map f
  | [], s => by simp
  | x :: xs, s => by
    rw [List.foldl_cons, foldl_app f xs, List.map_cons]
    simp
@[simp] theorem pAbs_ev (i : Int) : pAbs [.int i] = .ok (.sh (.int i.natAbs)) := by
  show Rs.ok (SD.sh (D.int (if i < 0 then -i else i))) = _
  congr 3
  split <;> omega
theorem pMul_lst (xs : List D) (k : Int) : pMul [.lst xs, .int k] = if -(2 ^ 63) ≤ k ∧ k < 2 ^ 63 ∧ xs.length * k.toNat ≤ sizeLine then .ok (.own (List.replicate k.toNat xs).flatten) else .bad := (rfl)
theorem pMul_lst1 (d : D) (m : Nat) (h : m ≤ 100000) : pMul [.lst [d], .int m] = .ok (.own (List.replicate m d)) := by
  have hz : sizeLine = 16777216 := by decide
  rw [pMul_lst, if_pos ⟨by omega, by omega, by rw [Int.toNat_natCast, List.length_singleton, hz]; omega⟩, Int.toNat_natCast, List.flatten_replicate_singleton]
theorem pMul_tup1 (d : D) (m : Nat) (h : m ≤ 1000) : pMul [.tup [d], .int m] = .ok (.sh (.tup (List.replicate m d))) := by
  rw [pMul_rep _ _ ⟨by omega, by omega⟩ (by simp), Int.toNat_natCast, List.flatten_replicate_singleton]
theorem for_rgx {n : Nat} {g : Nat → D} {ρ : List SD} (I : Nat → List SD → Prop) (h : ∀ i ρ, i < n → I i ρ → ∃ ρ', I (i + 1) ρ' ∧ ∀ k, forT body k (st (g i) ρ) = k ρ') (h0 : I 0 ρ) : ∃ ρ', I n ρ' ∧ forL st body ((List.range n).map g) ρ = .ok (.nx ρ') := by
  obtain ⟨ρ', h1, h2⟩ := for_rg (L := forL st body ((List.range n).map g) ρ) rfl I h0 h
  exact ⟨ρ', h1, h2⟩
theorem rg_snoc {β : Type} (f : Nat → β) (i : Nat) : (List.range (i + 1)).map f = (List.range i).map f ++ [f i] := by
  rw [List.range_succ, List.map_append]
  rfl
end Wm
end

section
/-! List comprehensions of two clauses. -/
namespace Wm
open PySem PySem.Spec PyProof.Rows L2
/-- what a second clause walks: by data that is carried along -/
structure WlkD (G : Gx) (J : It) (xs : List D) (dc : D) (vc : V) : Prop where
  len : xs.length ≤ sizeLine
  go : ∀ O H i d, Rp G O H dc vc → xs[i]? = some d → J.go i H ∧ ∀ x H3, J.yld i H x H3 → Same H H3 ∧ Rp G O H3 d x
  stop : ∀ O H, Rp G O H dc vc → J.stop xs.length H
def AftD (G : Gx) (vs0 : List V) (Wx : WX) (O W : List Addr) (σ : L2.St) (H : Hp) (R : It → Hp → Prop) : Rs (List D × List SD) → Prop
  | .ok (xs, ρ') => ∀ J dc vc O' W' H', Stp O W H O' W' H' → SR G vs0 O' W' σ H' ρ' → Rp G O' H' dc vc → WlkD G J xs dc vc → R J H'
  | .exc c fs ρ' => ExcA G vs0 Wx O W σ H c fs ρ'
  | .bad => False
structure DJ (X : Cx) (cl : Cl) (vs0 : List V) (Wx : WX) (tg iter : Expr) (s : So) : Prop where
  ex : ∃ wi, PI X tg iter wi ∧ ∀ O W σ H ρ R, SR (gx X cl) vs0 O W σ H ρ → AftD (gx X cl) vs0 Wx O W σ H R (s ρ) → wi σ H R
section
variable {X : Cx} {cl : Cl} {vs0 : List V} {Wx : WX}
def dSeq (f : Sx) : So := fun ρ => (f ρ).bind fun p => (itemsOf p.1.frz).bind fun xs => .ok (xs, p.2)
theorem dj_seq {tg e : Expr} {f : Sx} (h : EJ X cl vs0 Wx e f) : DJ X cl vs0 Wx tg e (dSeq f) := by
  obtain ⟨t, p, q⟩ := h.ex
  refine ⟨⟨_, pi_seq p, fun O W σ H ρ R sr hw => q O W σ H ρ _ sr ?_⟩⟩
  unfold dSeq at hw
  cases e : f ρ with
  | bad => rw [e] at hw; exact hw
  | exc c fs ρ' => rw [e] at hw; exact hw
  | ok m =>
    obtain ⟨r, ρ1⟩ := m
    rw [e] at hw
    have hw : AftD (gx X cl) vs0 Wx O W σ H R ((itemsOf r.frz).bind fun xs => .ok (xs, ρ1)) := hw
    intro v O1 W1 H1 st1 sr1 rr
    obtain ⟨O2, W2, st2, sr2, rp⟩ := rr.frz sr1
    cases e2 : itemsOf r.frz with
    | bad => rw [e2] at hw; exact hw.elim
    | exc c fs ρ' => exact absurd e2 itemsOf_noexc
    | ok xs =>
      rw [e2] at hw
      have key : ∃ a k, v = .ref a ∧ (∀ O H, Rp (gx X cl) O H r.frz v → ∃ vs, SqK X.K H a vs k ∧ RpA (gx X cl) O H xs vs) ∧ xs.length ≤ sizeLine := by
        cases hd : r.frz with
        | lst ds =>
          rw [hd] at e2 rp
          cases e2
          have rp' := rp
          simp only [Rp] at rp'
          obtain ⟨a, vs, rfl, t, ra⟩ := rp'
          refine ⟨a, .l, rfl, fun O H h => ?_, by rw [ra.length]; exact t.1⟩
          simp only [Rp] at h
          obtain ⟨a', vs', ea, t', ra'⟩ := h
          cases ea
          exact ⟨vs', t'.sq, ra'⟩
        | tup ds =>
          rw [hd] at e2 rp
          cases e2
          have rp' := rp
          simp only [Rp] at rp'
          obtain ⟨a, vs, rfl, t, ra⟩ := rp'
          refine ⟨a, .t, rfl, fun O H h => ?_, by rw [ra.length]; exact t.1⟩
          simp only [Rp] at h
          obtain ⟨a', vs', ea, t', ra'⟩ := h
          cases ea
          exact ⟨vs', t'.sq, ra'⟩
        | _ => rw [hd] at e2; cases e2
      obtain ⟨a, k, ev, hq, hl⟩ := key
      obtain ⟨vs0', hq0, _⟩ := hq O2 H1 rp
      refine ⟨a, k, ev, ⟨vs0', hq0⟩, hw _ r.frz v O2 W2 H1 (st1.trans sr.wf st2) sr2 rp ⟨hl, fun O H i d h hd => ?_, fun O H h => ?_⟩⟩
      · obtain ⟨vs, hq', ra⟩ := hq O H h
        obtain ⟨v, hv, rv⟩ := ra.getD hd
        cases k with
        | l => exact ⟨⟨vs, v, hq', hv⟩, fun x H3 ⟨e3, hy⟩ => by
            subst e3
            have : x = v := Option.some.inj ((hy vs hq').symm.trans hv)
            subst this
            exact ⟨Same.refl _, rv⟩⟩
        | t => exact ⟨⟨vs, v, hq', hv⟩, fun x H3 ⟨e3, hy⟩ => by
            subst e3
            have : x = v := Option.some.inj ((hy vs hq').symm.trans hv)
            subst this
            exact ⟨Same.refl _, rv⟩⟩
      · obtain ⟨vs, hq', ra⟩ := hq O H h
        cases k with
        | l => exact ⟨vs, hq', Nat.le_of_eq ra.length.symm⟩
        | t => exact ⟨vs, hq', Nat.le_of_eq ra.length.symm⟩
def dRngA (ρ : List SD) : List D → Rs (List D × List SD)
  | [.int j] => if rngOk j ∧ j.toNat ≤ sizeLine then .ok (rangeD 0 j.toNat, ρ) else .bad
  | _ => .bad
def dRngB (ρ : List SD) : List D → Rs (List D × List SD)
  | [.int i, .int j] => if rngOk i ∧ rngOk j ∧ (j - i).toNat ≤ sizeLine then .ok (rangeD i (j - i).toNat, ρ) else .bad
  | _ => .bad
def dRng1 (fl : List LOp) : So := fun ρ => (ops fl ρ).bind fun q => dRngA q.2 q.1
def dRng2 (fl : List LOp) : So := fun ρ => (ops fl ρ).bind fun q => dRngB q.2 q.1
theorem wlkD_rng {G : Gx} {lo : Int} {n : Nat} (h : n ≤ sizeLine) : WlkD G (Itr lo n) (rangeD lo n) .non .non := by
  refine ⟨by simpa [rangeD] using h, fun O H i d _ hd => ?_, fun O H _ => ?_⟩
  · unfold rangeD at hd
    rw [List.getElem?_map] at hd
    obtain ⟨k, hk, rfl⟩ := Option.map_eq_some_iff.mp hd
    obtain ⟨hl, e⟩ := List.getElem?_eq_some_iff.mp hk
    rw [List.getElem_range] at e
    subst e
    have hl' : i < n := by simpa using hl
    refine ⟨hl', fun x H3 ⟨e1, e2⟩ => ?_⟩
    subst e1 e2
    exact ⟨Same.refl _, by simp only [Rp]⟩
  · show n ≤ (rangeD lo n).length
    simp [rangeD]
theorem dj_rng1 {tg a : Expr} {fl : List LOp} {p pos : Pos} (hg : Gl X "range") (hm : X.mg "range" = none) (h : OJ X cl vs0 Wx [a] fl) (hs : starEach [a] X.env = [(false, eval a X.env)] := by rfl) : DJ X cl vs0 Wx tg (.Call (.Name "range" p) [a] [] pos) (dRng1 fl) := by
  obtain ⟨ts, ha, pa, q⟩ := h.ex
  refine ⟨⟨_, pi_range1 hg hm pa hs, fun O W σ H ρ R sr hw => q O W σ H ρ _ sr ?_⟩⟩
  unfold dRng1 at hw
  cases e : ops fl ρ with
  | bad => rw [e] at hw; exact hw
  | exc c fs ρ' => rw [e] at hw; exact hw
  | ok m =>
    obtain ⟨ds, ρ1⟩ := m
    rw [e] at hw
    intro vs O' W' H' st sr' ho
    have hw : AftD (gx X cl) vs0 Wx O W σ H R (dRngA ρ1 ds) := hw
    unfold dRngA at hw
    split at hw
    · split at hw
      · rename_i hz
        obtain ⟨v, ev, h1⟩ := ho.one
        refine ⟨_, by rw [ev, h1.int], hz.1.1, hz.1.2, hw _ .non .non O' W' H' st sr' (by simp only [Rp]) (wlkD_rng hz.2)⟩
      · exact hw.elim
    · exact hw.elim
theorem dj_rng2 {tg a b : Expr} {fl : List LOp} {p pos : Pos} (hg : Gl X "range") (hm : X.mg "range" = none) (h : OJ X cl vs0 Wx [a, b] fl) (hs : starEach [a, b] X.env = [(false, eval a X.env), (false, eval b X.env)] := by rfl) (hs2 : starEach [b] X.env = [(false, eval b X.env)] := by rfl) : DJ X cl vs0 Wx tg (.Call (.Name "range" p) [a, b] [] pos) (dRng2 fl) := by
  obtain ⟨ts, ha, pa, q⟩ := h.ex
  refine ⟨⟨_, pi_range2 hg hm pa hs hs2, fun O W σ H ρ R sr hw => q O W σ H ρ _ sr ?_⟩⟩
  unfold dRng2 at hw
  cases e : ops fl ρ with
  | bad => rw [e] at hw; exact hw
  | exc c fs ρ' => rw [e] at hw; exact hw
  | ok m =>
    obtain ⟨ds, ρ1⟩ := m
    rw [e] at hw
    intro vs O' W' H' st sr' ho
    have hw : AftD (gx X cl) vs0 Wx O W σ H R (dRngB ρ1 ds) := hw
    unfold dRngB at hw
    split at hw
    · split at hw
      · rename_i hz
        obtain ⟨v, u, ev, h1, h2⟩ := ho.two
        refine ⟨_, _, by rw [ev, h1.int, h2.int], ⟨hz.1.1, hz.1.2, hz.2.1.1, hz.2.1.2⟩, hw _ .non .non O' W' H' st sr' (by simp only [Rp]) (wlkD_rng hz.2.2)⟩
      · exact hw.elim
    · exact hw.elim
theorem dj_all {ι : Type} {Xs : ι → Cx} {K : PySem.W.Frag} {tg iter : Expr} {s : So} (hK : ∀ c, (Xs c).K = K) (h : ∀ c, DJ (Xs c) cl vs0 Wx tg iter s) : ∃ wi : TI, (∀ c, PI (Xs c) tg iter wi) ∧ ∀ O W σ H ρ R, SR (gk K cl) vs0 O W σ H ρ → AftD (gk K cl) vs0 Wx O W σ H R (s ρ) → wi σ H R := by
  refine ⟨fun σ H R => ∃ O W ρ, SR (gk K cl) vs0 O W σ H ρ ∧ AftD (gk K cl) vs0 Wx O W σ H R (s ρ), fun c => ⟨fun pins s σ H R I hw => ?_⟩, fun O W σ H ρ Q sr hw => ⟨O, W, ρ, sr, hw⟩⟩
  obtain ⟨t, p, q⟩ := (h c).ex
  obtain ⟨O, W, ρ, sr, hw⟩ := hw
  have e := hK c
  subst e
  exact p.run pins s σ H R I (q O W σ H ρ R sr hw)
noncomputable def lc2L (m : Itm) (st : Tg) (test : Sb) (s1 : So) (st1 : Tg) (test1 : Sb) (elt : Sx) (vs vs1 : List Nat) : List D → List SD → Rs (List D × List SD)
  | [], ρ => .ok ([], ρ)
  | d :: ds, ρ => match st d ρ with
    | some ρ1 => match test ρ1 with
      | .ok (true, ρ2) => match s1 ρ2 with
        | .ok (xs, ρ3) => match lcL ⟨xs, []⟩ st1 test1 elt vs1 xs (wipeR ρ3 vs1) with
          | .ok (es, ρ4) => if m.keep (wipeR ρ4 vs) then (lc2L m st test s1 st1 test1 elt vs vs1 ds (wipeR ρ4 vs)).bind fun q => .ok (es ++ q.1, q.2) else .bad
          | _ => .bad
        | _ => .bad
      | .ok (false, ρ2) => if m.keep (wipeR ρ2 vs) then lc2L m st test s1 st1 test1 elt vs vs1 ds (wipeR ρ2 vs) else .bad
      | _ => .bad
    | none => .bad
noncomputable def xLc2 (src : Src) (st : Tg) (test : Sb) (s1 : So) (st1 : Tg) (test1 : Sb) (elt : Sx) (vs vs1 : List Nat) : Sx := fun ρ => (src ρ).bind fun p => if p.1.keep (wipeR p.2 vs) ∧ (∀ b ∈ p.1.bor, b.1 ∉ vs) then
  match lc2L p.1 st test s1 st1 test1 elt vs vs1 p.1.xs (wipeR p.2 vs) with
  | .ok (ds, ρ') => if ds.length ≤ sizeLine then .ok (.own ds, backR p.2 ρ' vs) else .bad
  | _ => .bad
  else .bad
theorem wipe_sub {σ : L2.St} {vs vs1 : List Nat} (hv : ∀ i ∈ vs1, i ∈ vs) : wipe (wipe σ vs1) vs = wipe σ vs := by
  apply List.ext_getElem?
  intro i
  have key : ∀ (τ : L2.St) (ws : List Nat), i ∈ ws → (wipe τ ws)[i]? = if i < τ.length then some none else none := by
    intro τ ws
    induction ws with
    | nil => intro h; cases h
    | cons w ws ih =>
      intro h
      unfold wipe
      by_cases e : w = i
      · subst e
        by_cases hl : w < τ.length
        · rw [List.getElem?_set_self (by rw [wipe_length]; exact hl), if_pos hl]
        · rw [if_neg hl]
          exact List.getElem?_eq_none (by rw [List.length_set, wipe_length]; omega)
      · rw [List.getElem?_set_ne e]
        rcases List.mem_cons.mp h with z | z
        · exact absurd z.symm e
        · exact ih z
  by_cases h : i ∈ vs
  · rw [key _ _ h, key _ _ h, wipe_length]
  · rw [wipe_get h, wipe_get h, wipe_get (fun z => h (hv i z))]
theorem keep_none {xs : List D} {ρ : List SD} : Itm.keep ⟨xs, []⟩ ρ := fun p hp => absurd hp (by simp)
theorem lc2_sound {wi wi1 : TI} {g g1 : TG} {tt tt1 : TT} {te : TE} {src : Src} {s1 : So} {st st1 : Tg} {is is1 : List Nat} {test test1 : Sb} {f : Sx} {vs vs1 : List Nat} (his : ∀ i ∈ is, i ∈ vs) (his1 : ∀ i ∈ is1, i ∈ vs1) (hv : ∀ i ∈ vs1, i ∈ vs)
    (q1 : ∀ O W σ H ρ R, SR (gx X cl) vs0 O W σ H ρ → AftI (gx X cl) vs0 Wx O W σ H R (src ρ) → wi σ H R)
    (q2 : ∀ O W σ H ρ ρ' d v Q, SR (gx X cl) vs0 O W σ H ρ → Rp (gx X cl) O H d v → st d ρ = some ρ' → (∀ σ', SR (gx X cl) vs0 O W σ' H ρ' → (∀ vs, (∀ i ∈ is, i ∈ vs) → wipe σ' vs = wipe σ vs) → Q σ' H) → g v σ H Q)
    (q3 : ∀ O W σ H ρ Q, SR (gx X cl) vs0 O W σ H ρ → AftB (gx X cl) vs0 WX0 O W σ H Q (test ρ) → tt σ H Q)
    (r1 : ∀ O W σ H ρ R, SR (gx X cl) vs0 O W σ H ρ → AftD (gx X cl) vs0 WX0 O W σ H R (s1 ρ) → wi1 σ H R)
    (r2 : ∀ O W σ H ρ ρ' d v Q, SR (gx X cl) vs0 O W σ H ρ → Rp (gx X cl) O H d v → st1 d ρ = some ρ' → (∀ σ', SR (gx X cl) vs0 O W σ' H ρ' → (∀ vs, (∀ i ∈ is1, i ∈ vs) → wipe σ' vs = wipe σ vs) → Q σ' H) → g1 v σ H Q)
    (r3 : ∀ O W σ H ρ Q, SR (gx X cl) vs0 O W σ H ρ → AftB (gx X cl) vs0 WX0 O W σ H Q (test1 ρ) → tt1 σ H Q)
    (q4 : ∀ O W σ H ρ Q, SR (gx X cl) vs0 O W σ H ρ → AftE (gx X cl) vs0 WX0 O W σ H Q (f ρ) → te σ H Q) :
    ∀ O W σ H ρ Q, SR (gx X cl) vs0 O W σ H ρ → AftE (gx X cl) vs0 Wx O W σ H Q (xLc2 src st test s1 st1 test1 f vs vs1 ρ) → tLc2 wi g tt wi1 g1 tt1 te vs vs1 σ H Q := by
  intro O W σ H ρ Q sr hw
  refine q1 O W σ H ρ _ sr ?_
  unfold xLc2 at hw
  cases e : src ρ with
  | bad => rw [e] at hw; exact hw
  | exc c fs ρ' => rw [e] at hw; exact hw
  | ok pm =>
    obtain ⟨m, ρ1⟩ := pm
    rw [e] at hw
    have hw : AftE (gx X cl) vs0 Wx O W σ H Q (if m.keep (wipeR ρ1 vs) ∧ (∀ b ∈ m.bor, b.1 ∉ vs) then
      match lc2L m st test s1 st1 test1 f vs vs1 m.xs (wipeR ρ1 vs) with
      | .ok (ds, ρ') => if ds.length ≤ sizeLine then .ok (.own ds, backR ρ1 ρ' vs) else .bad
      | _ => .bad
      else .bad) := hw
    intro J O1 W1 H1 st1' sr1 hk wk p np
    split at hw
    · rename_i hcond
      cases eL : lc2L m st test s1 st1 test1 f vs vs1 m.xs (wipeR ρ1 vs) with
      | bad => rw [eL] at hw; exact hw.elim
      | exc c fs ρ' => rw [eL] at hw; exact hw.elim
      | ok pe =>
        obtain ⟨all, ρe⟩ := pe
        rw [eL] at hw
        have hw : AftE (gx X cl) vs0 Wx O W σ H Q (if all.length ≤ sizeLine then .ok (.own all, backR ρ1 ρe vs) else .bad) := hw
        split at hw
        · rename_i hall0
          have hslots : m.slots σ (wipe σ vs) := fun b hb => wipe_get (hcond.2 b hb)
          have sm0 : Same H1 (upd H1 p (.lst [])) := same_upd np
          have st0 : Stp O1 W1 H1 (p :: O1) W1 (upd H1 p (.lst [])) := Stp.addO sm0 np
          have w0 : Wf (p :: O1) W1 (upd H1 p (.lst [])) := ⟨fun b hb => List.mem_cons_of_mem _ (sr1.wf.sub b hb), fun b hb => by
            rcases List.mem_cons.mp hb with z | z
            · rw [z]; exact noD_not upd_same
            · exact (sr1.wf.same sm0).trk b z⟩
          have pW : p ∉ W1 := fun z => sr1.wf.trk p (sr1.wf.sub p z) (noD_none np)
          have sr0 : SR (gx X cl) vs0 (p :: O1) W1 (wipe σ vs) (upd H1 p (.lst [])) (wipeR ρ1 vs) := (sr1.wipe vs).step w0 st0 (fun _ h => h) (fun b o _ e => sm0 b o e) (sr1.tabs.tc.ext sm0)
          have nop : ∀ b, H1 b ≠ none → b ≠ p := fun b hb z => hb (z ▸ np)
          refine ⟨fun i k H2 => ∃ O2 W2 ρ2 ds acc ads es, k = ds.length ∧ i + ds.length = m.xs.length ∧ m.xs.drop i = ds ∧ Stp O1 W1 H1 O2 W2 H2 ∧ Held p acc O2 W2 H2 ∧ RpA (gx X cl) O2 H2 ads acc ∧
            SR (gx X cl) vs0 O2 W2 (wipe σ vs) H2 ρ2 ∧ m.keep ρ2 ∧ lc2L m st test s1 st1 test1 f vs vs1 ds ρ2 = .ok (es, ρe) ∧ ads ++ es = all,
            ⟨m.xs.length, p :: O1, W1, _, m.xs, [], [], all, rfl, Nat.zero_add _, rfl, st0, ⟨by simp, pW, upd_same⟩, by simp only [RpA], sr0, hcond.1, eL, rfl⟩, ?_⟩
          rintro i k H2 ⟨O2, W2, ρ2, ds, acc, ads, es, rfl, hlen, hdrop, st2, hd2, ra, sr2, hkp, hL, hall⟩
          cases ds with
          | nil =>
            have hi : i = m.xs.length := by simpa using hlen
            subst hi
            have hL : Rs.ok (([] : List D), ρ2) = .ok (es, ρe) := hL
            injection hL with hL
            injection hL with e1 e2
            subst e1 e2
            rw [List.append_nil] at hall
            subst hall
            refine .inl ⟨wk.stop O2 W2 (wipe σ vs) H2 ρ2 st2 sr2 hslots hkp, ?_⟩
            refine hw (.ref p) O2 (p :: W2) H2 (st1'.trans sr.wf (st2.addW np)) ((sr1.unwipe st2 sr2).addW hd2.o) ⟨p, rfl, ⟨List.mem_cons_self, acc, hd2.h, by rw [← ra.length]; exact hall0, ra⟩, fun j s es ms z => ?_⟩
            have sr3 := sr1.unwipe st2 sr2
            have : ∃ xs, s = .own xs ∨ s = .byr xs := by
              cases s with
              | own xs => exact ⟨xs, .inl rfl⟩
              | byr xs => exact ⟨xs, .inr rfl⟩
              | xn _ _ => cases ms
              | gv => cases ms
              | no => cases ms
              | sh d => cases ms
            obtain ⟨ys, hs⟩ := this
            obtain ⟨b, eb, ob⟩ := sr3.getOwn es hs
            rw [eb] at z; cases z
            exact hd2.w ob.1
          | cons d ds =>
            have hd : m.xs[i]? = some d := by
              have : (m.xs.drop i)[0]? = some d := by rw [hdrop]; rfl
              rw [List.getElem?_drop] at this
              simpa using this
            have hlt : i < m.xs.length := (List.getElem?_eq_some_iff.mp hd).1
            obtain ⟨hgo, hy⟩ := wk.go O2 W2 (wipe σ vs) H2 ρ2 i d st2 sr2 hslots hkp hd
            have hdr : m.xs.drop (i + 1) = ds := by rw [← List.drop_drop, hdrop]; rfl
            have hln : i + 1 + ds.length = m.xs.length := by rw [← hlen, List.length_cons]; omega
            refine .inr ⟨hgo, _, fun H' hN => ⟨ds.length, Nat.lt_succ_self _, hN⟩, fun x H3 hyl => ?_⟩
            obtain ⟨sm, rp⟩ := hy x H3 hyl
            have sr3 := sr2.same sm
            have st3 : Stp O2 W2 H2 O2 W2 H3 := Stp.same sm
            have st13 := st2.trans sr1.wf st3
            have hd3 := hd2.step st3
            have ra3 := ra.step sr2.wf st3
            unfold lc2L at hL
            cases es1 : st d ρ2 with
            | none => rw [es1] at hL; cases hL
            | some ρ3 =>
              rw [es1] at hL
              dsimp only at hL
              refine q2 O2 W2 (wipe σ vs) H3 ρ2 ρ3 d x _ sr3 rp es1 fun σ4 sr4 hwp => ?_
              have hwp : wipe σ4 vs = wipe σ vs := (hwp vs his).trans wipe_wipe
              refine ⟨hwp, q3 O2 W2 σ4 H3 ρ3 _ sr4 ?_⟩
              cases et : test ρ3 with
              | bad => rw [et] at hL; cases hL
              | exc c fs ρ' => rw [et] at hL; cases hL
              | ok bt =>
                obtain ⟨b, ρ4⟩ := bt
                intro O5 W5 H5 st5 sr5
                have hd5 := hd3.step st5
                have ra5 := ra3.step sr3.wf st5
                have st15 := st13.trans sr1.wf st5
                cases b with
                | false =>
                  rw [et] at hL
                  have hL : (if m.keep (wipeR ρ4 vs) then lc2L m st test s1 st1 test1 f vs vs1 ds (wipeR ρ4 vs) else .bad) = .ok (es, ρe) := hL
                  split at hL
                  · rename_i hkp5
                    have sr6 := sr5.wipe vs
                    rw [hwp] at sr6
                    exact ⟨O5, W5, _, ds, acc, ads, es, rfl, hln, hdr, st15, hd5, ra5, sr6, hkp5, hL, hall⟩
                  · cases hL
                | true =>
                  rw [et] at hL
                  dsimp only at hL
                  refine r1 O5 W5 σ4 H5 ρ4 _ sr5 ?_
                  cases e6 : s1 ρ4 with
                  | bad => rw [e6] at hL; cases hL
                  | exc c fs ρ' => rw [e6] at hL; cases hL
                  | ok px =>
                    obtain ⟨xs, ρ5⟩ := px
                    rw [e6] at hL
                    dsimp only at hL
                    cases e7 : lcL ⟨xs, []⟩ st1 test1 f vs1 xs (wipeR ρ5 vs1) with
                    | bad => rw [e7] at hL; cases hL
                    | exc c fs ρ' => rw [e7] at hL; cases hL
                    | ok pin =>
                      obtain ⟨ei, ρ6⟩ := pin
                      rw [e7] at hL
                      have hL : (if m.keep (wipeR ρ6 vs) then (lc2L m st test s1 st1 test1 f vs vs1 ds (wipeR ρ6 vs)).bind fun q => .ok (ei ++ q.1, q.2) else .bad) = .ok (es, ρe) := hL
                      split at hL
                      · rename_i hkp6
                        cases e8 : lc2L m st test s1 st1 test1 f vs vs1 ds (wipeR ρ6 vs) with
                        | bad => rw [e8] at hL; cases hL
                        | exc c fs ρ' => rw [e8] at hL; cases hL
                        | ok pq =>
                          obtain ⟨eo, ρeo⟩ := pq
                          rw [e8] at hL
                          have hL : Rs.ok (ei ++ eo, ρeo) = Rs.ok (es, ρe) := hL
                          injection hL with hL
                          injection hL with e9 e10
                          subst e9 e10
                          intro J1 dc vc O6 W6 H6 st6 sr6 rc wk1
                          have hd6 := hd5.step st6
                          have ra6 := ra5.step sr5.wf st6
                          have st16 := st15.trans sr1.wf st6
                          have hws : wipe (wipe σ4 vs1) vs = wipe σ vs := (wipe_sub hv).trans hwp
                          refine ⟨fun j k H7 => ∃ O7 W7 ρ7 ds1 acc1 ads1 es1, k = ds1.length ∧ j + ds1.length = xs.length ∧ xs.drop j = ds1 ∧ Stp O1 W1 H1 O7 W7 H7 ∧ Held p acc1 O7 W7 H7 ∧ RpA (gx X cl) O7 H7 ads1 acc1 ∧
                            SR (gx X cl) vs0 O7 W7 (wipe σ4 vs1) H7 ρ7 ∧ Rp (gx X cl) O7 H7 dc vc ∧ lcL ⟨xs, []⟩ st1 test1 f vs1 ds1 ρ7 = .ok (es1, ρ6) ∧ ads1 ++ es1 = ads ++ ei,
                            ⟨xs.length, O6, W6, _, xs, acc, ads, ei, rfl, Nat.zero_add _, rfl, st16, hd6, ra6, sr6.wipe vs1, rc, e7, rfl⟩, ?_⟩
                          rintro j k H7 ⟨O7, W7, ρ7, ds1, acc1, ads1, es1, rfl, hlen1, hdrop1, st7, hd7, ra7, sr7, rc7, hL1, hall1⟩
                          cases ds1 with
                          | nil =>
                            have hj : j = xs.length := by simpa using hlen1
                            subst hj
                            have hL1 : Rs.ok (([] : List D), ρ7) = .ok (es1, ρ6) := hL1
                            injection hL1 with hL1
                            injection hL1 with e11 e12
                            subst e11 e12
                            rw [List.append_nil] at hall1
                            subst hall1
                            have sr8 := sr7.wipe vs
                            rw [hws] at sr8
                            exact .inl ⟨wk1.stop O7 H7 rc7, O7, W7, _, ds, acc1, ads ++ ei, eo, rfl, hln, hdr, st7, hd7, ra7, sr8, hkp6, e8, by rw [List.append_assoc]; exact hall⟩
                          | cons d1 ds1 =>
                            have hd1 : xs[j]? = some d1 := by
                              have : (xs.drop j)[0]? = some d1 := by rw [hdrop1]; rfl
                              rw [List.getElem?_drop] at this
                              simpa using this
                            obtain ⟨hgo1, hy1⟩ := wk1.go O7 H7 j d1 rc7 hd1
                            have hdr1 : xs.drop (j + 1) = ds1 := by rw [← List.drop_drop, hdrop1]; rfl
                            have hln1 : j + 1 + ds1.length = xs.length := by rw [← hlen1, List.length_cons]; omega
                            refine .inr ⟨hgo1, _, fun H' hN => ⟨ds1.length, Nat.lt_succ_self _, hN⟩, fun x1 H8 hyl1 => ?_⟩
                            obtain ⟨sm8, rp8⟩ := hy1 x1 H8 hyl1
                            have sr8 := sr7.same sm8
                            have st8 : Stp O7 W7 H7 O7 W7 H8 := Stp.same sm8
                            have st18 := st7.trans sr1.wf st8
                            have hd8 := hd7.step st8
                            have ra8 := ra7.step sr7.wf st8
                            have rc8 := rc7.step sr7.wf st8
                            unfold lcL at hL1
                            cases es2 : st1 d1 ρ7 with
                            | none => rw [es2] at hL1; cases hL1
                            | some ρ8 =>
                              rw [es2] at hL1
                              dsimp only at hL1
                              refine r2 O7 W7 (wipe σ4 vs1) H8 ρ7 ρ8 d1 x1 _ sr8 rp8 es2 fun σ9 sr9 hwp9 => ?_
                              have hwp9 : wipe σ9 vs1 = wipe σ4 vs1 := (hwp9 vs1 his1).trans wipe_wipe
                              refine ⟨hwp9, r3 O7 W7 σ9 H8 ρ8 _ sr9 ?_⟩
                              cases et1 : test1 ρ8 with
                              | bad => rw [et1] at hL1; cases hL1
                              | exc c fs ρ' => rw [et1] at hL1; cases hL1
                              | ok bt1 =>
                                obtain ⟨b1, ρ9⟩ := bt1
                                intro O10 W10 H10 st10 sr10
                                have hd10 := hd8.step st10
                                have ra10 := ra8.step sr8.wf st10
                                have rc10 := rc8.step sr8.wf st10
                                have st110 := st18.trans sr1.wf st10
                                cases b1 with
                                | false =>
                                  rw [et1] at hL1
                                  have hL1 : (if Itm.keep ⟨xs, []⟩ (wipeR ρ9 vs1) then lcL ⟨xs, []⟩ st1 test1 f vs1 ds1 (wipeR ρ9 vs1) else .bad) = .ok (es1, ρ6) := hL1
                                  rw [if_pos keep_none] at hL1
                                  have sr11 := sr10.wipe vs1
                                  rw [hwp9] at sr11
                                  exact ⟨O10, W10, _, ds1, acc1, ads1, es1, rfl, hln1, hdr1, st110, hd10, ra10, sr11, rc10, hL1, hall1⟩
                                | true =>
                                  rw [et1] at hL1
                                  dsimp only at hL1
                                  refine q4 O10 W10 σ9 H10 ρ9 _ sr10 ?_
                                  cases ef : f ρ9 with
                                  | bad => rw [ef] at hL1; cases hL1
                                  | exc c fs ρ' => rw [ef] at hL1; cases hL1
                                  | ok pr =>
                                    obtain ⟨r, ρ10⟩ := pr
                                    rw [ef] at hL1
                                    have hL1 : (if Itm.keep ⟨xs, []⟩ (wipeR ρ10 vs1) then (lcL ⟨xs, []⟩ st1 test1 f vs1 ds1 (wipeR ρ10 vs1)).bind fun q => .ok (r.frz :: q.1, q.2) else .bad) = .ok (es1, ρ6) := hL1
                                    rw [if_pos keep_none] at hL1
                                    intro y O11 W11 H11 st11 sr11 rr
                                    obtain ⟨O12, W12, st12, sr12, rp12⟩ := rr.frz sr11
                                    have hd12 := (hd10.step st11).step st12
                                    have ra12 := (ra10.step sr10.wf st11).step sr11.wf st12
                                    have rc12 := (rc10.step sr10.wf st11).step sr11.wf st12
                                    have st112 := (st110.trans sr1.wf st11).trans sr1.wf st12
                                    cases eq : lcL ⟨xs, []⟩ st1 test1 f vs1 ds1 (wipeR ρ10 vs1) with
                                    | bad => rw [eq] at hL1; cases hL1
                                    | exc c fs ρ' => rw [eq] at hL1; cases hL1
                                    | ok qq =>
                                      obtain ⟨es3, ρe3⟩ := qq
                                      rw [eq] at hL1
                                      have hL1 : Rs.ok (r.frz :: es3, ρe3) = Rs.ok (es1, ρ6) := hL1
                                      injection hL1 with hL1
                                      injection hL1 with e13 e14
                                      subst e13 e14
                                      have hacc : acc1.length < sizeLine := by
                                        have h1 : acc1.length = ads1.length := ra7.length.symm
                                        have h2 := congrArg List.length hall1
                                        have h3 := congrArg List.length hall
                                        simp only [List.length_append, List.length_cons] at h2 h3
                                        omega
                                      refine ⟨acc1, hd12.h, hacc, ?_⟩
                                      have sr13 := sr12.wipe vs1
                                      rw [hwp9] at sr13
                                      obtain ⟨sr14, gr, gra⟩ := sr13.grow (o' := .lst (acc1 ++ [y])) hd12.o hd12.w hd12.h
                                      refine ⟨O12, W12, _, ds1, acc1 ++ [y], ads1 ++ [r.frz], es3, rfl, hln1, hdr1, ?_, ⟨hd12.o, hd12.w, upd_same⟩, (gra ra12).snoc (gr rp12), sr14, gr rc12, eq, by rw [List.append_assoc]; exact hall1⟩
                                      exact ⟨fun b o eo hb ht => by rw [upd_ne (nop b (by rw [eo]; simp))]; exact st112.keep b o eo hb ht, st112.wnew, st112.onew, fun b hb => noD_upd (st112.trk b hb), st112.ofz⟩
                      · cases hL
        · exact hw.elim
    · exact hw.elim
variable {elt tg iter tg1 iter1 : Expr} {ifs ifs1 : List Expr} {scope : Scope} {own : List (Str × Nat)} {vs1 : List Nat} {pos : Pos} {src : Src} {s1 : So} {st st1 : Tg} {is is1 : List Nat} {test test1 : Sb} {f : Sx}
theorem ej_lc2 (hc : X.calm = true) (hN : X.N.Nodup) (hi : IJ X cl vs0 Wx tg iter src) (ok : BlkOk X.N X.env.scope scope own)
    (hg : ∀ (s : Shared) (H : Hp) (C : Addr) (cs : List (Str × Addr)) (fp : List Addr), GJ (X.blk s H scope (compEnvC scope cs C X.env) fp) cl vs0 tg st is)
    (ht : ∀ (s : Shared) (H : Hp) (C : Addr) (cs : List (Str × Addr)) (fp : List Addr), FJ (X.blk s H scope (compEnvC scope cs C X.env) fp) cl vs0 WX0 ifs test)
    (hi1 : ∀ (s : Shared) (H : Hp) (C : Addr) (cs : List (Str × Addr)) (fp : List Addr), DJ (X.blk s H scope (compEnvC scope cs C X.env) fp) cl vs0 WX0 tg1 iter1 s1)
    (hg1 : ∀ (s : Shared) (H : Hp) (C : Addr) (cs : List (Str × Addr)) (fp : List Addr), GJ (X.blk s H scope (compEnvC scope cs C X.env) fp) cl vs0 tg1 st1 is1)
    (ht1 : ∀ (s : Shared) (H : Hp) (C : Addr) (cs : List (Str × Addr)) (fp : List Addr), FJ (X.blk s H scope (compEnvC scope cs C X.env) fp) cl vs0 WX0 ifs1 test1)
    (he : ∀ (s : Shared) (H : Hp) (C : Addr) (cs : List (Str × Addr)) (fp : List Addr), EJ (X.blk s H scope (compEnvC scope cs C X.env) fp) cl vs0 WX0 elt f) (his : ∀ i ∈ is, i ∈ own.map (·.2)) (his1 : ∀ i ∈ is1, i ∈ vs1) (hv : ∀ i ∈ vs1, i ∈ own.map (·.2)) (hs1 : ∀ env x, foldedSetIterable iter1 env x = pure x := by intro _ _; rfl) :
    EJ X cl vs0 Wx (.ListComp elt [⟨tg, iter, ifs, 0⟩, ⟨tg1, iter1, ifs1, 0⟩] scope pos) (xLc2 src st test s1 st1 test1 f (own.map (·.2)) vs1) := by
  obtain ⟨wi, p1, hs, q1⟩ := hi.ex
  let Xs : Shared × Hp × Addr × List (Str × Addr) × List Addr → Cx := fun c => X.blk c.1 c.2.1 scope (compEnvC scope c.2.2.2.1 c.2.2.1 X.env) c.2.2.2.2
  obtain ⟨g, p2, q2⟩ := gj_all (Xs := Xs) (K := X.K) (fun _ => rfl) fun c => hg c.1 c.2.1 c.2.2.1 c.2.2.2.1 c.2.2.2.2
  obtain ⟨tt, p3, q3⟩ := fj_all (Xs := Xs) (K := X.K) (fun _ => rfl) fun c => ht c.1 c.2.1 c.2.2.1 c.2.2.2.1 c.2.2.2.2
  obtain ⟨wi1, p5, q5⟩ := dj_all (Xs := Xs) (K := X.K) (fun _ => rfl) fun c => hi1 c.1 c.2.1 c.2.2.1 c.2.2.2.1 c.2.2.2.2
  obtain ⟨g1, p6, q6⟩ := gj_all (Xs := Xs) (K := X.K) (fun _ => rfl) fun c => hg1 c.1 c.2.1 c.2.2.1 c.2.2.2.1 c.2.2.2.2
  obtain ⟨tt1, p7, q7⟩ := fj_all (Xs := Xs) (K := X.K) (fun _ => rfl) fun c => ht1 c.1 c.2.1 c.2.2.1 c.2.2.2.1 c.2.2.2.2
  obtain ⟨te, p4, q4⟩ := ej_all (Xs := Xs) (K := X.K) (fun _ => rfl) fun c => he c.1 c.2.1 c.2.2.1 c.2.2.2.1 c.2.2.2.2
  exact ⟨⟨_, pe_lc2 hc hN p1 ok hv (fun s H C cs fp => p2 (s, H, C, cs, fp)) (fun s H C cs fp => p3 (s, H, C, cs, fp)) (fun s H C cs fp => p5 (s, H, C, cs, fp)) (fun s H C cs fp => p6 (s, H, C, cs, fp)) (fun s H C cs fp => p7 (s, H, C, cs, fp)) (fun s H C cs fp => p4 (s, H, C, cs, fp)) hs hs1, lc2_sound his his1 hv q1 q2 q3 q5 q6 q7 q4⟩⟩
theorem sj_setLc2 {i : Nat} {y : Str} {py spos : Pos} (hc : X.calm = true) (hN : X.N.Nodup) (hy : X.N[i]? = some y) (hyl : X.env.scope.names.lookup y = some .local)
    (hsw : swapsWith (.ListComp elt [⟨tg, iter, ifs, 0⟩, ⟨tg1, iter1, ifs1, 0⟩] scope pos) (some (.Name y py)) spos.line X.env = pure true) (hi : IJ X cl vs0 Wx tg iter src) (ok : BlkOk X.N X.env.scope scope own)
    (hg : ∀ (s : Shared) (H : Hp) (C : Addr) (cs : List (Str × Addr)) (fp : List Addr), GJ (X.blk s H scope (compEnvC scope cs C X.env) fp) cl vs0 tg st is)
    (ht : ∀ (s : Shared) (H : Hp) (C : Addr) (cs : List (Str × Addr)) (fp : List Addr), FJ (X.blk s H scope (compEnvC scope cs C X.env) fp) cl vs0 WX0 ifs test)
    (hi1 : ∀ (s : Shared) (H : Hp) (C : Addr) (cs : List (Str × Addr)) (fp : List Addr), DJ (X.blk s H scope (compEnvC scope cs C X.env) fp) cl vs0 WX0 tg1 iter1 s1)
    (hg1 : ∀ (s : Shared) (H : Hp) (C : Addr) (cs : List (Str × Addr)) (fp : List Addr), GJ (X.blk s H scope (compEnvC scope cs C X.env) fp) cl vs0 tg1 st1 is1)
    (ht1 : ∀ (s : Shared) (H : Hp) (C : Addr) (cs : List (Str × Addr)) (fp : List Addr), FJ (X.blk s H scope (compEnvC scope cs C X.env) fp) cl vs0 WX0 ifs1 test1)
    (he : ∀ (s : Shared) (H : Hp) (C : Addr) (cs : List (Str × Addr)) (fp : List Addr), EJ (X.blk s H scope (compEnvC scope cs C X.env) fp) cl vs0 WX0 elt f) (his : ∀ i ∈ is, i ∈ own.map (·.2)) (his1 : ∀ i ∈ is1, i ∈ vs1) (hv : ∀ i ∈ vs1, i ∈ own.map (·.2)) (hs1 : ∀ env x, foldedSetIterable iter1 env x = pure x := by intro _ _; rfl) :
    SJ X cl vs0 Wx (.Assign [.Name y py] (.ListComp elt [⟨tg, iter, ifs, 0⟩, ⟨tg1, iter1, ifs1, 0⟩] scope pos) spos) (sSet i (xLc2 src st test s1 st1 test1 f (own.map (·.2)) vs1)) := by
  obtain ⟨wi, p1, hs, q1⟩ := hi.ex
  let Xs : Shared × Hp × Addr × List (Str × Addr) × List Addr → Cx := fun c => X.blk c.1 c.2.1 scope (compEnvC scope c.2.2.2.1 c.2.2.1 X.env) c.2.2.2.2
  obtain ⟨g, p2, q2⟩ := gj_all (Xs := Xs) (K := X.K) (fun _ => rfl) fun c => hg c.1 c.2.1 c.2.2.1 c.2.2.2.1 c.2.2.2.2
  obtain ⟨tt, p3, q3⟩ := fj_all (Xs := Xs) (K := X.K) (fun _ => rfl) fun c => ht c.1 c.2.1 c.2.2.1 c.2.2.2.1 c.2.2.2.2
  obtain ⟨wi1, p5, q5⟩ := dj_all (Xs := Xs) (K := X.K) (fun _ => rfl) fun c => hi1 c.1 c.2.1 c.2.2.1 c.2.2.2.1 c.2.2.2.2
  obtain ⟨g1, p6, q6⟩ := gj_all (Xs := Xs) (K := X.K) (fun _ => rfl) fun c => hg1 c.1 c.2.1 c.2.2.1 c.2.2.2.1 c.2.2.2.2
  obtain ⟨tt1, p7, q7⟩ := fj_all (Xs := Xs) (K := X.K) (fun _ => rfl) fun c => ht1 c.1 c.2.1 c.2.2.1 c.2.2.2.1 c.2.2.2.2
  obtain ⟨te, p4, q4⟩ := ej_all (Xs := Xs) (K := X.K) (fun _ => rfl) fun c => he c.1 c.2.1 c.2.2.1 c.2.2.2.1 c.2.2.2.2
  exact ⟨⟨_, ps_setLc2 hc hN hy hyl hsw p1 ok hv (fun s H C cs fp => p2 (s, H, C, cs, fp)) (fun s H C cs fp => p3 (s, H, C, cs, fp)) (fun s H C cs fp => p5 (s, H, C, cs, fp)) (fun s H C cs fp => p6 (s, H, C, cs, fp)) (fun s H C cs fp => p7 (s, H, C, cs, fp)) (fun s H C cs fp => p4 (s, H, C, cs, fp)) hs hs1,
    fun O W σ H ρ E sr hw => lc2_sound his his1 hv q1 q2 q3 q5 q6 q7 q4 O W σ H ρ _ sr (e_core sr.wf hw fun v s ρ' O' W' H' sr' rr hk => hk _ O' W' H' Stp.refl (sr'.put rr))⟩⟩
end
end Wm
end

section
/-! isinstance of what was caught. -/
namespace Wm
open PySem PySem.Spec PyProof.Rows L2
/-- what the class of a refusal must say, so that isinstance asks it rightly -/
structure KxC (K : PySem.W.Frag) (C : Addr) : Prop where
  cl : (PySem.W.clsIn K C).isSome = true
  ga : PySem.W.findIn K (.ref C) "__getattribute__" = some (some (.builtin "BaseException.__getattribute__"))
  gt : PySem.W.findIn K (.ref C) "__getattr__" = some none
  ex : PySem.W.subIn K (.ref C) (.type "BaseException") = some true
  ha : PySem.W.findIn K (.ref C) "__class__" = some (some (.builtin "object.__class__"))
  hn : PySem.W.specialIn K (.builtin "object.__class__") "__get__" = some (some (.builtin "getset_descriptor.__get__"))
  tk : PySem.W.takesIn K (.builtin "object.__class__") = some true
  hm : PySem.W.mroIn K C (.type "object") = some true
theorem cls_some {K : PySem.W.Frag} {C : Addr} (h : PySem.W.hasDictIn K C = true) : (PySem.W.clsIn K C).isSome = true := by
  obtain ⟨cd, hc, _⟩ := PySem.W.any_some h
  rw [hc]
  rfl
section
variable {X : Cx} {cl : Cl} {vs0 : List V} {Wx : WX}
def rIsX (K : PySem.W.Frag) (a : Addr) (cls : Value) (d : Option Addr) : List V → Hp → VK → Prop := fun xs H Q => ∃ (c : V) (cv : Value) (b : Bool) (C dd : Addr) (fs : List (Str × V)), xs = [.ref a, c] ∧ ClsV c cv ∧ cls = .ref C ∧ d = some dd ∧ H dd = some (.xd fs) ∧ KxC K C ∧ PySem.W.kitOne K (.ref C) cv = some b ∧ Q (.bl b) H
theorem call_isX {a : Addr} {oe : Obj} {cls : Value} {d : Option Addr} {pn : List (Addr × Obj)} (hz : Zc cls d oe) (hf : ∃ vs, oe.data = .fields vs) : CallR (X.suite a ((a, oe) :: pn)) (.builtin "isinstance") (rIsX X.K a cls d) := by
  intro pins s σ H xs us Q I r h
  obtain ⟨c, cv, b, C, dd, fs, rfl, hcv, rfl, rfl, ea, kx, e, q⟩ := h
  cases r with
  | cons rx rr =>
    cases rr with
    | cons rt rr =>
      cases rr
      cases rx
      have ec := hcv.eq rt
      subst ec
      obtain ⟨hget, _⟩ := I.pin (a, oe) (List.mem_append.mpr (.inl List.mem_cons_self))
      obtain ⟨vs, hv⟩ := hf
      have hx : ObjOk X.prog X.w H s.heap dd (.xd fs) := I.hok dd _ ea
      obtain ⟨mA, hns, hr⟩ := hx
      obtain ⟨od, ho, hl⟩ := lookIn_ns hns
      have J : PySem.W.InstAt s.heap a oe C (some od) := ⟨hget, hz.1, by unfold PySem.W.notCls; rw [hv] <;> rfl, by rw [hz.2]; exact ho⟩
      exact PySem.W.kia_one (PySem.W.kitx_exc kx.cl kx.ga kx.gt kx.ex kx.ha kx.hn kx.tk kx.hm) I.kIn J e (fun z => nomatch z) fun tk => ⟨.bl b, H, I.kept (t' := tk) fun _ _ z => z, rfl, q⟩
/-- isinstance(e, C) of what was caught: by its class -/
def isEO (ρ : List SD) (tb : List (Str × Bool)) : Option SD → Rs (SD × List SD)
  | some (.xn c _) => match tb.lookup c with
    | some b => .ok (.sh (.bl b), ρ)
    | none => .bad
  | _ => .bad
def xIsE (i : Nat) (tb : List (Str × Bool)) : Sx := fun ρ => isEO ρ tb ρ[i]?
theorem look_mem {β : Type} {c : Str} {b : β} : ∀ {tb : List (Str × β)}, tb.lookup c = some b → (c, b) ∈ tb
  | [], h => by cases h
  | (c', b') :: tb, h => by
    rw [List.lookup_cons] at h
    by_cases hc : (c == c') = true
    · rw [hc] at h
      have hc := beq_iff_eq.mp hc
      cases h
      subst hc
      exact List.mem_cons_self
    · rw [Bool.not_eq_true] at hc
      rw [hc] at h
      exact List.mem_cons_of_mem _ (look_mem h)
theorem ej_isE {a : Addr} {oe : Obj} {cls : Value} {d : Option Addr} {pn : List (Addr × Obj)} {cl' : Cl} {i : Nat} {e b : Expr} {tb : List (Str × Bool)} {cV : V} {cv : Value} {p pos : Pos} (hz : Zc cls d oe) (hf : ∃ vs, oe.data = .fields vs) (hx : XofOk cl cl' a cls d)
    (hT : ∀ q ∈ tb, KxC X.K (cl.at' q.1) ∧ PySem.W.kitOne X.K (.ref (cl.at' q.1)) cv = some q.2) (hcv : ClsV cV cv) (hm : X.mg "isinstance" = none) (hg : Gl (X.suite a ((a, oe) :: pn)) "isinstance") (he : PE (X.suite a ((a, oe) :: pn)) e (tVar i)) (hc : PE (X.suite a ((a, oe) :: pn)) b (tC cV))
    (hs2 : starEach [b] X.env = (false, eval b X.env) :: starEach [] X.env := by rfl) (hs1 : starEach [e, b] X.env = (false, eval e X.env) :: starEach [b] X.env := by rfl) (hpl : (backTo pos (starEach [b] X.env)).any (·.1) = false := by rfl) :
    EJ (X.suite a ((a, oe) :: pn)) cl' vs0 Wx (.Call (.Name "isinstance" p) [e, b] [] pos) (xIsE i tb) := by
  refine ⟨⟨_, pe_callB (call_isX hz hf) hg hm (by decide +kernel) (pa_cons he (pa_cons hc pa_nil hs2) hs1) (by decide) (by decide) hs1 hpl, fun O W σ H ρ Q sr hw => ?_⟩⟩
  unfold xIsE isEO at hw
  split at hw
  · rename_i c fs e0
    split at hw
    · rename_i bb eb
      obtain ⟨bA, p', gs, ev, xb, hp, hn, hr⟩ := sr.slot i _ e0
      obtain ⟨rfl, rfl, rfl⟩ := hx.xof bA c p' xb
      obtain ⟨k1, k2⟩ := hT _ (look_mem eb)
      exact ⟨.ref bA, join_some ev, cV, cv, bb, cl.at' c, p', gs, rfl, hcv, rfl, rfl, hp, k1, k2, hw (.bl bb) O W H Stp.refl sr (by simp only [ResR, Rp])⟩
    · exact hw.elim
  · exact hw.elim
end
@[simp] theorem xIsE_ap (i : Nat) (tb : List (Str × Bool)) (ρ : List SD) : xIsE i tb ρ = isEO ρ tb ρ[i]? := (rfl)
def isEB (ρ : List SD) : Option Bool → Rs (SD × List SD)
  | some b => .ok (.sh (.bl b), ρ)
  | none => .bad
@[simp] theorem isEO_ap (ρ : List SD) (tb : List (Str × Bool)) (c : Str) (fs : List (Str × D)) : isEO ρ tb (some (.xn c fs)) = isEB ρ (tb.lookup c) := by
  show (match tb.lookup c with | some b => Rs.ok (SD.sh (D.bl b), ρ) | none => Rs.bad) = _
  cases tb.lookup c <;> rfl
@[simp] theorem isEB_ap (ρ : List SD) (b : Bool) : isEB ρ (some b) = .ok (.sh (.bl b), ρ) := (rfl)
@[simp] theorem lookB_nil (n : Str) : List.lookup n ([] : List (Str × Bool)) = none := (rfl)
@[simp] theorem lookB_cons (n m : Str) (d : Bool) (r : List (Str × Bool)) : List.lookup n ((m, d) :: r) = if n == m then some d else List.lookup n r := by
  rw [List.lookup]
  cases n == m <;> rfl
/-! ### evaluation: two clauses -/
@[simp] theorem dSeq_ap (f : Sx) (ρ : List SD) : dSeq f ρ = (f ρ).bind fun p => (itemsOf p.1.frz).bind fun xs => .ok (xs, p.2) := (rfl)
@[simp] theorem dRng1_ap (fl : List LOp) (ρ : List SD) : dRng1 fl ρ = (ops fl ρ).bind fun q => dRngA q.2 q.1 := (rfl)
@[simp] theorem dRng2_ap (fl : List LOp) (ρ : List SD) : dRng2 fl ρ = (ops fl ρ).bind fun q => dRngB q.2 q.1 := (rfl)
@[simp] theorem dRngA_ap (ρ : List SD) (j : Int) : dRngA ρ [.int j] = if rngOk j ∧ j.toNat ≤ sizeLine then .ok (rangeD 0 j.toNat, ρ) else .bad := (rfl)
@[simp] theorem dRngB_ap (ρ : List SD) (i j : Int) : dRngB ρ [.int i, .int j] = if rngOk i ∧ rngOk j ∧ (j - i).toNat ≤ sizeLine then .ok (rangeD i (j - i).toNat, ρ) else .bad := (rfl)
def lc2Back (vs : List Nat) (ρ : List SD) : Rs (List D × List SD) → Rs (SD × List SD)
  | .ok (ds, ρ') => if ds.length ≤ sizeLine then .ok (.own ds, backR ρ ρ' vs) else .bad
  | _ => .bad
@[simp] theorem lc2Back_ok (vs : List Nat) (ρ : List SD) (ds : List D) (ρ' : List SD) : lc2Back vs ρ (.ok (ds, ρ')) = if ds.length ≤ sizeLine then .ok (.own ds, backR ρ ρ' vs) else .bad := (rfl)
noncomputable def lc2Go (st : Tg) (test : Sb) (s1 : So) (st1 : Tg) (test1 : Sb) (elt : Sx) (vs vs1 : List Nat) (m : Itm) (ρ : List SD) : Rs (SD × List SD) := if m.keep (wipeR ρ vs) ∧ (∀ b ∈ m.bor, b.1 ∉ vs) then lc2Back vs ρ (lc2L m st test s1 st1 test1 elt vs vs1 m.xs (wipeR ρ vs)) else .bad
@[simp] theorem lc2Go_ap (st : Tg) (test : Sb) (s1 : So) (st1 : Tg) (test1 : Sb) (elt : Sx) (vs vs1 : List Nat) (m : Itm) (ρ : List SD) : lc2Go st test s1 st1 test1 elt vs vs1 m ρ = if m.keep (wipeR ρ vs) ∧ (∀ b ∈ m.bor, b.1 ∉ vs) then lc2Back vs ρ (lc2L m st test s1 st1 test1 elt vs vs1 m.xs (wipeR ρ vs)) else .bad := (rfl)
@[simp] theorem xLc2_ap (src : Src) (st : Tg) (test : Sb) (s1 : So) (st1 : Tg) (test1 : Sb) (elt : Sx) (vs vs1 : List Nat) (ρ : List SD) : xLc2 src st test s1 st1 test1 elt vs vs1 ρ = (src ρ).bind fun p => lc2Go st test s1 st1 test1 elt vs vs1 p.1 p.2 := by
  unfold xLc2 lc2Go
  refine congrArg _ (funext fun p => ?_)
  split
  · unfold lc2Back
    rfl
  · rfl
@[simp] theorem lc2L_nil (m : Itm) (st : Tg) (test : Sb) (s1 : So) (st1 : Tg) (test1 : Sb) (elt : Sx) (vs vs1 : List Nat) (ρ : List SD) : lc2L m st test s1 st1 test1 elt vs vs1 [] ρ = .ok ([], ρ) := (rfl)
/-- each turn of the first clause gives a list -/
theorem lc2_mapL {α : Type} {m : Itm} {st : Tg} {s1 : So} {st1 : Tg} {test1 : Sb} {elt : Sx} {vs vs1 : List Nat} {g : α → D} {f : α → List D} {ρ : List SD} : ∀ {xs : List α}, (∀ x ∈ xs, ∃ ρ1 ys ρ3 ρ4, st (g x) ρ = some ρ1 ∧ s1 ρ1 = .ok (ys, ρ3) ∧ lcL ⟨ys, []⟩ st1 test1 elt vs1 ys (wipeR ρ3 vs1) = .ok (f x, ρ4) ∧ wipeR ρ4 vs = ρ ∧ m.keep ρ) → lc2L m st bYes s1 st1 test1 elt vs vs1 (xs.map g) ρ = .ok ((xs.map f).flatten, ρ)
  | [], _ => rfl
  | x :: xs, h => by
    obtain ⟨ρ1, ys, ρ3, ρ4, e1, e2, e3, e4, e5⟩ := h x (by simp)
    have ih := lc2_mapL (xs := xs) fun y hy => h y (List.mem_cons_of_mem _ hy)
    rw [List.map_cons, lc2L, e1]
    simp only [bYes, e2, e3, e4, e5, if_true, ih]
    rfl
end Wm
end

section
/-! An own class's !=, by its own ==. -/
namespace Wm
open PySem PySem.Spec PyProof.Rows L2
section
variable {prog : Program} {w : World} {A A₀ : Around} {E : Value → Shared → Prop} {s : Shared} {K : PySem.W.Frag} {x C L f : Addr} {h₀ : Heap} {m : Str → Option Value} {ox : Obj} {od : Option Obj} {name : Str} {b tb : Value}
open PySem.W in
theorem ifBound_KB {M : Model} {T id : String} {args : List Value} {Q : Option Value → Shared → Prop} (X : K.In s.heap) (I : InstAt s.heap x ox C od) (hs : findIn K (.ref C) name = some (some (.builtin id))) (S : Slot T name id)
    (h : wpAny M A (call (.builtin id) (.ref x :: args)) (fun v => Q (some v)) E s) : wpAny M A (callSpecialIfBound? (.ref x) name args) Q E s := by
  simp only [callSpecialIfBound?, bindSpecialIfBound?]
  refine wpAny_holding (wpAny_bind (wpAny_bind (wpAny_bind (I.type.here ((looks_findIn X hs).here ?_)))))
  simp only [S.bind]
  refine wpAny_bind (wpAny_askSetting (wpAny_ite ?_))
  have fin : wpAny M A (call (.builtin id) ([.ref x] ++ args) >>= fun v => pure (some v)) Q E s := wpAny_bind (wpAny_mono h (fun v s' h' => wpAny_pure h') fun _ _ h' => h')
  split
  · exact wpAny_bind (wpAny_pure (wpAny_pure fin))
  · exact wpAny_tryCatch (wpAny_bind (wpAny_pure (wpAny_pure fin)))
open PySem.W in
theorem objNe_K {Q : Fin → Shared → Prop} (hu : A.units < cLine) (X : K.In s.heap) (I : InstAt s.heap x ox C od) (hs : findIn K (.ref C) "__eq__" = some (some (.ref f))) (hf : isFn K (.ref f) = true)
    (h : wpAny (model prog w) A (call (.ref f) [.ref x, b]) (fun v s' => ∃ r, v = .bool r ∧ Q (.done (.ret (.bool (!r)))) s') E s) : wpAny (model prog w) A (Builtin.«object.__ne__» ⟨[.ref x, b], []⟩) Q E s := by
  unfold Builtin.«object.__ne__»
  refine wpAny_bind (wpAny_of_eq (a := ((Value.ref x : Value), [b])) (by first | rfl | (simp only [slotArgs]; rfl)) ?_)
  refine wpAny_bind (wpAny_cRoomFor hu ?_)
  refine wpAny_bind (ifBound_K X I hs hf (wpAny_mono h (fun v s' hv => ?_) fun _ _ e => e))
  obtain ⟨r, rfl, hq⟩ := hv
  exact wpAny_bind (wpAny_truthy_bool (wpAny_pure hq))
open PySem.W in
theorem cmpNe_K {Q : Value → Shared → Prop} (hu : A.units + 1 < cLine) (F : Fr h₀ L s.heap m) (X₀ : K.In h₀) (I : InstAt s.heap x ox C od) (hb : Looks (model prog w) s.heap (typeOf b) tb) (hn : notFirst K C tb = true)
    (hne : findIn K (.ref C) "__ne__" = some (some (.builtin "object.__ne__"))) (hob : subIn K (.ref C) (.type "object") = some true) (hs : findIn K (.ref C) "__eq__" = some (some (.ref f))) (hf : isFn K (.ref f) = true)
    (h : wpAny (model prog w) A.in1 (call (.ref f) [.ref x, b]) (fun v s' => ∃ r, v = .bool r ∧ Q (.bool (!r)) s') E s) : wpAny (model prog w) A (richCompare .NotEq (.ref x) b) Q E s := by
  have X := X₀.keeps F.keep
  have one : wpAny (model prog w) A (tryCompare (.ref x) "__ne__" b) (fun r s' => ∃ v, r = some v ∧ Q v s') E s := by
    unfold tryCompare
    have S : Slot "range_iterator" "__ne__" "object.__ne__" := PySem.F.slot_range_iterator_ne
    have sub : Looks (model prog w) s.heap (isInstance (.ref x) (.type "object")) true := (I.type (M := model prog w)).andThen (looks_subIn X hob)
    refine wpAny_bind (ifBound_KB X I hne S (wpAny_call (codeAny_call_builtin S.plain PySem.F.cmpEntry_ne ?_)))
    refine @check_slot (model prog w) _ _ s "object.__ne__" "object" "__ne__" (.ref x) [b] [] _ PySem.F.cmpKind_ne PySem.F.cmpSplit_ne sub (PySem.F.cmpArgs_ne _ _) ?_
    refine objNe_K (A := A.in1) hu X I hs hf (wpAny_mono h (fun v s' hv => ?_) fun _ _ e => e)
    obtain ⟨r, rfl, hq⟩ := hv
    exact ⟨r, rfl, wpAny_pure ⟨_, rfl, hq⟩⟩
  unfold richCompare
  simp only [oneThing_ref]
  refine wpAny_holding (wpAny_bind (wpAny_cRoomFor (Nat.lt_of_succ_lt hu) ?_))
  rw [cmpInfo_NotEq]
  dsimp only
  refine wpAny_bind (I.type.here (wpAny_bind (hb.here ?_)))
  split
  · rename_i q
    have e : subIn K tb (.ref C) = some false := by
      rcases Bool.or_eq_true_iff.mp hn with e | e
      · rw [beq_iff_eq.mp e] at q; simp at q
      · exact beq_iff_eq.mp e
    refine wpAny_bind ((looks_subIn X e).here ?_)
    simp only [Bool.false_eq_true, if_false]
    refine wpAny_bind (wpAny_mono one (fun r s' z => ?_) fun _ _ e => e)
    obtain ⟨v, rfl, hq⟩ := z
    exact wpAny_pure hq
  · refine wpAny_bind (wpAny_pure ?_)
    simp only [Bool.false_eq_true, if_false]
    refine wpAny_bind (wpAny_mono one (fun r s' z => ?_) fun _ _ e => e)
    obtain ⟨v, rfl, hq⟩ := z
    exact wpAny_pure hq
end
section
variable {X : Cx} {cl : Cl} {vs0 : List V} {Wx : WX} {a b c e : Expr} {pos p2 : Pos} {fl : List LOp}
theorem run_fnA {CX : CXT} {k : Nat} {f : Addr} {fd : FuncData} {ps : List Str} {sp : Sp} {E : L2.St → XK} {A : Around} {pins : List (Addr × Obj)} {σ : L2.St} {H : Hp} {s : Shared} {Q : VK} {us : List Value} {vs : List V} (F : FnOk X.prog X.w X.K X.mg X.base CX k f fd ps sp) (sb : L2.Sub X k A) (hb : Binds X.K fd ps []) (hx : PassesAt CX X σ (E σ))
    (I : Inv X pins σ H s) (r : Vals vs us) (h : sp vs H Q (E σ)) : wpAny (model X.prog X.w) A (call (.ref f) us) (EP X pins σ Q) X.xe s := by
  have hl : us.length = ps.length := by rw [← r.length]; exact F.len _ _ _ _ h
  have b := hb s us I.kIn (by rw [List.append_nil]; exact hl)
  rw [List.append_nil] at b
  have e0 : Env0 X.prog X.w X.K X.mg X.base A X.stack s H := by
    have e := I.env0
    exact ⟨by rw [sb.fr]; exact e.frames, e.mod, e.bs, e.bsz, e.funs, e.frf, e.hok, e.bare⟩
  refine wpAny_call (codeAny_mono (F.run A X.stack s H ⟨us, []⟩ us vs Q (E σ) sb.room e0 b r h) fun r s' hq => ?_)
  cases r with
  | error e => exact hx pins H s e s' I hq
  | ok fl =>
    cases fl with
    | ret u => exact I.after hq
    | next => exact False.elim hq
    | brk => exact False.elim hq
    | cont => exact False.elim hq
structure NeC (K : PySem.W.Frag) (C : Addr) : Prop where
  ne : PySem.W.findIn K (.ref C) "__ne__" = some (some (.builtin "object.__ne__"))
  ob : PySem.W.subIn K (.ref C) (.type "object") = some true
  nt : PySem.W.subIn K (.type "tuple") (.ref C) = some false
def neR : Rs (SD × List SD) → Rs (SD × List SD)
  | .ok (.sh (.bl b), ρ) => .ok (.sh (.bl (!b)), ρ)
  | _ => .bad
def neF (c : Str) (F : Fn) : Fn := fun as => match as with
  | [.sh (.ins c1 f1), .sh (.ins c2 f2)] => if c1 = c ∧ c2 = c then neR (F [.sh (.ins c1 f1), .sh (.ins c2 f2)]) else .bad
  | [.sh (.ins c1 f1), .sh (.tup ds)] => if c1 = c then neR (F [.sh (.ins c1 f1), .sh (.tup ds)]) else .bad
  | _ => .bad
theorem aft_neR {G : Gx} {vs : List V} {O W : List Addr} {σ : L2.St} {H : Hp} {Q : VK} {Wx : WX} : ∀ {r : Rs (SD × List SD)}, AftE G vs Wx O W σ H Q (neR r) → AftE G vs Wx O W σ H (fun v H' => ∃ b, v = .bl b ∧ Q (.bl (!b)) H') r
  | .ok (.sh (.bl b), ρ), h => fun v O' W' H' st sr rr => by
    have e : v = .bl b := by simpa only [ResR, Rp] using rr
    exact ⟨b, e, h (.bl (!b)) O' W' H' st sr (by simp only [ResR, Rp])⟩
  | .ok (.sh .non, ρ), h => h.elim
  | .ok (.sh (.int _), ρ), h => h.elim
  | .ok (.sh (.str _), ρ), h => h.elim
  | .ok (.sh (.tup _), ρ), h => h.elim
  | .ok (.sh (.lst _), ρ), h => h.elim
  | .ok (.sh (.ins _ _), ρ), h => h.elim
  | .ok (.sh (.scr _), ρ), h => h.elim
  | .ok (.sh (.dct _), ρ), h => h.elim
  | .ok (.no, ρ), h => h.elim
  | .ok (.own _, ρ), h => h.elim
  | .ok (.byr _, ρ), h => h.elim
  | .ok (.xn _ _, ρ), h => h.elim
  | .ok (.gv, ρ), h => h.elim
  | .exc _ _ _, h => h.elim
  | .bad, h => h.elim
theorem neO_run {k : Nat} {f : Addr} {fd : FuncData} {ps : List Str} {c : Str} {F : Fn} (nc : NeC X.K (cl.at' c)) (hm : Meth X.K (cl.at' c) "__eq__" f) (hF : FnOk X.prog X.w X.K X.mg X.base (L2.CX X.prog X.w) k f fd ps (spF (gx X cl) 2 F)) (hr : Room (k + 1) X.A) (hb : Binds X.K fd ps []) (tk : Takes X Wx) {pins : List (Addr × Obj)} {s2 : Shared} {σ : L2.St} {H2 : Hp} {x y : V} {v u : Value} {Q : VK} (I2 : Inv X pins σ H2 s2) (rx : RelV x v) (ry : RelV y u)
    (q : spF (gx X cl) 2 (neF c F) [x, y] H2 Q fun cc d H' => Wx cc d σ H') : wpAny (model X.prog X.w) X.A (compareOp .NotEq v u) (EP X pins σ Q) X.xe s2 := by
  obtain ⟨_, O, W, as, sr, af⟩ := q
  have hu : X.A.units + 1 < cLine := hr.in1.units0
  unfold neF at af
  split at af
  · rename_i c1 f1 c2 f2
    split at af
    · rename_i hc
      obtain ⟨rfl, rfl⟩ := hc
      obtain ⟨v0, e0, r0⟩ := sr.slot 0 _ rfl
      obtain ⟨v1, e1, r1⟩ := sr.slot 1 _ rfl
      have e0 : x = v0 := by simpa using e0
      have e1 : y = v1 := by simpa using e1
      subst e0 e1
      simp only [Rp] at r0 r1
      obtain ⟨aa, dx, fs, rfl, ha, _, _⟩ := r0
      obtain ⟨bb, dy, gs, rfl, hb', _, _⟩ := r1
      have rx' : v = Value.ref aa := rx
      have ry' : u = Value.ref bb := ry
      subst rx' ry'
      obtain ⟨mA, J, _⟩ := ins_get I2.hok ha
      obtain ⟨mB, J', _⟩ := ins_get I2.hok hb'
      obtain ⟨od, J, _⟩ := J.look
      obtain ⟨od', J', _⟩ := J'.look
      obtain ⟨m, hFr⟩ := I2.fr
      show wpAny (model X.prog X.w) X.A (richCompare .NotEq (.ref aa) (.ref bb)) (EP X pins σ Q) X.xe s2
      refine cmpNe_K (tb := .ref (cl.at' c2)) hu hFr I2.ok.mod.kin J J'.type (by simp [PySem.W.notFirst]) nc.ne nc.ob hm.at_ hm.fn ?_
      have r2 : Vals [V.ref aa, V.ref bb] [Value.ref aa, Value.ref bb] := .cons rfl (.cons rfl .nil)
      refine wpAny_mono (run_fnA (A := X.A.in1) (E := fun σ cc d H' => Wx cc d σ H') hF ⟨hr.in1, rfl⟩ hb (passAt tk σ) I2 r2 ⟨rfl, O, W, _, sr, aft_neR af⟩) (fun w s3 z => ?_) fun _ _ x => x
      obtain ⟨z1, H3, I3, rz, bv, ez, qz⟩ := z
      subst ez
      have rz' : w = Value.bool bv := rz
      subst rz'
      exact ⟨bv, rfl, .bl (!bv), H3, I3, rfl, qz⟩
    · exact af.elim
  · rename_i c1 f1 ds
    split at af
    · rename_i hc
      subst hc
      obtain ⟨v0, e0, r0⟩ := sr.slot 0 _ rfl
      obtain ⟨v1, e1, r1⟩ := sr.slot 1 _ rfl
      have e0 : x = v0 := by simpa using e0
      have e1 : y = v1 := by simpa using e1
      subst e0 e1
      simp only [Rp] at r0 r1
      obtain ⟨aa, dx, fs, rfl, ha, _, _⟩ := r0
      obtain ⟨bb, vs, rfl, to, _⟩ := r1
      have rx' : v = Value.ref aa := rx
      have ry' : u = Value.ref bb := ry
      subst rx' ry'
      obtain ⟨mA, J, _⟩ := ins_get I2.hok ha
      obtain ⟨od, J, _⟩ := J.look
      obtain ⟨m, hFr⟩ := I2.fr
      obtain ⟨its, rv, pl, hz⟩ := I2.tuple to.sq
      obtain ⟨ob, hob, hoc, _⟩ := pl
      have hT : PySem.W.Looks (model X.prog X.w) s2.heap (typeOf (.ref bb)) (.type "tuple") := hoc ▸ (PySem.W.Looks.ld hob).andThen .now
      show wpAny (model X.prog X.w) X.A (richCompare .NotEq (.ref aa) (.ref bb)) (EP X pins σ Q) X.xe s2
      refine cmpNe_K (tb := .type "tuple") hu hFr I2.ok.mod.kin J hT (by unfold PySem.W.notFirst; rw [nc.nt]; rfl) nc.ne nc.ob hm.at_ hm.fn ?_
      have r2 : Vals [V.ref aa, V.ref bb] [Value.ref aa, Value.ref bb] := .cons rfl (.cons rfl .nil)
      refine wpAny_mono (run_fnA (A := X.A.in1) (E := fun σ cc d H' => Wx cc d σ H') hF ⟨hr.in1, rfl⟩ hb (passAt tk σ) I2 r2 ⟨rfl, O, W, _, sr, aft_neR af⟩) (fun w s3 z => ?_) fun _ _ x => x
      obtain ⟨z1, H3, I3, rz, bv, ez, qz⟩ := z
      subst ez
      have rz' : w = Value.bool bv := rz
      subst rz'
      exact ⟨bv, rfl, .bl (!bv), H3, I3, rfl, qz⟩
    · exact af.elim
  · exact af.elim
theorem ej_neO {k : Nat} {f : Addr} {fd : FuncData} {ps : List Str} {c : Str} {F : Fn} (nc : NeC X.K (cl.at' c)) (hm : Meth X.K (cl.at' c) "__eq__" f) (hF : FnOk X.prog X.w X.K X.mg X.base (L2.CX X.prog X.w) k f fd ps (spF (gx X cl) 2 F)) (hr : Room (k + 1) X.A) (hb : Binds X.K fd ps []) (tk : Takes X Wx) (h : KJ X cl vs0 Wx [a, b] fl) (hn : fl.length = 2) (hmk : behindInMarks .NotEq b = false := by rfl) :
    EJ X cl vs0 Wx (.Compare a [.NotEq] [b] pos) (xCall (neF c F) fl) := by
  obtain ⟨ts, pes, pa, q⟩ := h.ex
  cases pes with
  | cons p1 pes =>
    cases pes with
    | cons p2 pes =>
      cases pes
      rename_i ta tb
      refine ⟨⟨fun σ H Q => ta σ H fun x H1 => tb σ H1 fun y H2 => spF (gx X cl) 2 (neF c F) [x, y] H2 Q fun cc d H' => Wx cc d σ H', ⟨fun pins s σ H Q I h => ?_⟩, fun O W σ H ρ Q sr hw => ?_⟩⟩
      · exact wpAny_Compare1 (binT p1 p2 I h fun v u s2 x y H2 I2 rx ry q => neO_run nc hm hF hr hb tk I2 rx ry q) hmk
      · have z := call_core (F := neF c F) hn q O W σ H ρ Q (fun vs H1 => spF (gx X cl) 2 (neF c F) vs H1 Q fun cc d H' => Wx cc d σ H') sr hw fun _ _ h => h
        exact z
theorem tj_neO {k : Nat} {f : Addr} {fd : FuncData} {ps : List Str} {c : Str} {F : Fn} (nc : NeC X.K (cl.at' c)) (hm : Meth X.K (cl.at' c) "__eq__" f) (hF : FnOk X.prog X.w X.K X.mg X.base (L2.CX X.prog X.w) k f fd ps (spF (gx X cl) 2 F)) (hr : Room (k + 1) X.A) (hb : Binds X.K fd ps []) (tk : Takes X Wx) (h : KJ X cl vs0 Wx [a, b] fl) (hn : fl.length = 2) (hmk : behindInMarks .NotEq b = false := by rfl) :
    TJ X cl vs0 Wx (.Compare a [.NotEq] [b] pos) (bT (xCall (neF c F) fl)) := by
  obtain ⟨ts, pes, pa, q⟩ := h.ex
  cases pes with
  | cons p1 pes =>
    cases pes with
    | cons p2 pes =>
      cases pes
      rename_i ta tb
      refine ⟨⟨tTest fun σ H Q => ta σ H fun x H1 => tb σ H1 fun y H2 => spF (gx X cl) 2 (neF c F) [x, y] H2 Q fun cc d H' => Wx cc d σ H', ⟨fun pins s σ H Q I h => ?_⟩, fun O W σ H ρ Q sr hw => ?_⟩⟩
      · refine wpAny_isTrue_Compare1 (thn (p1.run pins s σ H _ I h) fun v s1 ⟨x, H1, I1, r1, q1⟩ => thn (p2.run pins s1 σ H1 _ I1 q1) fun u s2 ⟨y, H2, I2, r2, q2⟩ =>
          thn (neO_run nc hm hF hr hb tk I2 r1 r2 q2) fun c s3 ⟨z, H3, I3, r3, k, e, q3⟩ => ?_) hmk
        subst e
        cases r3
        exact wpAny_truthy_bool ⟨H3, I3, q3⟩
      · have z := fun Q hw => call_core (F := neF c F) hn q O W σ H ρ Q (fun vs H1 => spF (gx X cl) 2 (neF c F) vs H1 Q fun cc d H' => Wx cc d σ H') sr hw fun _ _ h => h
        exact z _ (tst_core hw)
end
@[simp] theorem neF_ins (c : Str) (F : Fn) (f1 f2 : List (Str × D)) : neF c F [.sh (.ins c f1), .sh (.ins c f2)] = neR (F [.sh (.ins c f1), .sh (.ins c f2)]) := by
  show (if c = c ∧ c = c then _ else _) = _
  rw [if_pos ⟨rfl, rfl⟩]
@[simp] theorem neF_tup (c : Str) (F : Fn) (f1 : List (Str × D)) (ds : List D) : neF c F [.sh (.ins c f1), .sh (.tup ds)] = neR (F [.sh (.ins c f1), .sh (.tup ds)]) := by
  show (if c = c then _ else _) = _
  rw [if_pos rfl]
@[simp] theorem neR_bl (b : Bool) (ρ : List SD) : neR (.ok (.sh (.bl b), ρ)) = .ok (.sh (.bl (!b)), ρ) := (rfl)
end Wm
end

section
/-! t[::-1] of tuples; x.f().append(None). -/
namespace Wm
open PySem PySem.Spec PyProof.Rows L2
section
variable {prog : Program} {w : World} {A : Around} {E : Value → Shared → Prop} {s : Shared}
theorem adj_rev (n : Nat) : Builtin.Slice.sliceAdjust none none (-1) (n : Int) = ((n : Int) - 1, -1) := by
  first
  | rfl
  | simp [Builtin.Slice.sliceAdjust]
theorem places_rev (n : Nat) : Builtin.Slice.slicePlaces ((n : Int) - 1) (-1) (-1) = n := by
  unfold Builtin.Slice.slicePlaces
  have h1 : ¬ ((-1 : Int) > 0) := by decide
  by_cases h : (n : Int) - 1 > -1
  · simp only [h1, if_false, h, if_true]
    rw [show (- -1 : Int) = 1 by decide]
    omega
  · have e : n = 0 := by omega
    subst e
    simp
theorem applied_rev {sl : Addr} {vl vu vk : Value} {n : Nat} {Q : Int × Int × Nat → Shared → Prop} (hs : s.heap.IsSliceOf sl vl vu vk) (pl : IsPart vl none) (pu : IsPart vu none) (pk : IsPart vk (some (-1)))
    (h : Q ((n : Int) - 1, -1, n) s) : wpAny (model prog w) A (Builtin.Slice.sliceApplied (.ref sl) (pure (n : Int))) Q E s := by
  obtain ⟨os, hos, hcs, hds⟩ := id hs
  unfold Builtin.Slice.sliceApplied Builtin.Slice.sliceFields
  refine wpAny_bind (wpAny_bind (wpAny_field hos hds (x := vl) rfl (wpAny_bind (wpAny_field hos hds (x := vu) rfl (wpAny_bind (wpAny_field hos hds (x := vk) rfl (wpAny_pure ?_)))))))
  refine wpAny_bind (HT.slicePart_ pk ?_)
  show wpAny _ _ (if ((-1 : Int) == 0) = true then _ else _) _ _ s
  rw [if_neg (by decide)]
  refine wpAny_bind (HT.slicePart_ pl (wpAny_bind (HT.slicePart_ pu (wpAny_bind (wpAny_pure ?_)))))
  show wpAny _ _ (match Builtin.Slice.sliceAdjust none none (-1) (n : Int) with | (lo, hi) => pure (lo, (-1 : Int), Builtin.Slice.slicePlaces lo hi (-1))) _ _ s
  rw [adj_rev n]
  show wpAny _ _ (pure ((n : Int) - 1, (-1 : Int), Builtin.Slice.slicePlaces ((n : Int) - 1) (-1) (-1))) _ _ s
  rw [places_rev]
  exact wpAny_pure h
theorem fm_congr {α β : Type} {f g : α → Option β} : ∀ {l : List α}, (∀ x ∈ l, f x = g x) → l.filterMap f = l.filterMap g
  | [], _ => rfl
  | x :: l, h => by
    rw [List.filterMap_cons, List.filterMap_cons, h x (List.mem_cons_self ..), fm_congr (l := l) fun y m => h y (List.mem_cons_of_mem _ m)]
theorem pick_rev (xs : Array Value) : ((List.range xs.size).filterMap fun (m : Nat) => xs[(((xs.size : Int) - 1) + (m : Int) * -1).toNat]?).toArray = xs.toList.reverse.toArray := by
  congr 1
  rw [← PySem.W.krv_all xs, ← List.filterMap_reverse, ← PySem.W.krv_range, List.filterMap_map]
  refine fm_congr fun m hm => ?_
  have := List.mem_range.mp hm
  simp only [Function.comp]
  rw [show (((xs.size : Int) - 1) + (m : Int) * -1).toNat = xs.size - 1 - m by omega]
theorem getItem_tuple_rev {t sl : Addr} {items : Array Value} {vl vu vk : Value} {Q : Value → Shared → Prop} (ht : IsTup s.heap t items) (hs : s.heap.IsSliceOf sl vl vu vk) (pl : IsPart vl none) (pu : IsPart vu none) (pk : IsPart vk (some (-1)))
    (h : Q (.ref s.heap.objs.size) { s with heap := s.heap.push { cls := .type "tuple", data := .seq items.toList.reverse.toArray } })
    (hsz : items.size ≤ sizeLine) : wpAny (model prog w) A (getItem (.ref t) (.ref sl)) Q E s := by
  have htake : sizeOk (.seq items.toList.reverse.toArray) := by
    show items.toList.reverse.toArray.size ≤ sizeLine
    rw [List.size_toArray, List.length_reverse, Array.length_toList]
    omega
  obtain ⟨os, hos, hcs, hds⟩ := id hs
  have hTs : s.TypeIs (.ref sl) "slice" := ⟨os, hos, hcs⟩
  unfold getItem
  try with_reducible refine wpAny_holding ?_
  first | refine wpAny_bind (wpAny_pure ?_) | skip
  refine wpAny_bind (wpAny_sequenceKey ht.typeIs (by decide) ?_)
  refine wpAny_bind (wpAny_callSpecial?_slot (name := Str.ofString "__getitem__") ht.typeIs PyProof.Rows.slot_tuple_getitem
    (wpAny_call_entry PyProof.Rows.slot_tuple_getitem ht.typeIs entry_tuple_getitem ?_ (args_tuple_getitem _ _)))
  show wpAny _ _ (Builtin.Tuple.tupleItemsOf (.ref t) >>= _) _ _ s
  refine wpAny_bind (tupleItemsOf_ ht ?_)
  refine wpAny_bind (wpAny_typeOf hTs ?_)
  rw [if_pos (by decide)]
  refine wpAny_bind (applied_rev hs pl pu pk ?_)
  have hno : ¬ ((((items.size : Int) - 1) == 0 && (-1 : Int) == 1 && items.size == items.size) = true) := by
    intro q
    rw [Bool.and_eq_true, Bool.and_eq_true] at q
    have := q.1.2
    exact absurd this (by decide)
  show wpAny _ _ (if ((((items.size : Int) - 1) == 0 && (-1 : Int) == 1 && items.size == items.size) = true) then _ else _) _ _ s
  rw [if_neg hno, pick_rev]
  first
    | exact wpAny_bind (m := Builtin.Tuple.tupleExact _) (wpAny_newObj_type (wpAny_pure ⟨_, rfl, wpAny_pure h⟩) htake)
    | exact wpAny_bind (m := Builtin.Tuple.tupleExact _) (wpAny_newObj_type (wpAny_bind (wpAny_pure (wpAny_pure ⟨_, rfl, wpAny_pure h⟩))) htake)
    | exact wpAny_bind (wpAny_bind (m := Builtin.Tuple.tupleExact _) (wpAny_newObj_type (wpAny_pure (wpAny_pure ⟨_, rfl, wpAny_pure h⟩)) htake))
    | exact wpAny_bind (wpAny_bind (m := Builtin.Tuple.tupleExact _) (wpAny_newObj_type (wpAny_pure ⟨_, rfl, wpAny_pure h⟩) htake))
end
section
variable {X : Cx} {cl : Cl} {vs0 : List V} {Wx : WX}
def rRev (K : PySem.W.Frag) (x : V) (H : Hp) (Q : VK) : Prop :=
  (∃ a xs, x = .ref a ∧ SqL K H a xs ∧ ∀ p, H p = none → Q (.ref p) (upd H p (.lst xs.reverse))) ∨ (∃ a xs, x = .ref a ∧ SqT K H a xs ∧ ∀ p, H p = none → Q (.ref p) (upd H p (.tup xs.reverse)))
theorem pe_revA {e : Expr} {te : TE} {k : Nat} {p1 p2 p3 pos : Pos} (he : PE X e te) : PE X (.Subscript e (.Slice none none (some (.UnaryOp .USub (.Constant (.int 1) k p1) p2)) p3) pos) (fun σ H Q => te σ H fun x H1 => rRev X.K x H1 Q) := by
  refine ⟨fun pins s σ H Q I h => ?_⟩
  refine Subscript_ (thn (he.run pins s σ H _ I h) fun v s1 ⟨x, H1, I1, r1, q1⟩ => ?_)
  have ⟨a, ex⟩ : ∃ a, x = .ref a := by
    rcases q1 with ⟨a, _, e, _⟩ | ⟨a, _, e, _⟩
    · exact ⟨a, e⟩
    · exact ⟨a, e⟩
  subst ex
  cases r1
  have hst : PO X (some (.UnaryOp .USub (.Constant (.int 1) k p1) p2)) (tPart (tUn (rU fun i => .int (-i)) (tC (.int 1)))) := po_some (pe_un un_neg pe_int)
  refine wpAny_Slice (thn (po_none.run pins s1 σ H1 (fun o H2 => o = none ∧ H2 = H1) I1 ⟨rfl, rfl⟩) fun vl s2 ⟨l, H2, I2, pl, el, e2⟩ => ?_)
  subst el e2
  refine thn (po_none.run pins s2 σ H2 (fun o H3 => o = none ∧ H3 = H2) I2 ⟨rfl, rfl⟩) fun vu s3 ⟨u, H3, I3, pu, eu, e3⟩ => ?_
  subst eu e3
  refine thn (hst.run pins s3 σ H3 (fun o H4 => o = some (-1) ∧ H4 = H3) I3 ⟨1, rfl, -1, rfl, rfl, rfl⟩) fun vs s4 ⟨o, H4, I4, ps, eo, e4⟩ => ?_
  subst eo e4
  have I5 : Inv X pins σ H4 { s4 with heap := s4.heap.push { cls := .type "slice", data := .fields #[vl, vu, vs] } } := I4.kept (t' := s4.toks) fun b ob q => Heap.get?_push_of_some _ q
  show wpAny (model X.prog X.w) X.A (subscriptTail e (.Slice none none (some (.UnaryOp .USub (.Constant (.int 1) k p1) p2)) p3) (.ref a) (.ref s4.heap.objs.size)) (EP X pins σ Q) X.xe { s4 with heap := s4.heap.push { cls := .type "slice", data := .fields #[vl, vu, vs] } }
  rcases q1 with ⟨a', xs, ea, hx, q⟩ | ⟨a', xs, ea, hx, q⟩
  · cases ea
    obtain ⟨its, r, ht, hz⟩ := I5.list hx
    have hlen := r.length
    refine tail_any (ops := [.ref a, .ref s4.heap.objs.size]) ht.isList.typeIs (PySem.slot_list_getitem.lookup) ?_ (by with_unfolding_all rfl)
    refine wpAny_getItem_list_slice ht.isList (Heap.IsSliceOf.new _ vl vu vs) pl pu ps (by decide) ?_ (by rw [List.size_toArray]; omega)
    rw [PySem.W.krv_pick]
    refine ⟨.ref _, _, I5.laid (t' := s4.toks) (o := .lst xs.reverse) (fun b ob q => Heap.get?_push_of_some _ q) (Nat.le_refl _) ?_, rfl, q _ (I5.hok.fresh (Nat.le_refl _))⟩
    exact ⟨by rw [List.length_reverse]; exact hz, _, 0, r.reverse, Heap.get?_push_size _ rfl⟩
  · cases ea
    obtain ⟨its, r, ht, hz⟩ := I5.tuple hx
    have hlen := r.length
    refine tail_any (ops := [.ref a, .ref s4.heap.objs.size]) ht.typeIs (PyProof.Rows.slot_tuple_getitem.lookup) ?_ (by with_unfolding_all rfl)
    refine getItem_tuple_rev ht (Heap.IsSliceOf.new _ vl vu vs) pl pu ps ?_ (by rw [List.size_toArray]; omega)
    refine ⟨.ref _, _, I5.laid (t' := s4.toks) (o := .tup xs.reverse) (fun b ob q => Heap.get?_push_of_some _ q) (Nat.le_refl _) ?_, rfl, q _ (I5.hok.fresh (Nat.le_refl _))⟩
    exact ⟨by rw [List.length_reverse]; exact hz, _, r.reverse, IsTup.new _ _⟩
def pRevA : List D → Rs SD
  | [.lst xs] => .ok (.own xs.reverse)
  | [.tup xs] => .ok (.sh (.tup xs.reverse))
  | _ => .bad
@[simp] theorem pRevA_lst (xs : List D) : pRevA [.lst xs] = .ok (.own xs.reverse) := (rfl)
@[simp] theorem pRevA_tup (xs : List D) : pRevA [.tup xs] = .ok (.sh (.tup xs.reverse)) := (rfl)
theorem ej_revA {a : Expr} {fl : List LOp} {pos : Pos} {k : Nat} {p1 p2 p3 : Pos} (h : OJ X cl vs0 Wx [a] fl) : EJ X cl vs0 Wx (.Subscript a (.Slice none none (some (.UnaryOp .USub (.Constant (.int 1) k p1) p2)) p3) pos) (xPrim fl pRevA) := by
  obtain ⟨ta, ha, q⟩ := one_of h
  refine ⟨⟨_, pe_revA ha, prim_core (rd := rd1 fun x H Q => rRev X.K x H Q) (fun O W H ds vs Q w ho hp => ?_) q⟩⟩
  unfold pRevA at hp
  split at hp
  · obtain ⟨x, rfl, h1⟩ := ho.one
    obtain ⟨a, vs, rfl, h2, h3, h4⟩ := h1.lst
    exact .inl ⟨a, vs, rfl, SqL.of h2, fun p n => hp p _ _ (same_upd n) n upd_same (by rw [List.length_reverse]; exact h3) h4.rev⟩
  · obtain ⟨x, rfl, h1⟩ := ho.one
    obtain ⟨a, vs, rfl, h2, h4⟩ := h1.tup
    exact .inr ⟨a, vs, rfl, h2.sq, fun p n => hp _ _ (same_upd n) (rp_tup w n (by rw [List.length_reverse]; exact h2.1) h4.rev)⟩
  · exact hp.elim
/-- a list just told, written and forgotten -/
theorem SR.offW {G : Gx} {O W : List Addr} {σ : L2.St} {H : Hp} {ρ : List SD} {a : Addr} (r : SR G vs0 O W σ H ρ) (hn : ∀ (i : Nat) (s : SD), ρ[i]? = some s → s.mine = true → σ[i]? ≠ some (some (.ref a))) : SR G vs0 O (Wm.off a W) σ H ρ := by
  refine ⟨⟨fun b hb => r.wf.sub b (mem_off.mp hb).1, r.wf.trk⟩, r.len, fun i s e => ?_, r.apart, r.tabs⟩
  have q := r.slot i s e
  have nn := hn i s e
  have own : ∀ {b xs}, b ≠ a → OwnAt G O W H b xs → OwnAt G O (Wm.off a W) H b xs := fun {b xs} n h => ⟨mem_off.mpr ⟨h.1, n⟩, h.2⟩
  cases s with
  | no => trivial
  | sh d => exact q
  | own xs =>
    obtain ⟨b, e, r⟩ := q
    refine ⟨b, e, own (fun z => nn rfl ?_) r⟩
    subst z
    cases hh : σ[i]? with
    | none => rw [hh] at e; cases e
    | some o => rw [hh] at e; exact congrArg some e
  | byr xs =>
    obtain ⟨b, e, e0, r⟩ := q
    refine ⟨b, e, e0, own (fun z => nn rfl ?_) r⟩
    subst z
    cases hh : σ[i]? with
    | none => rw [hh] at e; cases e
    | some o => rw [hh] at e; exact congrArg some e
  | xn c fs => exact q
  | gv => exact q
def sAppT (f : Sx) : Ss := fun ρ => (f ρ).bind fun p => match p.1 with
  | .own xs => if xs.length < sizeLine then .ok (.nx p.2) else .bad
  | _ => .bad
theorem sj_appT {ex : Expr} {f : Sx} {j : Nat} {pos apos cpos p1 : Pos} (h : EJ X cl vs0 Wx ex f)
    (hbase : attributeBase ex "append" X.env (eval ex X.env) = eval ex X.env := by rfl)
    (hfew : ((backTo cpos (starEach [.Constant .none j p1] X.env)).all (fun x => !x.1) && (backToKw cpos (keywordEach [] X.env)).all (fun x => x.1.isSome)
      && decide ([Expr.Constant .none j p1].length + ([] : List Keyword).length + (if ([] : List Keyword).isEmpty then 0 else 1) < 30)) = true := by rfl)
    (hline : (apos.endLine == cpos.line) = true := by rfl) (hs : starEach [.Constant .none j p1] X.env = (false, eval (.Constant .none j p1) X.env) :: starEach [] X.env := by rfl) (hplain : (backTo cpos (starEach [] X.env)).any (·.1) = false := by rfl)
    (hsw : swapsWith (.Call (.Attribute ex "append" apos) [.Constant .none j p1] [] cpos) none pos.line X.env = pure false := by rfl) :
    SJ X cl vs0 Wx (.Expr (.Call (.Attribute ex "append" apos) [.Constant .none j p1] [] cpos) pos) (sAppT f) := by
  obtain ⟨t, p, q⟩ := h.ex
  refine ⟨⟨_, ps_expr (pe_bm PySem.F.plainAttrs_list PySem.F.slot_list_append PySem.F.type_list_append mt_append p (pa_cons pe_non pa_nil hs) hbase hfew hline hs hplain) hsw, fun O W σ H ρ E sr hw => ?_⟩⟩
  unfold sAppT at hw
  refine q O W σ H ρ _ sr (e_core sr.wf hw fun v s ρ1 O1 W1 H1 sr1 rr hk => ?_)
  cases s with
  | own xs =>
    have hk : AftS (gx X cl) vs0 Wx O1 W1 H1 E (if xs.length < sizeLine then .ok (.nx ρ1) else .bad) := hk
    obtain ⟨a, rfl, ⟨oW, us, h2, h3, h4⟩, hn⟩ := rr
    split at hk
    · rename_i hz
      have hl : us.length < sizeLine := by rw [← h4.length]; exact hz
      have st : Stp O1 W1 H1 O1 (off a W1) (upd H1 a (.lst (us ++ [.non]))) := ⟨fun b o e hb _ => by rw [upd_ne (show b ≠ a from fun z => hb (by rw [z]; exact oW))]; exact e, fun b hb => .inl (mem_off.mp hb).1, fun _ h => .inl h, fun b hb => noD_upd hb, fun _ h _ => h⟩
      have sr2 := ((sr1.offW hn).grow (p := a) (o' := .lst (us ++ [.non])) (sr1.wf.sub a oW) (fun z => (mem_off.mp z).2 rfl) h2).1
      exact ⟨.inl ⟨rfl, _, SqL.of h2⟩, a, us, .non, rfl, rfl, h2, hl, hk σ O1 (off a W1) _ st sr2⟩
    · exact hk.elim
  | _ => exact hk.elim
theorem sAppT_own (f : Sx) (ρ ρ' : List SD) (xs : List D) (h : f ρ = .ok (.own xs, ρ')) (hl : xs.length < sizeLine) : sAppT f ρ = .ok (.nx ρ') := by
  unfold sAppT
  rw [h]
  show (if xs.length < sizeLine then _ else _) = _
  rw [if_pos hl]
variable {a b : Expr} {fl : List LOp} {pos : Pos}
theorem tj_isBl (h : OJ X cl vs0 Wx [a, b] fl) (hm : behindInMarks .Is b = false := by rfl) : TJ X cl vs0 Wx (.Compare a [.Is] [b] pos) (bT (xPrim fl (pIsBl false))) := tj_cmp op_isBl (fun O W H ds vs Q w ho hp => by
  unfold pIsBl at hp
  split at hp
  · obtain ⟨x, y, rfl, h1, h2⟩ := ho.two
    exact ⟨_, _, h1.bl, h2.bl, hp _ H (Same.refl H) (by simp only [Rp, Bool.false_xor])⟩
  · exact hp.elim) h hm
theorem tj_notBl (h : OJ X cl vs0 Wx [a, b] fl) (hm : behindInMarks .IsNot b = false := by rfl) : TJ X cl vs0 Wx (.Compare a [.IsNot] [b] pos) (bT (xPrim fl (pIsBl true))) := tj_cmp op_notBl (fun O W H ds vs Q w ho hp => by
  unfold pIsBl at hp
  split at hp
  · obtain ⟨x, y, rfl, h1, h2⟩ := ho.two
    exact ⟨_, _, h1.bl, h2.bl, hp _ H (Same.refl H) (by simp only [Rp, Bool.true_xor])⟩
  · exact hp.elim) h hm
end
end Wm
end

section
/-! C(xs, ..) of an own class, the list xs being lent alone. -/
namespace Wm
open PySem PySem.Spec PyProof.Rows L2
section
variable {G : Gx} {O W : List Addr} {σ : L2.St} {H : Hp} {ρ : List SD} {vs : List V}
theorem SR.consG {v : V} (r : SR G vs O W σ H ρ) : SR G (v :: vs) O W (some v :: σ) H (.gv :: ρ) := by
  refine ⟨r.wf, by simp [r.len], fun i s e => ?_, fun i j s t a e1 e2 m1 m2 s1 s2 => ?_, r.tabs⟩
  · cases i with
    | zero => cases e; rfl
    | succ i =>
      have q := r.slot i s (by simpa using e)
      simpa using q
  · cases i with
    | zero => cases e1; cases m1
    | succ i =>
      cases j with
      | zero => cases e2; cases m2
      | succ j => rw [r.apart i j s t a (by simpa using e1) (by simpa using e2) m1 m2 (by simpa using s1) (by simpa using s2)]
theorem SR.tl {v : V} {o : Option V} (r : SR G (v :: vs) O W (o :: σ) H ρ) : SR G vs O W σ H ρ.tail := by
  have hl := r.len
  cases ρ with
  | nil => cases hl
  | cons s0 ρ =>
    refine ⟨r.wf, by simpa using hl, fun i s e => ?_, fun i j s t a e1 e2 m1 m2 s1 s2 => ?_, r.tabs⟩
    · have q := r.slot (i + 1) s (by simpa using e)
      simpa using q
    · have := r.apart (i + 1) (j + 1) s t a (by simpa using e1) (by simpa using e2) m1 m2 (by simpa using s1) (by simpa using s2)
      omega
theorem SR.offN {a : Addr} (r : SR G vs O W σ H ρ) (hw : a ∉ W) : SR G vs (Wm.off a O) W σ H ρ := by
  have e : Wm.off a W = W := List.filter_eq_self.mpr fun b hb => by
    have : b ≠ a := fun z => hw (z ▸ hb)
    simpa using this
  have z := r.off (a := a) fun i s e m h => by
    have q := r.slot i s e
    cases s with
    | own xs =>
      obtain ⟨b, e1, o⟩ := q
      rw [h] at e1
      cases e1
      exact hw o.1
    | byr xs =>
      obtain ⟨b, e1, _, o⟩ := q
      rw [h] at e1
      cases e1
      exact hw o.1
    | _ => cases m
  rw [e] at z
  exact z
end
def mkR (c : Str) (n : Nat) : Rs (List (Str × D) × List SD) → Rs (SD × List SD)
  | .ok (fs, ρ) => .ok (.sh (.ins c fs), (trim (n + 1) ρ).tail)
  | .exc ce es ρ => .exc ce es (trim (n + 1) ρ).tail
  | .bad => .bad
def bodyM (N : Nat) (c : Str) (f : Sn) : Fn := fun as => mkR c as.length (f [] (.gv :: (as ++ List.replicate (N - 1 - as.length) .no)))
def spM (G : Gx) (c : Str) (n : Nat) (F : Fn) : Sp := fun vs H Q E => ∃ x rest H1 dx, vs = .ref x :: rest ∧ rest.length = n ∧ H1 x = none ∧ H1 dx = none ∧ dx ≠ x ∧ H = upd (upd H1 dx (.own x)) x (.ins (G.cls c) dx []) ∧
  ∃ O W as, SR G rest O W (rest.map some) H1 as ∧ AftE G rest (wxE E) O W (rest.map some) H1 (fun v H' => v = .ref x → Q .non H') (F as)
section
theorem fn_okM {P : Program} {w : World} {K : PySem.W.Frag} {mg : Str → Option Value} {base : Heap} {x qual : Str} {st : Stmt} {f : Addr} {fd : FuncData} {N ps : List Str} {k n : Nat} {cl : Cl} {c : Str} {g : Sn} (F : Fun K x qual st f fd) (S : FnScope N ps (defScope st)) (hn : ps.length = n + 1)
    (hb : ∀ (cdv : Value) (A : Around) (outer : List Env) (s : Shared) (H : Hp) (vs : List V) (E : XK), Room k (A.deeper (envOfC qual (defScope st) s.heap.objs.size f cdv)) →
      NJ (cxOf (L2.CX P w) P w K mg base N qual (defScope st) f cdv A outer s H E) cl vs (wxE E) c (defBody st) g) : FnOk P w K mg base (L2.CX P w) (k + 1) f fd ps (spM (gk K cl) c n (bodyM N.length c g)) := by
  have hpl : ps.length ≤ N.length := by have := congrArg List.length S.pre; rw [List.length_take] at this; omega
  refine F.okX S (fun vs H Q E h => ?_) fun cdv A outer s H vs Q E hr h => ?_
  · obtain ⟨x, rest, H1, dx, rfl, hl, _⟩ := h
    simp [hl, hn]
  · obtain ⟨x, rest, H1, dx, rfl, hl, nx, nd, ne, rfl, O, W, as, sr, hw⟩ := h
    obtain ⟨t, pt, q⟩ := (hb cdv A outer s _ (.ref x :: rest) E hr).ex
    have dl : as.length = n := by have := sr.len; rw [List.length_map, hl] at this; exact this.symm
    have sm : Same H1 (upd (upd H1 dx (.own x)) x (.ins ((gk K cl).cls c) dx [])) := fun b o e => by
      rw [upd_ne (ne_of_none e nx), upd_ne (ne_of_none e nd)]
      exact e
    have s1 : Stp O W H1 (x :: O) W (upd (upd H1 dx (.own x)) x (.ins ((gk K cl).cls c) dx [])) := Stp.addO sm nx
    have w1 : Wf (x :: O) W (upd (upd H1 dx (.own x)) x (.ins ((gk K cl).cls c) dx [])) := ⟨fun b hb => List.mem_cons_of_mem _ (sr.wf.sub b hb), fun b hb => by
      rcases List.mem_cons.mp hb with z | z
      · rw [z]; exact noD_not upd_same
      · exact s1.trk b (sr.wf.trk b z)⟩
    have nW : x ∉ W := fun z => sr.wf.trk x (sr.wf.sub x z) (noD_none nx)
    obtain ⟨N0, NT, eN⟩ : ∃ N0 NT, N = N0 :: NT := by
      cases N with
      | nil => rw [hn] at hpl; simp at hpl
      | cons a b => exact ⟨a, b, rfl⟩
    have sr1 := (sr.enter (N := NT) (by rw [eN] at hpl; simp at hpl; omega)).step w1 s1 (fun _ h => h) (fun b o _ e => sm b o e) (sr.tabs.tc.ext sm)
    have sr2 := sr1.consG (v := .ref x)
    have est : L2.start N (.ref x :: rest) = some (.ref x) :: L2.start NT rest := by
      subst eN
      unfold L2.start
      simp
    refine ⟨t, pt, q (x :: O) W _ _ (.gv :: (as ++ List.replicate (N.length - 1 - as.length) .no)) _ x dx [] [] O W H1 nx sr.wf s1 ?_ rfl ⟨by simp, nW, upd_same⟩ (by simp only [RpF]) ?_⟩
    · rw [est]
      have : N.length - 1 = NT.length := by rw [eN]; simp
      rw [this]
      exact sr2
    · unfold bodyM at hw
      cases eg : g [] (.gv :: (as ++ List.replicate (N.length - 1 - as.length) .no)) with
      | bad => rw [eg] at hw; exact hw
      | exc ce es ρ' =>
        rw [eg] at hw
        intro σ' p gs O' W' H' st sr' hp hf
        exact hw p gs O' W' H' st (sr'.leave (n := as.length + 1) (by simp [dl, hl])).tl hp hf
      | ok y =>
        obtain ⟨fs, ρ'⟩ := y
        rw [eg] at hw
        intro σ' O' W' H' dx' gs st sr' hh hf
        refine hw (.ref x) (off x O') W' H' ⟨st.keep, st.wnew, fun b hb => st.onew b (mem_off.mp hb).1, st.trk, fun b hb hn => mem_off.mpr ⟨st.ofz b hb hn, fun z => ?_⟩⟩ ((sr'.leave (n := as.length + 1) (by simp [dl, hl])).tl.offN hh.w) ?_ rfl
        · exact sr.wf.trk b hb (by rw [z]; exact noD_none nx)
        · show Rp _ _ _ _ _
          simp only [Rp]
          exact ⟨x, dx', gs, rfl, hh.h, fun z => (mem_off.mp z).2 rfl, RpF.less less_off hf⟩
end
def upI : SelI → SelI
  | .arg j => .arg (j + 1)
  | .dfI i => .dfI i
  | .dfN => .dfN
theorem up_map (y : V) (vs : List V) : ∀ sel : List SelI, (sel.map upI).map (pickV (y :: vs)) = sel.map (pickV vs)
  | [] => rfl
  | s :: sel => by
    simp only [List.map_cons, up_map y vs sel]
    congr 1
    cases s with
    | arg j => simp [upI, pickV]
    | _ => rfl
theorem spM_of {G : Gx} {c : Str} {sel : List SelI} {inv : List Nat} {F : Fn} {m : Nat} {vs : List V} {H : Hp} {Q : VK} {E : XK} {y dx : Addr} (ok : selB m sel inv = true) (h : spF G m (permF sel inv F) vs H Q E) (ny : H y = none) (nd : H dx = none) (ne : dx ≠ y) :
    spM G c sel.length F ((SelI.arg 0 :: sel.map upI).map (pickV (.ref y :: vs))) (upd (upd H dx (.own y)) y (.ins (G.cls c) dx [])) (fun v H3 => v = .non ∧ Q (.ref y) H3) E := by
  obtain ⟨hl, O, W, as, sr, hw⟩ := spF_perm ok h
  refine ⟨y, sel.map (pickV vs), H, dx, by rw [List.map_cons, up_map]; rfl, by simp, ny, nd, ne, rfl, O, W, as, sr, ?_⟩
  cases eF : F as with
  | bad => rw [eF] at hw; exact hw
  | exc c fs ρ => rw [eF] at hw; exact hw
  | ok p =>
    rw [eF] at hw
    exact fun v O' W' H' st sr' rr e => ⟨rfl, e ▸ hw v O' W' H' st sr' rr⟩
section
variable {X : Cx} {cl : Cl} {vs0 : List V} {Wx : WX} {k n : Nat} {f : Addr} {fd : FuncData} {ps ks : List Str} {x c : Str} {p pos : Pos} {e : Expr} {es : List Expr} {kws : List Keyword} {fl : List LOp} {F : Fn} {sel : List SelI} {inv : List Nat}
theorem ej_makeB (M : Mk X.K (cl.at' c) f) (hF : FnOk X.prog X.w X.K X.mg X.base (L2.CX X.prog X.w) k f fd ps (spM (gx X cl) c sel.length F)) (hr : Room (k + 1) X.A) (hg : Gl X x) (hm : X.mg x = some (.ref (cl.at' c))) (hb : KBs X.K fd ps (es.length + 1 + 1) ks (.arg 0 :: sel.map upI)) (tk : Takes X Wx)
    (hst : Stars X (e :: es)) (h : KJ X cl vs0 Wx (e :: es ++ kws.map (·.value)) fl) (ok : selB fl.length sel inv = true) (hall : (backToKw pos (keywordEach kws X.env)).all (·.1.isSome) = true := by rfl) (hks : (backToKw pos (keywordEach kws X.env)).filterMap (·.1) = ks := by rfl) (hkl : kws.length = ks.length := by rfl)
    (hdb : (x == ("__debug__" : Str)) = false := by decide) (he : starEach (e :: es) X.env = (false, eval e X.env) :: starEach es X.env := by rfl)
    (hpl : ((backTo pos (starEach (e :: es) X.env)).any (·.1) || (backToKw pos (keywordEach kws X.env)).any (·.1.isNone)) = false := by rfl) :
    EJ X cl vs0 Wx (.Call (.Name x p) (e :: es) kws pos) (xCall (permF sel inv F) fl) := by
  obtain ⟨ts, pe, _, q⟩ := h.ex
  obtain ⟨g, kb⟩ := hb.ex
  obtain ⟨t1, t2, rfl, h1, h2⟩ := pes_split pe
  have e1 : t1.length = es.length + 1 := pes_len h1
  have e2 : t2.length = ks.length := by rw [pes_len h2, List.length_map, hkl]
  refine ⟨⟨_, pe_makeM (E := fun σ c d H => Wx c d σ H) M hF hr hg hm kb (fun σ => passAt tk σ) (pes_pa h1 hst) (pes_pk h2) hall hks hdb he hpl, fun O W σ H ρ Q sr hw => ?_⟩⟩
  have z := call_core (F := permF sel inv F) (n := fl.length) rfl q O W σ H ρ Q (fun vs H2 => ∀ y dx, H2 y = none → H2 dx = none → dx ≠ y →
    spM (gx X cl) c sel.length F ((SelI.arg 0 :: sel.map upI).map (pickV (.ref y :: vs))) (upd (upd H2 dx (.own y)) y (.ins (cl.at' c) dx [])) (fun v H3 => v = .non ∧ Q (.ref y) H3) (fun c d H' => Wx c d σ H')) sr hw fun vs H1 h y dx ny nd ne => spM_of ok h ny nd ne
  rw [tAll_app, tAll_len] at z
  unfold tMakeM
  rw [tAll_len]
  refine cast ?_ z
  congr 1
  funext vs H1
  refine propext (and_congr_right fun hl => ?_)
  rw [tAll_len]
  refine iff_of_eq ?_
  congr 1
  funext zs H2
  refine propext ⟨fun h => ⟨hl.trans e1, h.1.trans e2, h.2⟩, fun h => ⟨h.2.1.trans e2.symm, h.2.2⟩⟩
end
@[simp] theorem mkR_ok (c : Str) (n : Nat) (fs : List (Str × D)) (ρ : List SD) : mkR c n (.ok (fs, ρ)) = .ok (.sh (.ins c fs), (trim (n + 1) ρ).tail) := (rfl)
@[simp] theorem mkR_exc (c ce : Str) (n : Nat) (es : List (Str × D)) (ρ : List SD) : mkR c n (.exc ce es ρ) = .exc ce es (trim (n + 1) ρ).tail := (rfl)
end Wm
end

section
/-! dict(xs) of pairs; methods of what an expression gives. -/
namespace Wm
open PySem PySem.Spec PyProof.Rows L2
def putI (kvs : List (Int × D)) (k : Int) (d : D) : List (Int × D) :=
  if (kvs.any fun kv => decide (kv.1 = k)) = true then kvs.map (fun kv => if kv.1 = k then (kv.1, d) else kv) else kvs ++ [(k, d)]
def mergeI (kvs more : List (Int × D)) : List (Int × D) := more.foldl (fun acc kv => putI acc kv.1 kv.2) kvs
section
variable {G : Gx} {O W : List Addr} {H : Hp}
theorem RpD.any {k : Int} : ∀ {kvs : List (Int × D)} {gs : List (Key × V)}, RpD G O H kvs gs → (gs.any fun kv => decide (kv.1 = Sum.inl k)) = kvs.any fun kv => decide (kv.1 = k)
  | [], gs, h => by simp only [RpD] at h; subst h; rfl
  | (n, d) :: kvs, gs, h => by
    simp only [RpD] at h
    obtain ⟨v, r, rfl, h1, h2⟩ := h
    rw [List.any_cons, List.any_cons, RpD.any h2]
    congr 1
    by_cases e : n = k
    · subst e; simp
    · have : ¬ ((Sum.inl n : Key) = Sum.inl k) := fun z => e (Sum.inl.inj z)
      simp [e, this]
theorem RpD.map {k : Int} {d : D} {v : V} (hv : Rp G O H d v) : ∀ {kvs : List (Int × D)} {gs : List (Key × V)}, RpD G O H kvs gs → RpD G O H (kvs.map (fun kv => if kv.1 = k then (kv.1, d) else kv)) (gs.map (fun kv => if kv.1 = Sum.inl k then (kv.1, v) else kv))
  | [], gs, h => by simp only [RpD] at h; subst h; simp [RpD]
  | (n, e) :: kvs, gs, h => by
    simp only [RpD] at h
    obtain ⟨u, r, rfl, h1, h2⟩ := h
    have ih := RpD.map hv h2 (k := k)
    by_cases q : n = k
    · subst q
      simp only [List.map_cons, if_true, RpD]
      exact ⟨v, _, rfl, hv, ih⟩
    · have q' : ¬ ((Sum.inl n : Key) = Sum.inl k) := fun z => q (Sum.inl.inj z)
      simp only [List.map_cons, if_neg q, if_neg q', RpD]
      exact ⟨u, _, rfl, h1, ih⟩
theorem RpD.snoc {k : Int} {d : D} {v : V} (hv : Rp G O H d v) : ∀ {kvs : List (Int × D)} {gs : List (Key × V)}, RpD G O H kvs gs → RpD G O H (kvs ++ [(k, d)]) (gs ++ [(Sum.inl k, v)])
  | [], gs, h => by
    simp only [RpD] at h
    subst h
    simp only [List.nil_append, RpD]
    exact ⟨v, [], rfl, hv, rfl⟩
  | (n, e) :: kvs, gs, h => by
    simp only [RpD] at h
    obtain ⟨u, r, rfl, h1, h2⟩ := h
    simp only [List.cons_append, RpD]
    exact ⟨u, _, rfl, h1, RpD.snoc hv h2⟩
theorem RpD.put {k : Int} {d : D} {v : V} (hv : Rp G O H d v) {kvs : List (Int × D)} {gs : List (Key × V)} (h : RpD G O H kvs gs) : RpD G O H (putI kvs k d) (putK gs (Sum.inl k) v) := by
  unfold putI putK
  rw [RpD.any h]
  split
  · exact RpD.map hv h
  · exact RpD.snoc hv h
theorem RpD.merge : ∀ {more : List (Int × D)} {ms : List (Key × V)}, RpD G O H more ms → ∀ {kvs : List (Int × D)} {gs : List (Key × V)}, RpD G O H kvs gs → RpD G O H (mergeI kvs more) (mergeK gs ms)
  | [], ms, h, kvs, gs, q => by simp only [RpD] at h; subst h; exact q
  | (n, e) :: more, ms, h, kvs, gs, q => by
    simp only [RpD] at h
    obtain ⟨u, r, rfl, h1, h2⟩ := h
    exact RpD.merge h2 (q.put h1)
/-- the pairs of a list -/
def pairsI : List D → Option (List (Int × D))
  | [] => some []
  | .tup [.int k, d] :: r => (pairsI r).map ((k, d) :: ·)
  | _ => none
theorem pairs_rp : ∀ {ds : List D} {vs : List V} {kvs : List (Int × D)}, RpA G O H ds vs → pairsI ds = some kvs → ∃ (ps : List Addr) (gs : List (Key × V)), vs = ps.map V.ref ∧ RpD G O H kvs gs ∧ Paired (fun p kv => SqT G.K H p [kV kv.1, kv.2]) ps gs
  | [], vs, kvs, h, e => by
    cases e
    simp only [RpA] at h
    subst h
    exact ⟨[], [], rfl, by simp only [RpD], .nil⟩
  | d :: ds, vs, kvs, h, e => by
    simp only [RpA] at h
    obtain ⟨v, r, rfl, h1, h2⟩ := h
    unfold pairsI at e
    split at e
    · rename_i heq
      cases heq
    · rename_i k d' r' heq
      cases heq
      obtain ⟨kvs', e1, rfl⟩ := Option.map_eq_some_iff.mp e
      obtain ⟨ps, gs, rfl, h3, h4⟩ := pairs_rp h2 e1
      simp only [Rp] at h1
      obtain ⟨a, us, rfl, t, hu⟩ := h1
      simp only [RpA, Rp] at hu
      obtain ⟨v1, r1, rfl, rfl, v2, r2, rfl, q2, rfl⟩ := hu
      refine ⟨a :: ps, (.inl k, v2) :: gs, rfl, ?_, .cons t.sq h4⟩
      simp only [RpD]
      exact ⟨v2, gs, rfl, q2, h3⟩
    · cases e
end
section
variable {X : Cx} {cl : Cl} {vs0 : List V} {Wx : WX}
def dctR : Option (List (Int × D)) → Rs SD
  | some kvs => .ok (.sh (.dct (mergeI [] kvs)))
  | none => .bad
def pDictP : List D → Rs SD
  | [.lst ds] => dctR (pairsI ds)
  | _ => .bad
theorem rp_dct {O W : List Addr} {H : Hp} {p : Addr} {kvs : List (Int × D)} {gs : List (Key × V)} {G : Gx} (w : Wf O W H) (n : H p = none) (h : RpD G O H kvs gs) : Rp G O (upd H p (.dK gs)) (.dct kvs) (.ref p) := by
  simp only [Rp]
  exact ⟨p, gs, rfl, upd_same, fun z => w.trk p z (noD_none n), RpD.step w (Stp.same (same_upd n)) h⟩
theorem pr_dictP : PrimR X cl (fun xs H Q => ∃ (a : Addr) (ps : List Addr) (kvs : List (Key × V)), xs = [.ref a] ∧ SqL X.K H a (ps.map V.ref) ∧ Paired (fun p kv => SqT X.K H p [kV kv.1, kv.2]) ps kvs ∧
    ∀ p, H p = none → Q (.ref p) (upd H p (.dK (mergeK [] kvs)))) pDictP := fun O W H ds vs Q w ho hp => by
  unfold pDictP at hp
  split at hp
  · rename_i xs
    obtain ⟨x, rfl, h1⟩ := ho.one
    obtain ⟨a, us, rfl, h2, h3, h4⟩ := h1.lst
    cases e : pairsI xs with
    | none => rw [e] at hp; exact hp.elim
    | some kvs =>
      rw [e] at hp
      obtain ⟨ps, gs, rfl, q1, q2⟩ := pairs_rp h4 e
      exact ⟨a, ps, gs, rfl, SqL.of h2, q2, fun p n => hp _ _ (same_upd n) (rp_dct w n (RpD.merge q1 (by simp only [RpD])))⟩
  · exact hp.elim
end
/-! ### e.m(..) -/
section
variable {X : Cx} {cl : Cl} {vs0 : List V} {Wx : WX} {k n : Nat} {f : Addr} {fd : FuncData} {ps ks : List Str} {c m : Str} {o e : Expr} {es : List Expr} {kws : List Keyword} {apos pos : Pos} {pl : Sem Bool} {C : Addr} {fo : Sx} {fl : List LOp} {F : Fn} {sel : List SelI} {inv : List Nat}
def chkR (c m : Str) (ρ : List SD) : SD → Rs (SD × List SD)
  | .sh (.ins c' fs) => if c' = c ∧ fs.lookup m = none then .ok (.sh (.ins c' fs), ρ) else .bad
  | _ => .bad
def chkM (c m : Str) (fo : Sx) : Sx := fun ρ => (fo ρ).bind fun p => chkR c m p.2 p.1
abbrev PI (C : Addr) (m : Str) (v : V) (H : Hp) : Prop := ∃ a dx fs, v = .ref a ∧ H a = some (.ins C dx fs) ∧ fs.lookup m = none
def tMethE (C : Addr) (m : Str) (sp : Sp) (gV : List V → List V → List V) (E : L2.St → XK) (n l : Nat) (to : TE) (t tk : TA) : TE := fun σ H Q => to σ H fun v H0 => PI C m v H0 ∧
  t σ H0 fun vs H1 => tk σ H1 fun zs H2 => vs.length = n ∧ zs.length = l ∧ sp (gV (v :: vs) zs) H2 Q (E σ)
theorem pe_methE {sp : Sp} {CX : CXT} {g : List Value → List Value → List Value} {gV : List V → List V → List V} {E : L2.St → XK} {to : TE} {t tk : TA} (ho : PE X o to) (cc : L2.Cls X.K C) (hm : Meth X.K C m f) (hF : FnOk X.prog X.w X.K X.mg X.base CX k f fd ps sp) (hr : Room k X.A) (hb : KBn X.K fd ps (n + 1) ks g gV) (hx : ∀ σ, PassesAt CX X σ (E σ))
    (ha : PA X (e :: es) t) (hkw : PK X kws tk) (hall : (backToKw pos (keywordEach kws X.env)).all (·.1.isSome) = true) (hks : (backToKw pos (keywordEach kws X.env)).filterMap (·.1) = ks)
    (he : starEach (e :: es) X.env = (false, eval e X.env) :: starEach es X.env) (hpl : ((backTo pos (starEach (e :: es) X.env)).any (·.1) || (backToKw pos (keywordEach kws X.env)).any (·.1.isNone)) = false)
    (ht : eval (.Call (.Attribute o m apos) (e :: es) kws pos) X.env = (do
      let ov ← eval o X.env
      standAt apos.atName
      let (f, first) ← holding [ov] (getMethod ov m pl)
      callWith pos f first (backTo pos (starEach (e :: es) X.env)) (backToKw pos (keywordEach kws X.env)))) :
    PE X (.Call (.Attribute o m apos) (e :: es) kws pos) (tMethE C m sp gV E n ks.length to t tk) := by
  refine ⟨fun pins s σ H Q I h => ?_⟩
  refine PySem.W.methodCall_KW (pl := pl) (thn (ho.run pins s σ H _ I h) fun u s1 q => ?_) ht
  obtain ⟨v, H1, I1, rv, ⟨a, dx, fs, q1, e2, e3⟩, h⟩ := q
  subst q1
  obtain rfl : u = Value.ref a := rv
  refine getmeth_ok I1 e2 cc hm e3 ?_
  refine PySem.W.callWith_KW (first := [.ref a]) (h₀ := X.base) I.ok.mod.kin hm.kp hall (thn (ha.run pos pins s1 σ H1 _ I1 h) fun us s2 q => ?_) hpl he
  obtain ⟨vs, H2, I2, r, q⟩ := q
  refine thn (hkw.run pos pins s2 σ H2 _ I2 q) fun ws s3 q3 => ?_
  obtain ⟨zs, H3, I3, rz, l1, l2, q3⟩ := q3
  refine ⟨I3.kIn, ?_⟩
  rw [hks]
  exact run_fnM (us := .ref a :: us) (vs := .ref a :: vs) hF hr hb (hx σ) I3 (.cons rfl r) rz (by rw [List.length_cons, l1]) l2 q3
theorem pe_methE0 {sp : Sp} {CX : CXT} {g : List Value → List Value → List Value} {gV : List V → List V → List V} {E : L2.St → XK} {to : TE} {tk : TA} (ho : PE X o to) (cc : L2.Cls X.K C) (hm : Meth X.K C m f) (hF : FnOk X.prog X.w X.K X.mg X.base CX k f fd ps sp) (hr : Room k X.A) (hb : KBn X.K fd ps 1 ks g gV) (hx : ∀ σ, PassesAt CX X σ (E σ))
    (hkw : PK X kws tk) (hall : (backToKw pos (keywordEach kws X.env)).all (·.1.isSome) = true) (hks : (backToKw pos (keywordEach kws X.env)).filterMap (·.1) = ks)
    (hpl : ((backTo pos (starEach [] X.env)).any (·.1) || (backToKw pos (keywordEach kws X.env)).any (·.1.isNone)) = false)
    (ht : eval (.Call (.Attribute o m apos) [] kws pos) X.env = (do
      let ov ← eval o X.env
      standAt apos.atName
      let (f, first) ← holding [ov] (getMethod ov m pl)
      callWith pos f first (backTo pos (starEach [] X.env)) (backToKw pos (keywordEach kws X.env)))) :
    PE X (.Call (.Attribute o m apos) [] kws pos) (tMethE C m sp gV E 0 ks.length to tNil tk) := by
  refine ⟨fun pins s σ H Q I h => ?_⟩
  refine PySem.W.methodCall_KW (pl := pl) (thn (ho.run pins s σ H _ I h) fun u s1 q => ?_) ht
  obtain ⟨v, H1, I1, rv, ⟨a, dx, fs, q1, e2, e3⟩, h⟩ := q
  subst q1
  obtain rfl : u = Value.ref a := rv
  refine getmeth_ok I1 e2 cc hm e3 ?_
  refine PySem.W.callWith_KW0 (first := [.ref a]) (h₀ := X.base) I.ok.mod.kin hm.kp hall (thn (hkw.run pos pins s1 σ H1 _ I1 h) fun ws s3 q3 => ?_) hpl
  obtain ⟨zs, H3, I3, rz, l1, l2, q3⟩ := q3
  refine ⟨I3.kIn, ?_⟩
  rw [hks]
  exact run_fnM (us := [.ref a]) (vs := [.ref a]) hF hr hb (hx σ) I3 (.cons rfl .nil) rz rfl l2 q3
theorem kj_chk (h : EJ X cl vs0 Wx o fo) (hr : KJ X cl vs0 Wx es fl) : ∃ t ts, PE X o t ∧ PEs X es ts ∧ PA X es (tAll ts) ∧ ∀ O W σ H ρ R, SR (gx X cl) vs0 O W σ H ρ → AftK (gx X cl) vs0 Wx O W σ H R (cargs (.ex (chkM c m fo) :: fl) ρ) → t σ H fun v H1 => PI (cl.at' c) m v H1 ∧ tAll ts σ H1 fun vs H2 => R (v :: vs) H2 := by
  obtain ⟨ts, p1, p2, p3⟩ := hr.ex
  obtain ⟨t, q1, q2⟩ := h.ex
  refine ⟨t, ts, q1, p1, p2, fun O W σ H ρ R sr hw => ?_⟩
  have hw' : AftK (gx X cl) vs0 Wx O W σ H R (((fo ρ).bind fun p => chkR c m p.2 p.1).bind fun p => (cargs fl p.2).bind fun q => .ok ((.sh p.1.frz, none) :: q.1, q.2)) := hw
  refine q2 O W σ H ρ _ sr ?_
  cases e0 : fo ρ with
  | bad => rw [e0] at hw'; exact hw'
  | exc c fs ρ' => rw [e0] at hw'; exact hw'
  | ok p =>
    obtain ⟨r, ρ1⟩ := p
    rw [e0] at hw'
    have hw' : AftK (gx X cl) vs0 Wx O W σ H R ((chkR c m ρ1 r).bind fun p => (cargs fl p.2).bind fun q => .ok ((.sh p.1.frz, none) :: q.1, q.2)) := hw'
    cases r with
    | sh d =>
      cases d with
      | ins c' fs =>
        have hw3 : AftK (gx X cl) vs0 Wx O W σ H R ((if c' = c ∧ fs.lookup m = none then Rs.ok (SD.sh (.ins c' fs), ρ1) else .bad).bind fun p => (cargs fl p.2).bind fun q => .ok ((.sh p.1.frz, none) :: q.1, q.2)) := hw'
        by_cases hc : c' = c ∧ fs.lookup m = none
        · rw [if_pos hc] at hw3
          obtain ⟨rfl, hl⟩ := hc
          have hw2 : AftK (gx X cl) vs0 Wx O W σ H R ((cargs fl ρ1).bind fun q => .ok ((.sh (.ins c' fs), none) :: q.1, q.2)) := hw3
          intro v O1 W1 H1 st1 sr1 rr
          have rp : Rp (gx X cl) O1 H1 (.ins c' fs) v := rr
          have rp' := rp
          simp only [Rp] at rp'
          obtain ⟨a, dx, gs, rfl, ha, hn, hf⟩ := rp'
          refine ⟨⟨a, dx, gs, rfl, ha, hf.lookN hl⟩, p3 O1 W1 σ H1 ρ1 _ sr1 ?_⟩
          cases e1 : cargs fl ρ1 with
          | bad => rw [e1] at hw2; exact hw2
          | exc c fs ρ' => rw [e1] at hw2; exact ExcA.back sr.wf st1 hw2
          | ok q =>
            obtain ⟨ps, ρ2⟩ := q
            rw [e1] at hw2
            intro vs O3 W3 H3 st3 sr3 ho
            exact hw2 (.ref a :: vs) O3 W3 H3 (st1.trans sr.wf st3) sr3 ⟨.ref a, vs, rfl, rp.step sr1.wf st3, ho⟩
        · rw [if_neg hc] at hw3
          exact hw3.elim
      | _ => exact hw'.elim
    | _ => exact hw'.elim
theorem ej_methE0 (h0 : EJ X cl vs0 Wx o fo) (cc : L2.Cls X.K (cl.at' c)) (hm : Meth X.K (cl.at' c) m f) (hF : FnOk X.prog X.w X.K X.mg X.base (L2.CX X.prog X.w) k f fd ps (spF (gx X cl) sel.length F)) (hr : Room k X.A) (hb : KBs X.K fd ps 1 ks sel) (tk : Takes X Wx)
    (h : KJ X cl vs0 Wx (kws.map (·.value)) fl) (ok : selB (fl.length + 1) sel inv = true)
    (ht : eval (.Call (.Attribute o m apos) [] kws pos) X.env = (do
      let ov ← eval o X.env
      standAt apos.atName
      let (f, first) ← holding [ov] (getMethod ov m pl)
      callWith pos f first (backTo pos (starEach [] X.env)) (backToKw pos (keywordEach kws X.env))) := by rfl)
    (hall : (backToKw pos (keywordEach kws X.env)).all (·.1.isSome) = true := by rfl) (hks : (backToKw pos (keywordEach kws X.env)).filterMap (·.1) = ks := by rfl) (hkl : kws.length = ks.length := by rfl)
    (hpl : ((backTo pos (starEach [] X.env)).any (·.1) || (backToKw pos (keywordEach kws X.env)).any (·.1.isNone)) = false := by rfl) :
    EJ X cl vs0 Wx (.Call (.Attribute o m apos) [] kws pos) (xCall (permF sel inv F) (.ex (chkM c m fo) :: fl)) := by
  obtain ⟨g, kb⟩ := hb.ex
  obtain ⟨to, ts, p0, pe, _, q⟩ := kj_chk (c := c) (m := m) h0 h
  have e2 : ts.length = ks.length := by rw [pes_len pe, List.length_map, hkl]
  refine ⟨⟨_, pe_methE0 (E := fun σ c d H => Wx c d σ H) p0 cc hm hF hr kb (fun σ => passAt tk σ) (pes_pk pe) hall hks hpl ht, fun O W σ H ρ Q sr hw => ?_⟩⟩
  have z := call_core (F := permF sel inv F) (n := fl.length + 1) (t := fun σ H R => to σ H fun v H1 => PI (cl.at' c) m v H1 ∧ tAll ts σ H1 fun vs H2 => R (v :: vs) H2) rfl q O W σ H ρ Q (fun vs H1 => spF (gx X cl) sel.length F (sel.map (pickV vs)) H1 Q fun c d H' => Wx c d σ H') sr hw fun vs H1 h => spF_perm ok h
  refine cast ?_ z
  unfold tMethE
  congr 1
  funext v H1
  refine propext (and_congr_right fun _ => iff_of_eq ?_)
  show tAll ts σ H1 _ = tAll ts σ H1 _
  conv => lhs; rw [tAll_len]
  conv => rhs; rw [tAll_len]
  congr 1
  funext zs H2
  exact propext ⟨fun h => ⟨h.1, rfl, h.1.trans e2, h.2⟩, fun h => ⟨h.1, h.2.2.2⟩⟩
theorem ej_methE (h0 : EJ X cl vs0 Wx o fo) (cc : L2.Cls X.K (cl.at' c)) (hm : Meth X.K (cl.at' c) m f) (hF : FnOk X.prog X.w X.K X.mg X.base (L2.CX X.prog X.w) k f fd ps (spF (gx X cl) sel.length F)) (hr : Room k X.A) (hb : KBs X.K fd ps (es.length + 1 + 1) ks sel) (tk : Takes X Wx)
    (hst : Stars X (e :: es)) (h : KJ X cl vs0 Wx (e :: es ++ kws.map (·.value)) fl) (ok : selB (fl.length + 1) sel inv = true)
    (ht : eval (.Call (.Attribute o m apos) (e :: es) kws pos) X.env = (do
      let ov ← eval o X.env
      standAt apos.atName
      let (f, first) ← holding [ov] (getMethod ov m pl)
      callWith pos f first (backTo pos (starEach (e :: es) X.env)) (backToKw pos (keywordEach kws X.env))) := by rfl)
    (hall : (backToKw pos (keywordEach kws X.env)).all (·.1.isSome) = true := by rfl) (hks : (backToKw pos (keywordEach kws X.env)).filterMap (·.1) = ks := by rfl) (hkl : kws.length = ks.length := by rfl)
    (he : starEach (e :: es) X.env = (false, eval e X.env) :: starEach es X.env := by rfl)
    (hpl : ((backTo pos (starEach (e :: es) X.env)).any (·.1) || (backToKw pos (keywordEach kws X.env)).any (·.1.isNone)) = false := by rfl) :
    EJ X cl vs0 Wx (.Call (.Attribute o m apos) (e :: es) kws pos) (xCall (permF sel inv F) (.ex (chkM c m fo) :: fl)) := by
  obtain ⟨g, kb⟩ := hb.ex
  obtain ⟨to, ts, p0, pe, _, q⟩ := kj_chk (c := c) (m := m) h0 h
  obtain ⟨t1, t2, rfl, h1, h2⟩ := pes_split pe
  have e1 : t1.length = es.length + 1 := pes_len h1
  have e2 : t2.length = ks.length := by rw [pes_len h2, List.length_map, hkl]
  refine ⟨⟨_, pe_methE (E := fun σ c d H => Wx c d σ H) p0 cc hm hF hr kb (fun σ => passAt tk σ) (pes_pa h1 hst) (pes_pk h2) hall hks he hpl ht, fun O W σ H ρ Q sr hw => ?_⟩⟩
  have z := call_core (F := permF sel inv F) (n := fl.length + 1) (t := fun σ H R => to σ H fun v H1 => PI (cl.at' c) m v H1 ∧ tAll (t1 ++ t2) σ H1 fun vs H2 => R (v :: vs) H2) rfl q O W σ H ρ Q (fun vs H1 => spF (gx X cl) sel.length F (sel.map (pickV vs)) H1 Q fun c d H' => Wx c d σ H') sr hw fun vs H1 h => spF_perm ok h
  refine cast ?_ z
  unfold tMethE
  congr 1
  funext v H0
  refine propext (and_congr_right fun _ => iff_of_eq ?_)
  conv => lhs; rw [tAll_app, tAll_len]
  conv => rhs; rw [tAll_len]
  congr 1
  funext vs H1
  refine propext (and_congr_right fun hl => iff_of_eq ?_)
  conv => lhs; rw [tAll_len]
  conv => rhs; rw [tAll_len]
  congr 1
  funext zs H2
  exact propext ⟨fun h => ⟨h.1, hl.trans e1, h.1.trans e2, h.2⟩, fun h => ⟨h.1, h.2.2.2⟩⟩
end
@[simp] theorem chkM_ap (c m : Str) (fo : Sx) (ρ : List SD) : chkM c m fo ρ = (fo ρ).bind fun p => chkR c m p.2 p.1 := (rfl)
@[simp] theorem chkR_ins (c m : Str) (ρ : List SD) (fs : List (Str × D)) : chkR c m ρ (.sh (.ins c fs)) = if fs.lookup m = none then .ok (.sh (.ins c fs), ρ) else .bad := by
  show (if c = c ∧ fs.lookup m = none then _ else _) = _
  by_cases h : fs.lookup m = none
  · rw [if_pos ⟨rfl, h⟩, if_pos h]
  · rw [if_neg (fun z => h z.2), if_neg h]
/-! ### how great what stands in the slots is: fuel of loops -/
mutual
def D.sz : D → Nat
  | .int i => i.natAbs
  | .tup xs => szs xs
  | .lst xs => szs xs
  | _ => 0
def szs : List D → Nat
  | [] => 0
  | x :: xs => x.sz + szs xs
end
def SD.sz : SD → Nat
  | .sh d => d.sz
  | .own xs => szs xs
  | .byr xs => szs xs
  | _ => 0
def szS : List SD → Nat
  | [] => 2
  | s :: r => s.sz + szS r
theorem szs_mem {d : D} : ∀ {xs : List D}, d ∈ xs → d.sz ≤ szs xs
  | x :: xs, h => by
    simp only [szs]
    rcases List.mem_cons.mp h with rfl | h
    · omega
    · have := szs_mem h
      omega
theorem szS_mem {s : SD} : ∀ {ρ : List SD}, s ∈ ρ → s.sz + 2 ≤ szS ρ
  | x :: ρ, h => by
    simp only [szS]
    rcases List.mem_cons.mp h with rfl | h
    · have : ∀ ρ : List SD, 2 ≤ szS ρ := fun ρ => by
        induction ρ with
        | nil => simp [szS]
        | cons a b ih => simp only [szS]; omega
      have := this ρ
      omega
    · have := szS_mem h
      omega
end Wm
end

section
/-! __init__ that reads the fields of what it makes. -/
namespace Wm
open PySem PySem.Spec PyProof.Rows L2
mutual
def noI : D → Bool
  | .ins _ _ => false
  | .tup xs => noIs xs
  | .lst xs => noIs xs
  | .dct _ => false
  | _ => true
def noIs : List D → Bool
  | [] => true
  | x :: xs => noI x && noIs xs
end
def noIS : SD → Bool
  | .no => true
  | .sh d => noI d
  | .own xs => noIs xs
  | .byr xs => noIs xs
  | _ => false
section
variable {G : Gx} {O W : List Addr} {H : Hp} {x C dx : Addr} {gs : List (Str × V)}
theorem TO.more {a : Addr} {vs : List V} (hx : H x = some (.ins C dx gs)) (h : TO G.K O H a vs) : TO G.K (x :: O) H a vs := by
  refine ⟨h.1, ?_⟩
  rcases h.2 with ⟨r, hn⟩ | h
  · refine .inl ⟨r, fun z => ?_⟩
    rcases List.mem_cons.mp z with e | e
    · subst e
      rcases r with r | ⟨o, r⟩ <;> (rw [hx] at r; cases r)
    · exact hn e
  · exact .inr h
theorem LO.more {a : Addr} {vs : List V} (hx : H x = some (.ins C dx gs)) (h : LO G.K O H a vs) : LO G.K (x :: O) H a vs := by
  refine ⟨h.1, h.2.1, fun z => ?_⟩
  rcases List.mem_cons.mp z with e | e
  · subst e
    have := h.2.1
    rw [hx] at this
    cases this
  · exact h.2.2 e
mutual
theorem Rp.more (hx : H x = some (.ins C dx gs)) : ∀ {d : D} {v : V}, noI d = true → Rp G O H d v → Rp G (x :: O) H d v
  | .non, v, _, h => by simpa only [Rp] using h
  | .bl b, v, _, h => by simpa only [Rp] using h
  | .int i, v, _, h => by simpa only [Rp] using h
  | .str s, v, _, h => by simpa only [Rp] using h
  | .tup ds, v, n, h => by
    simp only [Rp] at h ⊢
    simp only [noI] at n
    obtain ⟨a, vs, e, t, r⟩ := h
    exact ⟨a, vs, e, t.more hx, RpA.more hx n r⟩
  | .lst ds, v, n, h => by
    simp only [Rp] at h ⊢
    simp only [noI] at n
    obtain ⟨a, vs, e, t, r⟩ := h
    exact ⟨a, vs, e, t.more hx, RpA.more hx n r⟩
  | .ins c fs, v, n, h => by simp [noI] at n
  | .scr ns, v, _, h => by
    simp only [Rp] at h ⊢
    obtain ⟨a, e, t⟩ := h
    refine ⟨a, e, t.1, ?_⟩
    rcases t.2 with ⟨r, hn⟩ | r
    · refine .inl ⟨r, fun z => ?_⟩
      rcases List.mem_cons.mp z with e | e
      · subst e
        rcases r with r | ⟨o, r⟩ <;> (rw [hx] at r; cases r)
      · exact hn e
    · exact .inr r
  | .dct kvs, v, n, h => by simp [noI] at n
theorem RpA.more (hx : H x = some (.ins C dx gs)) : ∀ {ds : List D} {vs : List V}, noIs ds = true → RpA G O H ds vs → RpA G (x :: O) H ds vs
  | [], vs, _, h => by simpa only [RpA] using h
  | d :: ds, vs, n, h => by
    simp only [RpA] at h ⊢
    simp only [noIs, Bool.and_eq_true] at n
    obtain ⟨v, r, e, h1, h2⟩ := h
    exact ⟨v, r, e, Rp.more hx n.1 h1, RpA.more hx n.2 h2⟩
end
theorem OwnAt.more {a : Addr} {xs : List D} (hx : H x = some (.ins C dx gs)) (n : noIs xs = true) (h : OwnAt G O W H a xs) : OwnAt G (x :: O) W H a xs := by
  obtain ⟨h1, vs, h2, h3, h4⟩ := h
  exact ⟨h1, vs, h2, h3, h4.more hx n⟩
end
section
variable {G : Gx} {O W O2 W2 : List Addr} {H H2 : Hp} {x dx : Addr} {gs : List (Str × V)} {σ : L2.St} {vs0 : List V} {r r' : List SD} {ρ0 : List SD} {c : Str} {fs : List (Str × D)}
/-- what is being made, looked at as data -/
theorem SR.asD (sr : SR G vs0 O W σ H (.gv :: r)) (hv : vs0[0]? = some (.ref x)) (hh : HeldI x (G.cls c) dx gs O W H) (hf : RpF G O H fs gs) : SR G vs0 (Wm.off x O) W σ H (.sh (.ins c fs) :: r) := by
  have s1 := sr.offN hh.w
  have g0 : σ[0]?.join = vs0[0]? := s1.slot 0 _ rfl
  rw [hv] at g0
  refine ⟨s1.wf, s1.len, fun i s e => ?_, fun i j s t a e1 e2 m1 m2 z1 z2 => ?_, s1.tabs⟩
  · cases i with
    | zero =>
      cases e
      refine ⟨.ref x, g0, ?_⟩
      simp only [Rp]
      exact ⟨x, dx, gs, rfl, hh.h, fun z => (mem_off.mp z).2 rfl, RpF.less less_off hf⟩
    | succ i => exact s1.slot (i + 1) s e
  · cases i with
    | zero => cases e1; cases m1
    | succ i =>
      cases j with
      | zero => cases e2; cases m2
      | succ j => exact s1.apart (i + 1) (j + 1) s t a e1 e2 m1 m2 z1 z2
theorem SR.unD (sr : SR G vs0 O W σ H (.gv :: r)) (hv : vs0[0]? = some (.ref x)) (hh : HeldI x (G.cls c) dx gs O W H) (hf : RpF G O H fs gs) (st : Stp (Wm.off x O) W H O2 W2 H2) (sr2 : SR G vs0 O2 W2 σ H2 (.sh (.ins c fs) :: r')) (hn : r'.all noIS = true) :
    SR G vs0 (x :: O2) W2 σ H2 (.gv :: r') ∧ Stp O W H (x :: O2) W2 H2 ∧ HeldI x (G.cls c) dx gs (x :: O2) W2 H2 ∧ RpF G (x :: O2) H2 fs gs := by
  have hx2 : H2 x = some (.ins (G.cls c) dx gs) := st.keep x _ hh.h hh.w (fun _ z => by cases z)
  have xW2 : x ∉ W2 := fun z => by
    rcases st.wnew x z with q | q
    · exact hh.w q
    · exact noD_not hh.h (by intro _ z; cases z) q
  have s2 : Stp O W H (x :: O2) W2 H2 := ⟨st.keep, st.wnew, fun b hb => by
    rcases List.mem_cons.mp hb with e | e
    · exact .inl (e ▸ hh.o)
    · rcases st.onew b e with q | q
      · exact .inl (mem_off.mp q).1
      · exact .inr q, st.trk, fun b hb hw => by
    by_cases e : b = x
    · exact e ▸ List.mem_cons_self ..
    · exact List.mem_cons_of_mem _ (st.ofz b (mem_off.mpr ⟨hb, e⟩) hw)⟩
  refine ⟨⟨⟨fun b hb => List.mem_cons_of_mem _ (sr2.wf.sub b hb), fun b hb => ?_⟩, sr2.len, fun i s e => ?_, fun i j s t a e1 e2 m1 m2 z1 z2 => ?_, sr2.tabs.tc, fun q hq => (sr.tabs.k q hq).step sr.wf s2⟩, s2, ⟨List.mem_cons_self .., xW2, hx2⟩, RpF.step sr.wf s2 hf⟩
  · rcases List.mem_cons.mp hb with e | e
    · rw [e]; exact noD_not hx2 (by intro _ z; cases z)
    · exact sr2.wf.trk b e
  · cases i with
    | zero =>
      cases e
      exact sr.slot 0 _ rfl
    | succ i =>
      have q := sr2.slot (i + 1) s e
      have hs : noIS s = true := List.all_eq_true.mp hn s (List.mem_of_getElem? (by simpa using e))
      cases s with
      | no => trivial
      | sh d => obtain ⟨v, ev, r⟩ := q; exact ⟨v, ev, r.more hx2 hs⟩
      | own xs => obtain ⟨a, ea, o⟩ := q; exact ⟨a, ea, o.more hx2 hs⟩
      | byr xs => obtain ⟨a, ea, e0, o⟩ := q; exact ⟨a, ea, e0, o.more hx2 hs⟩
      | xn c fs => cases hs
      | gv => cases hs
  · cases i with
    | zero => cases e1; cases m1
    | succ i =>
      cases j with
      | zero => cases e2; cases m2
      | succ j => exact sr2.apart (i + 1) (j + 1) s t a e1 e2 m1 m2 z1 z2
end
section
variable {X : Cx} {cl : Cl} {vs0 : List V} {Wx : WX} {c : Str}
open Classical in
/-- behind an expression that looked at self -/
noncomputable def selfR (c : Str) (fs : List (Str × D)) {α : Type} (ok : α → Prop) (k : α → List SD → Rs (List (Str × D) × List SD)) : Rs (α × List SD) → Rs (List (Str × D) × List SD)
  | .ok (a, .sh (.ins c' fs') :: r') => if (c' = c ∧ fs' = fs) ∧ r'.all noIS = true ∧ ok a then k a (.gv :: r') else .bad
  | .exc ce es ρ' => .exc ce es ρ'
  | _ => .bad
theorem selfR_pos {c c' : Str} {fs fs' : List (Str × D)} {α : Type} {ok : α → Prop} {k : α → List SD → Rs (List (Str × D) × List SD)} {a : α} {r' : List SD} (h : (c' = c ∧ fs' = fs) ∧ r'.all noIS = true ∧ ok a) : selfR c fs ok k (.ok (a, .sh (.ins c' fs') :: r')) = k a (.gv :: r') := by
  unfold selfR
  exact if_pos h
theorem selfR_neg {c c' : Str} {fs fs' : List (Str × D)} {α : Type} {ok : α → Prop} {k : α → List SD → Rs (List (Str × D) × List SD)} {a : α} {r' : List SD} (h : ¬ ((c' = c ∧ fs' = fs) ∧ r'.all noIS = true ∧ ok a)) : selfR c fs ok k (.ok (a, .sh (.ins c' fs') :: r')) = .bad := by
  unfold selfR
  exact if_neg h
/-- the self looked at is as ahead -/
@[simp] theorem selfR_same (c : Str) (fs : List (Str × D)) {α : Type} (ok : α → Prop) (k : α → List SD → Rs (List (Str × D) × List SD)) (a : α) (r' : List SD) (h1 : r'.all noIS = true) (h2 : ok a) : selfR c fs ok k (.ok (a, .sh (.ins c fs) :: r')) = k a (.gv :: r') := selfR_pos ⟨⟨rfl, rfl⟩, h1, h2⟩
@[simp] theorem selfR_exc (c : Str) (fs : List (Str × D)) {α : Type} (ok : α → Prop) (k : α → List SD → Rs (List (Str × D) × List SD)) (ce : Str) (es : List (Str × D)) (ρ : List SD) : selfR c fs ok k (.exc ce es ρ) = .exc ce es ρ := (rfl)
noncomputable def nStoS (c f : Str) (g : Sx) (h : Sn) : Sn := fun fs ρ => if isGv ρ = true ∧ fs.length < 1000 then selfR c fs (fun a => noI a.frz = true) (fun a ρ' => h (putD f a.frz fs) ρ') (g (.sh (.ins c fs) :: ρ.tail)) else .bad
theorem gv_cons {ρ : List SD} (h : isGv ρ = true) : ρ = .gv :: ρ.tail := by
  cases ρ with
  | nil => cases h
  | cons a b =>
    cases a with
    | gv => rfl
    | _ => cases h
theorem nj_storeS {o e : Expr} {f : Str} {p' pos : Pos} {sts : List Stmt} {g : Sx} {h : Sn} (ho : PE X o (tVar 0)) (cc : L2.Cls X.K (cl.at' c)) (na : NoAttr X.K (cl.at' c) f) (he : EJ X cl vs0 Wx e g) (hr : NJ X cl vs0 Wx c sts h)
    (hs : swapsWith e (some (.Attribute o f p')) pos.line X.env = pure false := by rfl) : NJ X cl vs0 Wx c (.Assign [.Attribute o f p'] e pos :: sts) (nStoS c f g h) := by
  obtain ⟨t, p, q⟩ := he.ex
  obtain ⟨t', p2, q'⟩ := hr.ex
  refine ⟨⟨_, pss_cons (ps_fld ho p hs) p2, fun O W σ H ρ D' x dx gs fs O1 W1 H1 hx w1 st sr hv hh hf hw => ?_⟩⟩
  unfold nStoS at hw
  by_cases hc : isGv ρ = true ∧ fs.length < 1000
  · rw [if_pos hc] at hw
    rw [gv_cons hc.1] at sr
    generalize ρ.tail = r at sr hw
    have srD := sr.asD (c := c) hv hh hf
    refine q (Wm.off x O) W σ H _ _ srD ?_
    cases eg : g (.sh (.ins c fs) :: r) with
    | bad => rw [eg] at hw; exact hw
    | exc ce es ρ' =>
      rw [eg] at hw
      refine fun p gs O' W' H' s2 sr2 hp he => hw σ p gs O' W' H' ?_ sr2 hp he
      have s0 : Stp O1 W1 H1 (Wm.off x O) W H := ⟨st.keep, st.wnew, fun b hb => st.onew b (mem_off.mp hb).1, st.trk, fun b hb hn => mem_off.mpr ⟨st.ofz b hb hn, fun z => w1.trk b hb (by rw [z]; exact noD_none hx)⟩⟩
      exact s0.trans w1 s2
    | ok y =>
      obtain ⟨res, ρ'⟩ := y
      rw [eg] at hw
      intro v O2 W2 H2 s2 sr2 rr
      cases ρ' with
      | nil => exact hw.elim
      | cons s0 r' =>
        cases s0 with
        | sh d =>
          cases d with
          | ins c' fs' =>
            by_cases hq : (c' = c ∧ fs' = fs) ∧ r'.all noIS = true ∧ noI res.frz = true
            · rw [selfR_pos (ok := fun a : SD => noI a.frz = true) (a := res) hq] at hw
              obtain ⟨⟨rfl, rfl⟩, hn, hres⟩ := hq
              obtain ⟨O3, W3, s3, sr3, rp⟩ := rr.frz sr2
              obtain ⟨sr4, s4, hh4, hf4⟩ := SR.unD sr hv hh hf (s2.trans srD.wf s3) sr3 hn
              have rp4 := rp.more hh4.h hres
              have st4 := st.trans w1 s4
              have g0 : σ[0]?.join = vs0[0]? := sr4.slot 0 _ rfl
              rw [hv] at g0
              obtain ⟨sr5, gr, _⟩ := sr4.grow (o' := .ins (cl.at' c') dx (putF f v gs)) hh4.o hh4.w hh4.h
              refine ⟨.ref x, join_some g0, x, cl.at' c', dx, gs, rfl, hh4.h, cc, na, by rw [← hf4.len]; exact hc.2, ?_⟩
              refine q' _ W3 σ _ _ D' x dx _ (putD f res.frz fs') O1 W1 H1 hx w1 ?_ sr5 hv ⟨hh4.o, hh4.w, upd_same⟩ (RpF.put (gr rp4) (RpF.grow gr hf4)) hw
              have nx : ∀ b o, H1 b = some o → b ≠ x := fun b o e z => by rw [z, hx] at e; cases e
              exact ⟨fun b o eo hb ht => by rw [upd_ne (nx b o eo)]; exact st4.keep b o eo hb ht, st4.wnew, st4.onew, fun b hb => noD_upd (st4.trk b hb), st4.ofz⟩
            · rw [selfR_neg (ok := fun a : SD => noI a.frz = true) (a := res) hq] at hw
              exact hw.elim
          | _ => exact hw.elim
        | _ => exact hw.elim
  · rw [if_neg hc] at hw
    exact hw.elim
/-- if a test that looks at self: what raises -/
noncomputable def nIfS (c : Str) (t : Sb) (g : Ss) (h : Sn) : Sn := fun fs ρ => if isGv ρ = true then selfR c fs (fun _ => True) (fun b ρ' => bif b then nSeqR h fs (g ρ') else h fs ρ') (t (.sh (.ins c fs) :: ρ.tail)) else .bad
theorem nj_ifS {e : Expr} {bs : List Stmt} {pos : Pos} {sts : List Stmt} {t : Sb} {g : Ss} {h : Sn} (ht : TJ X cl vs0 Wx e t) (hb : BJ X cl vs0 Wx bs g) (hr : NJ X cl vs0 Wx c sts h) : NJ X cl vs0 Wx c (.If e bs [] pos :: sts) (nIfS c t g h) := by
  obtain ⟨tc, pc, qc⟩ := ht.ex
  obtain ⟨t1, p1, q1⟩ := hb.ex
  obtain ⟨t', p2, q'⟩ := hr.ex
  refine ⟨⟨_, pss_cons (ps_if pc p1 pss_nil) p2, fun O W σ H ρ D' x dx gs fs O1 W1 H1 hx w1 st sr hv hh hf hw => ?_⟩⟩
  unfold nIfS at hw
  by_cases hc : isGv ρ = true
  · rw [if_pos hc] at hw
    rw [gv_cons hc] at sr
    generalize ρ.tail = r at sr hw
    have srD := sr.asD (c := c) hv hh hf
    refine qc (Wm.off x O) W σ H _ _ srD ?_
    cases eg : t (.sh (.ins c fs) :: r) with
    | bad => rw [eg] at hw; exact hw
    | exc ce es ρ' =>
      rw [eg] at hw
      refine fun p gs O' W' H' s2 sr2 hp he => hw σ p gs O' W' H' ?_ sr2 hp he
      have s0 : Stp O1 W1 H1 (Wm.off x O) W H := ⟨st.keep, st.wnew, fun b hb => st.onew b (mem_off.mp hb).1, st.trk, fun b hb hn => mem_off.mpr ⟨st.ofz b hb hn, fun z => w1.trk b hb (by rw [z]; exact noD_none hx)⟩⟩
      exact s0.trans w1 s2
    | ok y =>
      obtain ⟨b, ρ'⟩ := y
      rw [eg] at hw
      intro O2 W2 H2 s2 sr2
      cases ρ' with
      | nil => exact hw.elim
      | cons s0 r' =>
        cases s0 with
        | sh d =>
          cases d with
          | ins c' fs' =>
            by_cases hq : (c' = c ∧ fs' = fs) ∧ r'.all noIS = true ∧ True
            · rw [selfR_pos (ok := fun _ : Bool => True) (a := b) hq] at hw
              obtain ⟨⟨rfl, rfl⟩, hn, _⟩ := hq
              obtain ⟨sr4, s4, hh4, hf4⟩ := SR.unD sr hv hh hf s2 sr2 hn
              have st4 := st.trans w1 s4
              cases b with
              | false => exact q' _ W2 σ H2 _ D' x dx gs fs' O1 W1 H1 hx w1 st4 sr4 hv hh4 hf4 hw
              | true =>
                have hw : AftN (gx X cl) vs0 Wx O1 W1 H1 x c' D' (nSeqR h fs' (g (.gv :: r'))) := hw
                refine q1 _ W2 σ H2 _ _ sr4 ?_
                cases e : g (.gv :: r') with
                | bad => rw [e] at hw; exact hw
                | exc ce es ρ' =>
                  rw [e] at hw
                  exact fun σ' p gs O' W' H' s5 sr5 hp he => hw σ' p gs O' W' H' (st4.trans w1 s5) sr5 hp he
                | ok fl =>
                  rw [e] at hw
                  cases fl with
                  | nx ρ' => exact fun σ' O' W' H' s5 sr5 => q' O' W' σ' H' ρ' D' x dx gs fs' O1 W1 H1 hx w1 (st4.trans w1 s5) sr5 hv (hh4.step s5) (hf4.step sr4.wf s5) hw
                  | rt r ρ' => exact hw.elim
                  | bk ρ' => exact hw.elim
                  | ct ρ' => exact hw.elim
            · rw [selfR_neg (ok := fun _ : Bool => True) (a := b) hq] at hw
              exact hw.elim
          | _ => exact hw.elim
        | _ => exact hw.elim
  · rw [if_neg hc] at hw
    exact hw.elim
end
@[simp] theorem nStoS_ap (c f : Str) (g : Sx) (h : Sn) (fs : List (Str × D)) (r : List SD) : nStoS c f g h fs (.gv :: r) = if fs.length < 1000 then selfR c fs (fun a => noI a.frz = true) (fun a ρ' => h (putD f a.frz fs) ρ') (g (.sh (.ins c fs) :: r)) else .bad := by
  unfold nStoS
  by_cases q : fs.length < 1000
  · rw [if_pos ⟨rfl, q⟩, if_pos q]; rfl
  · rw [if_neg (fun z => q z.2), if_neg q]
@[simp] theorem nIfS_ap (c : Str) (t : Sb) (g : Ss) (h : Sn) (fs : List (Str × D)) (r : List SD) : nIfS c t g h fs (.gv :: r) = selfR c fs (fun _ => True) (fun b ρ' => bif b then nSeqR h fs (g ρ') else h fs ρ') (t (.sh (.ins c fs) :: r)) := by
  unfold nIfS
  rw [if_pos (show isGv (.gv :: r) = true from rfl)]
  rfl
end Wm
end

section
/-! Determinants of grids, by the first row; exchanged rows, added rows, triangles. -/
namespace Dt
def sm : Nat → (Nat → Int) → Int
  | 0, _ => 0
  | n + 1, f => sm n f + f n
theorem sm_congr {f g : Nat → Int} : ∀ {n : Nat}, (∀ i, i < n → f i = g i) → sm n f = sm n g
  | 0, _ => rfl
  | n + 1, h => by
    unfold sm
    rw [sm_congr fun i hi => h i (Nat.lt_succ_of_lt hi), h n (Nat.lt_succ_self n)]
theorem sm_add {f g : Nat → Int} : ∀ {n : Nat}, sm n (fun i => f i + g i) = sm n f + sm n g
  | 0 => rfl
  | n + 1 => by
    show sm n (fun i => f i + g i) + (f n + g n) = (sm n f + f n) + (sm n g + g n)
    rw [sm_add]; omega
theorem sm_mul {c : Int} {f : Nat → Int} : ∀ {n : Nat}, sm n (fun i => c * f i) = c * sm n f
  | 0 => by simp [sm]
  | n + 1 => by
    unfold sm
    rw [sm_mul, Int.mul_add]
theorem sm_neg {f : Nat → Int} : ∀ {n : Nat}, sm n (fun i => - f i) = - sm n f
  | 0 => rfl
  | n + 1 => by
    show sm n (fun i => - f i) + - f n = - (sm n f + f n)
    rw [sm_neg]; omega
theorem sm_zero : ∀ {n : Nat}, sm n (fun _ => 0) = 0
  | 0 => rfl
  | n + 1 => by
    unfold sm
    rw [sm_zero]; rfl
theorem sm_swap {f : Nat → Nat → Int} {m : Nat} : ∀ {n : Nat}, sm n (fun i => sm m (f i)) = sm m (fun j => sm n (fun i => f i j))
  | 0 => by
    show 0 = sm m fun _ => 0
    rw [sm_zero]
  | n + 1 => by
    show sm n (fun i => sm m (f i)) + sm m (f n) = sm m (fun j => sm n (fun i => f i j) + f n j)
    rw [sm_add, sm_swap]
/-- the first summand apart -/
theorem sm_first {f : Nat → Int} : ∀ {n : Nat}, sm (n + 1) f = f 0 + sm n (fun i => f (i + 1))
  | 0 => by simp [sm]
  | n + 1 => by
    rw [sm, sm_first (n := n), sm]; omega
def sk (k j : Nat) : Nat := if j < k then j else j + 1
def us (k l : Nat) : Nat := if l < k then l else l - 1
/-- a sum over all places but one -/
theorem sm_skip {F : Nat → Int} {k : Nat} : ∀ {n : Nat}, k ≤ n → sm n (fun j => F (sk k j)) = sm (n + 1) (fun l => if l = k then 0 else F l)
  | 0, h => by
    have : k = 0 := by omega
    subst this
    simp [sm]
  | n + 1, h => by
    by_cases e : k = n + 1
    · subst e
      have h1 : sm (n + 1) (fun j => F (sk (n + 1) j)) = sm (n + 1) (fun l => if l = n + 1 then 0 else F l) := sm_congr fun i hi => by
        rw [if_neg (by omega)]
        unfold sk
        rw [if_pos hi]
      rw [h1]
      conv => rhs; rw [sm]
      rw [if_pos rfl]; omega
    · have hk : k ≤ n := by omega
      have h1 : sk k n = n + 1 := by unfold sk; rw [if_neg (by omega)]
      rw [sm, sm_skip hk, h1]
      conv => rhs; rw [sm]
      rw [if_neg (by omega)]
def sg (k : Nat) : Int := if k % 2 = 0 then 1 else -1
theorem sg_succ (k : Nat) : sg (k + 1) = - sg k := by
  unfold sg
  by_cases h : k % 2 = 0
  · rw [if_pos h, if_neg (by omega)]
  · rw [if_neg h, if_pos (by omega)]; rfl
abbrev Mt := Nat → Nat → Int
def mi (k : Nat) (A : Mt) : Mt := fun i j => A (i + 1) (sk k j)
def det : Nat → Mt → Int
  | 0, _ => 1
  | n + 1, A => sm (n + 1) fun k => sg k * A 0 k * det n (mi k A)
theorem det_congr : ∀ {n : Nat} {A B : Mt}, (∀ i j, i < n → j < n → A i j = B i j) → det n A = det n B
  | 0, _, _, _ => rfl
  | n + 1, A, B, h => by
    unfold det
    refine sm_congr fun k hk => ?_
    rw [h 0 k (by omega) hk, det_congr (A := mi k A) (B := mi k B) fun i j hi hj => h _ _ (by omega) (by unfold sk; split <;> omega)]
def sr (i : Nat) (u : Nat → Int) (A : Mt) : Mt := fun r j => if r = i then u j else A r j
theorem mi_sr0 {u : Nat → Int} {A : Mt} {k : Nat} : mi k (sr 0 u A) = mi k A := by
  funext i j
  unfold mi sr
  rw [if_neg (by omega)]
theorem mi_srS {u : Nat → Int} {A : Mt} {k i : Nat} : mi k (sr (i + 1) u A) = sr i (fun j => u (sk k j)) (mi k A) := by
  funext r j
  unfold mi sr
  by_cases h : r = i
  · rw [if_pos (by omega), if_pos h]
  · rw [if_neg (by omega), if_neg h]
theorem det_lin {x y : Int} : ∀ {n i : Nat} {u v : Nat → Int} {A : Mt}, i < n → det n (sr i (fun j => x * u j + y * v j) A) = x * det n (sr i u A) + y * det n (sr i v A)
  | 0, _, _, _, _, h => by omega
  | n + 1, 0, u, v, A, _ => by
    unfold det
    rw [← sm_mul, ← sm_mul, ← sm_add]
    refine sm_congr fun k hk => ?_
    rw [mi_sr0, mi_sr0, mi_sr0]
    have e : ∀ w : Nat → Int, sr 0 w A 0 k = w k := fun w => if_pos rfl
    rw [e, e, e]
    grind
  | n + 1, i + 1, u, v, A, h => by
    unfold det
    rw [← sm_mul, ← sm_mul, ← sm_add]
    refine sm_congr fun k hk => ?_
    rw [mi_srS, mi_srS, mi_srS, det_lin (by omega)]
    have e : ∀ w : Nat → Int, sr (i + 1) w A 0 k = A 0 k := fun w => if_neg (by omega)
    rw [e, e, e]
    grind
def tw (a b r : Nat) : Nat := if r = a then b else if r = b then a else r
def sw (a b : Nat) (A : Mt) : Mt := fun r j => A (tw a b r) j
theorem mi_sw {k i : Nat} {A : Mt} : mi k (sw (i + 1) (i + 2) A) = sw i (i + 1) (mi k A) := by
  funext r j
  unfold mi sw
  congr 1
  unfold tw
  repeat' split
  all_goals omega
/-- the first two rows told -/
theorem det_two (n : Nat) (A : Mt) : det (n + 2) A = sm (n + 2) fun k => sm (n + 2) fun l => if l = k then 0 else sg k * sg (us k l) * (A 0 k * A 1 l) * det n (fun i c => A (i + 2) (sk k (sk (us k l) c))) := by
  show (sm (n + 2) fun k => sg k * A 0 k * (sm (n + 1) fun j => sg j * mi k A 0 j * det n (mi j (mi k A)))) = _
  refine sm_congr fun k hk => ?_
  rw [← sm_mul]
  have e := sm_skip (F := fun l => sg k * sg (us k l) * (A 0 k * A 1 l) * det n (fun i c => A (i + 2) (sk k (sk (us k l) c)))) (show k ≤ n + 1 by omega)
  rw [← e]
  refine sm_congr fun j hj => ?_
  have hu : us k (sk k j) = j := by
    unfold us sk
    by_cases h : j < k
    · rw [if_pos h, if_pos h]
    · rw [if_neg h, if_neg (by omega)]; omega
  rw [hu]
  show sg k * A 0 k * (sg j * A 1 (sk k j) * det n (fun i c => A (i + 2) (sk k (sk j c)))) = _
  grind
theorem det_sw0 (n : Nat) (A : Mt) : det (n + 2) (sw 0 1 A) = - det (n + 2) A := by
  rw [det_two, det_two, sm_swap, ← sm_neg]
  refine sm_congr fun k hk => ?_
  rw [← sm_neg]
  refine sm_congr fun l hl => ?_
  by_cases e : l = k
  · rw [if_pos e, if_pos e.symm]; rfl
  · rw [if_neg e, if_neg (Ne.symm e)]
    have e1 : (fun i c => sw 0 1 A (i + 2) (sk l (sk (us l k) c))) = (fun i c => A (i + 2) (sk k (sk (us k l) c))) := by
      funext i c
      unfold sw
      have : tw 0 1 (i + 2) = i + 2 := by unfold tw; rw [if_neg (by omega), if_neg (by omega)]
      rw [this]
      congr 1
      unfold sk us
      repeat' split
      all_goals omega
    rw [e1]
    have e2 : sg l * sg (us l k) = - (sg k * sg (us k l)) := by
      unfold us
      by_cases h : k < l
      · rw [if_pos h, if_neg (by omega)]
        obtain ⟨m, rfl⟩ : ∃ m, l = m + 1 := ⟨l - 1, by omega⟩
        rw [sg_succ, Nat.add_sub_cancel]
        grind
      · rw [if_neg h, if_pos (by omega)]
        obtain ⟨m, rfl⟩ : ∃ m, k = m + 1 := ⟨k - 1, by omega⟩
        rw [sg_succ, Nat.add_sub_cancel]
        grind
    have e3 : sw 0 1 A 0 l = A 1 l := rfl
    have e4 : sw 0 1 A 1 k = A 0 k := rfl
    rw [e2, e3, e4]
    grind
theorem det_adj : ∀ {n i : Nat} {A : Mt}, i + 1 < n → det n (sw i (i + 1) A) = - det n A
  | 0, _, _, h => by omega
  | 1, _, _, h => by omega
  | n + 2, 0, A, _ => det_sw0 n A
  | n + 2, i + 1, A, h => by
    rw [det, det, ← sm_neg]
    refine sm_congr fun k hk => ?_
    rw [mi_sw, det_adj (by omega)]
    have : sw (i + 1) (i + 2) A 0 k = A 0 k := by
      unfold sw tw
      rw [if_neg (by omega), if_neg (by omega)]
    rw [this]
    grind
/-- two rows alike -/
theorem det_alike : ∀ {d n a : Nat} {A : Mt}, a + d + 1 < n → (∀ j, A a j = A (a + d + 1) j) → det n A = 0
  | 0, n, a, A, h, e => by
    have h1 : sw a (a + 1) A = A := by
      funext r j
      unfold sw tw
      repeat' split
      · rename_i q; subst q; exact (e j).symm
      · rename_i q; subst q; exact e j
      · rfl
    have h2 := det_adj (A := A) (show a + 1 < n by omega)
    rw [h1] at h2
    omega
  | d + 1, n, a, A, h, e => by
    have h2 := det_adj (A := A) (show a + d + 1 + 1 < n by omega)
    have h3 := det_alike (d := d) (n := n) (a := a) (A := sw (a + d + 1) (a + d + 1 + 1) A) (by omega) fun j => by
      have q1 : tw (a + d + 1) (a + d + 1 + 1) a = a := by unfold tw; rw [if_neg (by omega), if_neg (by omega)]
      have q2 : tw (a + d + 1) (a + d + 1 + 1) (a + d + 1) = a + d + 1 + 1 := by unfold tw; rw [if_pos rfl]
      unfold sw
      rw [q1, q2]
      exact e j
    omega
theorem det_same {n a b : Nat} {A : Mt} (ha : a < n) (hb : b < n) (hn : a ≠ b) (e : ∀ j, A a j = A b j) : det n A = 0 := by
  rcases Nat.lt_or_gt_of_ne hn with h | h
  · obtain ⟨d, rfl⟩ : ∃ d, b = a + d + 1 := ⟨b - a - 1, by omega⟩
    exact det_alike hb e
  · obtain ⟨d, rfl⟩ : ∃ d, a = b + d + 1 := ⟨a - b - 1, by omega⟩
    exact det_alike ha fun j => (e j).symm
theorem sr_self {i : Nat} {A : Mt} : sr i (A i) A = A := by
  funext r j
  unfold sr
  split
  · rename_i h; rw [h]
  · rfl
/-- a row added -/
theorem det_added {n i r : Nat} {c : Int} {A : Mt} (hi : i < n) (hr : r < n) (h : i ≠ r) : det n (sr i (fun j => A i j + c * A r j) A) = det n A := by
  have e := det_lin (x := 1) (y := c) (u := A i) (v := A r) (A := A) hi
  rw [sr_self, det_same (A := sr i (A r) A) hi hr h fun j => by unfold sr; rw [if_pos rfl, if_neg (Ne.symm h)]] at e
  have e2 : (fun j => 1 * A i j + c * A r j) = (fun j => A i j + c * A r j) := by funext j; rw [Int.one_mul]
  rw [e2] at e
  rw [e]; omega
/-- a row so many times -/
theorem det_times {n i : Nat} {c : Int} {A : Mt} (hi : i < n) : det n (sr i (fun j => c * A i j) A) = c * det n A := by
  have e := det_lin (x := c) (y := 0) (u := A i) (v := A i) (A := A) hi
  have e2 : (fun j => c * A i j + 0 * A i j) = (fun j => c * A i j) := by funext j; omega
  rw [sr_self, e2] at e
  rw [e]; omega
/-- rows exchanged -/
theorem det_swap {n a b : Nat} {A : Mt} (ha : a < n) (hb : b < n) (h : a ≠ b) : det n (sw a b A) = - det n A := by
  -- both rows put to their sum
  have z := det_same (n := n) (a := a) (b := b) (A := sr a (fun j => 1 * A a j + 1 * A b j) (sr b (fun j => 1 * A a j + 1 * A b j) A)) ha hb h fun j => by
    unfold sr
    rw [if_pos rfl, if_neg (Ne.symm h), if_pos rfl]
  have cm : ∀ u v : Nat → Int, sr a u (sr b v A) = sr b v (sr a u A) := fun u v => by
    funext r j
    unfold sr
    by_cases h1 : r = a
    · rw [if_pos h1, if_neg (by omega), if_pos h1]
    · rw [if_neg h1]
      by_cases h2 : r = b
      · rw [if_pos h2, if_pos h2]
      · rw [if_neg h2, if_neg h2, if_neg h1]
  rw [det_lin ha, cm, cm, det_lin hb, det_lin hb] at z
  have s1 : det n (sr b (A a) (sr a (A a) A)) = 0 := det_same ha hb h fun j => by
    unfold sr
    rw [if_neg h, if_pos rfl, if_pos rfl]
  have s2 : det n (sr b (A b) (sr a (A b) A)) = 0 := det_same ha hb h fun j => by
    unfold sr
    rw [if_neg h, if_pos rfl, if_pos rfl]
  have s3 : sr b (A b) (sr a (A a) A) = A := by rw [sr_self, sr_self]
  have s4 : sr b (A a) (sr a (A b) A) = sw a b A := by
    funext r j
    unfold sr sw tw
    by_cases h1 : r = a
    · rw [if_neg (by omega), if_pos h1, if_pos h1]
    · by_cases h2 : r = b
      · rw [if_pos h2, if_neg h1, if_pos h2]
      · rw [if_neg h2, if_neg h1, if_neg h1, if_neg h2]
  rw [s1, s2, s3, s4] at z
  omega
theorem det_col0 : ∀ {n : Nat} {A : Mt}, (∀ i, i < n + 1 → A i 0 = 0) → det (n + 1) A = 0
  | n, A, h => by
    rw [det, sm_first, h 0 (by omega)]
    have e : sm n (fun i => sg (i + 1) * A 0 (i + 1) * det n (mi (i + 1) A)) = sm n (fun _ => 0) := sm_congr fun k hk => by
      obtain ⟨m, rfl⟩ : ∃ m, n = m + 1 := ⟨n - 1, by omega⟩
      rw [det_col0 (A := mi (k + 1) A) fun i hi => h _ (by omega)]
      omega
    rw [e, sm_zero]
    omega
theorem det_first {n : Nat} {A : Mt} (h : ∀ i, i < n → A (i + 1) 0 = 0) : det (n + 1) A = A 0 0 * det n (fun i j => A (i + 1) (j + 1)) := by
  rw [det, sm_first]
  have e : sm n (fun i => sg (i + 1) * A 0 (i + 1) * det n (mi (i + 1) A)) = sm n (fun _ => 0) := sm_congr fun k hk => by
    obtain ⟨m, rfl⟩ : ∃ m, n = m + 1 := ⟨n - 1, by omega⟩
    rw [det_col0 (A := mi (k + 1) A) fun i hi => h _ (by omega)]
    omega
  rw [e, sm_zero]
  have e2 : mi 0 A = fun i j => A (i + 1) (j + 1) := by
    funext i j
    unfold mi sk
    rw [if_neg (by omega)]
  rw [e2]
  show 1 * A 0 0 * _ + 0 = _
  rw [Int.one_mul, Int.add_zero]
theorem det_all {c : Int} : ∀ {n : Nat} {A : Mt}, det n (fun i j => c * A i j) = c ^ n * det n A
  | 0, _ => by simp [det]
  | n + 1, A => by
    rw [det, det, ← sm_mul]
    refine sm_congr fun k hk => ?_
    have e : mi k (fun i j => c * A i j) = fun i j => c * mi k A i j := rfl
    rw [e, det_all, Int.pow_succ]
    grind
end Dt
end

section
/-! One row taken off all others; Bareiss's way. -/
namespace Dt
/-- rows 1 .. r changed -/
def chr (A : Mt) (r : Nat) : Mt := fun i j => if 0 < i ∧ i ≤ r then A 0 0 * A i j + (- A i 0) * A 0 j else A i j
theorem det_chr {n : Nat} {A : Mt} : ∀ {r : Nat}, r ≤ n → det (n + 1) (chr A r) = A 0 0 ^ r * det (n + 1) A
  | 0, _ => by
    have : chr A 0 = A := by
      funext i j
      unfold chr
      rw [if_neg (by omega)]
    rw [this]
    simp
  | r + 1, h => by
    have e : chr A (r + 1) = sr (r + 1) (fun j => A 0 0 * A (r + 1) j + (- A (r + 1) 0) * A 0 j) (chr A r) := by
      funext i j
      unfold sr
      by_cases hi : i = r + 1
      · subst hi
        rw [if_pos rfl]
        unfold chr
        rw [if_pos (by omega)]
      · rw [if_neg hi]
        unfold chr
        by_cases h2 : 0 < i ∧ i ≤ r
        · rw [if_pos h2, if_pos (by omega)]
        · rw [if_neg h2, if_neg (by omega)]
    have r0 : ∀ j, chr A r 0 j = A 0 j := fun j => by unfold chr; rw [if_neg (by omega)]
    have r1 : ∀ j, chr A r (r + 1) j = A (r + 1) j := fun j => by unfold chr; rw [if_neg (by omega)]
    have s1 : sr (r + 1) (A (r + 1)) (chr A r) = chr A r := by
      have : A (r + 1) = chr A r (r + 1) := by funext j; rw [r1]
      rw [this, sr_self]
    have s2 : det (n + 1) (sr (r + 1) (A 0) (chr A r)) = 0 := det_same (a := r + 1) (b := 0) (by omega) (by omega) (by omega) fun j => by
      unfold sr
      rw [if_pos rfl, if_neg (by omega), r0]
    rw [e, det_lin (by omega), s1, s2, det_chr (by omega), Int.pow_succ]
    grind
def cond (A : Mt) : Mt := fun i j => A 0 0 * A (i + 1) (j + 1) - A (i + 1) 0 * A 0 (j + 1)
theorem det_cond0 {n : Nat} {A : Mt} : A 0 0 * det n (cond A) = A 0 0 ^ n * det (n + 1) A := by
  have h := det_chr (A := A) (Nat.le_refl n)
  have r0 : ∀ j, chr A n 0 j = A 0 j := fun j => by unfold chr; rw [if_neg (by omega)]
  have z : ∀ i, i < n → chr A n (i + 1) 0 = 0 := fun i hi => by
    unfold chr
    rw [if_pos (by omega)]
    grind
  rw [det_first z, r0] at h
  rw [← h]
  congr 1
  refine det_congr fun i j hi hj => ?_
  unfold chr cond
  rw [if_pos (by omega)]
  grind
theorem det_cond {n : Nat} {A : Mt} (h : A 0 0 ≠ 0) : det (n + 1) (cond A) = A 0 0 ^ n * det (n + 2) A := by
  have e := det_cond0 (n := n + 1) (A := A)
  rw [Int.pow_succ] at e
  have e2 : A 0 0 * det (n + 1) (cond A) = A 0 0 * (A 0 0 ^ n * det (n + 2) A) := by rw [e]; grind
  exact Int.eq_of_mul_eq_mul_left h e2
/-- each lot of r + 1 rows and columns weighs a multiple of l ^ r -/
def Good (l : Int) (N : Mt) : Prop := ∀ (r : Nat) (I J : Nat → Nat), l ^ r ∣ det (r + 1) (fun i j => N (I i) (J j))
theorem det_one (A : Mt) : det 1 A = A 0 0 := by
  simp [det, sm, sg]
theorem det_two_two (A : Mt) : det 2 A = A 0 0 * A 1 1 - A 1 0 * A 0 1 := by
  simp [det, sm, sg, mi, sk]
  grind
theorem Good.one (N : Mt) : Good 1 N := fun r I J => by
  rw [Int.one_pow]
  exact Int.one_dvd _
theorem Good.sw {l : Int} {N : Mt} (a b : Nat) (h : Good l N) : Good l (sw a b N) := fun r I J => h r (fun i => tw a b (I i)) J
def nxt (l : Int) (N : Mt) : Mt := fun i j => (cond N i j).fdiv l
theorem Good.exact {l : Int} {N : Mt} (h : Good l N) (hl : l ≠ 0) : cond N = fun i j => l * nxt l N i j := by
  funext i j
  have d := h 1 (fun r => if r = 0 then 0 else i + 1) (fun r => if r = 0 then 0 else j + 1)
  rw [det_two_two] at d
  have d : l ∣ cond N i j := by
    have e : l ^ 1 = l := by rw [Int.pow_succ, Int.pow_zero, Int.one_mul]
    rw [e] at d
    exact d
  unfold nxt
  rw [Int.mul_comm]
  exact (Int.fdiv_mul_cancel_of_dvd d).symm
/-- put ahead -/
def ah (I : Nat → Nat) (i : Nat) : Nat := match i with
  | 0 => 0
  | i + 1 => I i + 1
theorem Good.next {l : Int} {N : Mt} (h : Good l N) (hl : l ≠ 0) (hp : N 0 0 ≠ 0) : Good (N 0 0) (nxt l N) := fun r I J => by
  obtain ⟨d, hd⟩ := h (r + 1) (ah I) (ah J)
  have e1 : det (r + 1) (fun i j => cond N (I i) (J j)) = N 0 0 ^ r * det (r + 2) (fun i j => N (ah I i) (ah J j)) := by
    exact det_cond (A := fun i j => N (ah I i) (ah J j)) (n := r) hp
  rw [h.exact hl] at e1
  have e2 : det (r + 1) (fun i j => l * nxt l N (I i) (J j)) = l ^ (r + 1) * det (r + 1) (fun i j => nxt l N (I i) (J j)) := det_all (A := fun i j => nxt l N (I i) (J j))
  rw [e2, hd] at e1
  have e3 : l ^ (r + 1) * det (r + 1) (fun i j => nxt l N (I i) (J j)) = l ^ (r + 1) * (N 0 0 ^ r * d) := by rw [e1]; grind
  exact ⟨d, Int.eq_of_mul_eq_mul_left (Int.pow_ne_zero hl) e3⟩
theorem det_nxt {l : Int} {N : Mt} {m : Nat} (h : Good l N) (hl : l ≠ 0) (hp : N 0 0 ≠ 0) : l ^ (m + 1) * det (m + 1) (nxt l N) = N 0 0 ^ m * det (m + 2) N := by
  rw [← det_cond hp, h.exact hl, det_all]
/-! ### the program's way -/
def piv (n c : Nat) (M : Mt) : List Nat := (List.range (n - c)).filterMap fun i => if M (c + i) c ≠ 0 then some (c + i) else none
def stepM (c : Nat) (l : Int) (M : Mt) : Mt := fun k j => if c < k ∧ c < j then (M k j * M c c - M k c * M c j).fdiv l else M k j
def bar (n : Nat) : Nat → Nat → Mt → Int → Int → Int
  | 0, _, _, s, l => s * l
  | m + 1, c, M, s, l => match piv n c M with
    | [] => 0
    | p :: _ => bar n m (c + 1) (stepM c l (sw c p M)) (if p ≠ c then - s else s) (sw c p M c c)
theorem piv_nil {n c : Nat} {M : Mt} (h : piv n c M = []) : ∀ i, i < n - c → M (c + i) c = 0 := fun i hi => by
  unfold piv at h
  rw [List.filterMap_eq_nil_iff] at h
  have := h i (List.mem_range.mpr hi)
  split at this
  · cases this
  · rename_i q
    exact Classical.not_not.mp q
theorem piv_cons {n c p : Nat} {r : List Nat} {M : Mt} (h : piv n c M = p :: r) : c ≤ p ∧ p < n ∧ M p c ≠ 0 := by
  have hm : p ∈ piv n c M := by rw [h]; exact List.mem_cons_self
  unfold piv at hm
  obtain ⟨i, hi, e⟩ := List.mem_filterMap.mp hm
  have hi := List.mem_range.mp hi
  split at e
  · rename_i q
    cases e
    exact ⟨by omega, by omega, q⟩
  · cases e
theorem bar_det {n : Nat} : ∀ {m c : Nat} {M : Mt} {s l : Int}, n = c + m + 1 → l ≠ 0 → Good l (fun i j => M (c + i) (c + j)) → bar n (m + 1) c M s l * l ^ m = s * det (m + 1) (fun i j => M (c + i) (c + j))
  | m, c, M, s, l, hn, hl, hg => by
    unfold bar
    split
    · rename_i h
      have z := piv_nil h
      rw [det_col0 fun i hi => z i (by omega)]
      omega
    · rename_i p r h
      obtain ⟨h1, h2, h3⟩ := piv_cons h
      -- the active part, with its rows exchanged
      have eN : (fun i j => sw c p M (c + i) (c + j)) = sw 0 (p - c) (fun i j => M (c + i) (c + j)) := by
        funext i j
        unfold sw
        congr 1
        unfold tw
        repeat' split
        all_goals omega
      have hq : sw c p M c c = M p c := by unfold sw tw; rw [if_pos rfl]
      have hg1 : Good l (fun i j => sw c p M (c + i) (c + j)) := by rw [eN]; exact hg.sw _ _
      have hp : (fun i j => sw c p M (c + i) (c + j)) 0 0 ≠ 0 := by
        show sw c p M c c ≠ 0
        rw [hq]; exact h3
      have es : s * det (m + 1) (fun i j => M (c + i) (c + j)) = (if p ≠ c then - s else s) * det (m + 1) (fun i j => sw c p M (c + i) (c + j)) := by
        rw [eN]
        by_cases hpc : p = c
        · subst hpc
          rw [if_neg (by omega)]
          congr 2
          funext i j
          unfold sw
          congr 1
          unfold tw
          repeat' split
          all_goals omega
        · rw [if_pos hpc, det_swap (by omega) (by omega) (by omega)]
          grind
      rw [es]
      cases m with
      | zero =>
        unfold bar
        rw [det_one]
        simp
      | succ m =>
        have eN2 : (fun i j => stepM c l (sw c p M) (c + 1 + i) (c + 1 + j)) = nxt l (fun i j => sw c p M (c + i) (c + j)) := by
          funext i j
          unfold stepM nxt cond
          rw [if_pos (by omega)]
          congr 1
          have a1 : c + 1 + i = c + (i + 1) := by omega
          have a2 : c + 1 + j = c + (j + 1) := by omega
          rw [a1, a2]
          simp only [Nat.add_zero]
          grind
        have ih := bar_det (n := n) (m := m) (c := c + 1) (M := stepM c l (sw c p M)) (s := if p ≠ c then - s else s) (l := sw c p M c c) (by omega) (by rw [hq]; exact h3) (by rw [eN2]; exact hg1.next hl hp)
        rw [eN2] at ih
        have dn := det_nxt (m := m) hg1 hl hp
        simp only [Nat.add_zero] at dn
        have key : sw c p M c c ^ m * (bar n (m + 1) (c + 1) (stepM c l (sw c p M)) (if p ≠ c then - s else s) (sw c p M c c) * l ^ (m + 1)) = sw c p M c c ^ m * ((if p ≠ c then - s else s) * det (m + 1 + 1) (fun i j => sw c p M (c + i) (c + j))) := by
          generalize bar n (m + 1) (c + 1) (stepM c l (sw c p M)) (if p ≠ c then - s else s) (sw c p M c c) = B at ih ⊢
          generalize det (m + 1) (nxt l fun i j => sw c p M (c + i) (c + j)) = D1 at ih dn
          generalize det (m + 2) (fun i j => sw c p M (c + i) (c + j)) = D2 at dn ⊢
          generalize sw c p M c c ^ m = Q at ih dn ⊢
          generalize l ^ (m + 1) = L at dn ⊢
          generalize (if p ≠ c then - s else s) = S at ih ⊢
          grind
        exact Int.eq_of_mul_eq_mul_left (Int.pow_ne_zero (by rw [hq]; exact h3)) key
theorem bar_is_det (n : Nat) (A : Mt) : bar n n 0 A 1 1 = det n A := by
  cases n with
  | zero => rfl
  | succ m =>
    have h := bar_det (n := m + 1) (m := m) (c := 0) (M := A) (s := 1) (l := 1) (by omega) (by decide) (Good.one _)
    rw [Int.one_pow, Int.mul_one, Int.one_mul] at h
    rw [h]
    refine det_congr fun i j _ _ => ?_
    rw [Nat.zero_add, Nat.zero_add]
end Dt
end

section
/-! The walk of weight: a grid of its own, written in place. -/
namespace Ww
open PySem PySem.Spec PyProof.Rows L2 Wm Dt
def rowV (n : Nat) (f : Nat → Int) : List V := (List.range n).map fun j => V.int (f j)
theorem rowV_len {n : Nat} {f : Nat → Int} : (rowV n f).length = n := by unfold rowV; simp
theorem rowV_get {n j : Nat} {f : Nat → Int} (h : j < n) : (rowV n f)[j]? = some (.int (f j)) := by
  unfold rowV
  rw [List.getElem?_map, List.getElem?_range h]
  rfl
theorem rowV_set {n k : Nat} {f : Nat → Int} {x : Int} : (rowV n f).set k (.int x) = rowV n (fun j => if j = k then x else f j) := by
  apply List.ext_getElem?
  intro i
  by_cases h : i < n
  · rw [rowV_get h]
    by_cases e : k = i
    · subst e
      rw [List.getElem?_set_self (by rw [rowV_len]; exact h), if_pos rfl]
    · rw [List.getElem?_set_ne e, rowV_get h, if_neg (Ne.symm e)]
  · rw [List.getElem?_eq_none (by rw [List.length_set, rowV_len]; omega), List.getElem?_eq_none (by rw [rowV_len]; omega)]
theorem rowV_congr {n : Nat} {f g : Nat → Int} (h : ∀ j, j < n → f j = g j) : rowV n f = rowV n g := by
  unfold rowV
  exact List.map_congr_left fun j hj => by rw [h j (List.mem_range.mp hj)]
structure Mx (H0 H : Hp) (a : Addr) (bs : List Addr) (n : Nat) (M : Mt) : Prop where
  sm : Same H0 H
  na0 : H0 a = none
  nb0 : ∀ b ∈ bs, H0 b = none
  len : bs.length = n
  inj : ∀ (i j : Nat) (b : Addr), bs[i]? = some b → bs[j]? = some b → i = j
  na : a ∉ bs
  sz : n ≤ sizeLine
  out : H a = some (.lst (bs.map V.ref))
  row : ∀ (i : Nat) (b : Addr), bs[i]? = some b → H b = some (.lst (rowV n (M i)))
section
variable {H0 H : Hp} {a : Addr} {bs : List Addr} {n : Nat} {M : Mt} {K : PySem.W.Frag} {σ : L2.St} {Q : VK}
theorem Mx.tr (h : Mx H0 H a bs n M) {i : Nat} (hi : i < n) : ∃ b, bs[i]? = some b ∧ H b = some (.lst (rowV n (M i))) := by
  have hi' : i < bs.length := by rw [h.len]; exact hi
  exact ⟨bs[i], List.getElem?_eq_getElem hi', h.row i _ (List.getElem?_eq_getElem hi')⟩
theorem Mx.congr (h : Mx H0 H a bs n M) {M' : Mt} (e : ∀ i j, i < n → j < n → M i j = M' i j) : Mx H0 H a bs n M' :=
  ⟨h.sm, h.na0, h.nb0, h.len, h.inj, h.na, h.sz, h.out, fun i b hb => by
    have hi : i < n := by rw [← h.len]; exact (List.getElem?_eq_some_iff.mp hb).1
    rw [h.row i b hb, rowV_congr fun j hj => e i j hi hj]⟩
theorem Mx.new (h : Mx H0 H a bs n M) {p : Addr} {o : HO} (np : H p = none) : Mx H0 (upd H p o) a bs n M :=
  { h with
    sm := fun b u e => by
      have := h.sm b u e
      rw [upd_ne (fun z => by rw [z, np] at this; cases this)]
      exact this
    out := by rw [upd_ne (fun z => by have := h.out; rw [z, np] at this; cases this)]; exact h.out
    row := fun i b hb => by
      have := h.row i b hb
      rw [upd_ne (fun z => by rw [z, np] at this; cases this)]
      exact this }
/-- something else that is written -/
theorem Mx.other (h : Mx H0 H a bs n M) {p : Addr} {o : HO} (h0 : H0 p = none) (ha : p ≠ a) (hb : p ∉ bs) : Mx H0 (upd H p o) a bs n M :=
  { h with
    sm := fun b u e => by
      rw [upd_ne (fun z => by rw [z, h0] at e; cases e)]
      exact h.sm b u e
    out := by rw [upd_ne (Ne.symm ha)]; exact h.out
    row := fun i b hb' => by
      rw [upd_ne (fun z => hb (by rw [← z]; exact List.mem_of_getElem? hb'))]
      exact h.row i b hb' }
theorem Mx.sq (h : Mx H0 H a bs n M) : SqL K H a (bs.map V.ref) := SqL.of h.out
theorem rowSq {b : Addr} {f : Nat → Int} (h : H b = some (.lst (rowV n f))) : SqL K H b (rowV n f) := SqL.of h
theorem atN {xs : List V} {i : Nat} {v : V} (h : xs[i]? = some v) : atI xs (i : Int) = some v := atI_nat h
theorem Mx.at1 (h : Mx H0 H a bs n M) {i : Nat} {b : Addr} (hb : bs[i]? = some b) : atI (bs.map V.ref) (i : Int) = some (.ref b) := atN (by rw [List.getElem?_map, hb]; rfl)
/-- rows[x][y] -/
abbrev rdd (K : PySem.W.Frag) (p q : Nat) : TE := tOp (rIxL K) (tOp (rIxL K) (tVar 1) (tVar p)) (tVar q)
theorem Mx.rd (h : Mx H0 H a bs n M) {p q x y : Nat} (h1 : σ[1]? = some (some (.ref a))) (hp : σ[p]? = some (some (.int x))) (hq : σ[q]? = some (some (.int y))) (hx : x < n) (hy : y < n) (k : Q (.int (M x y)) H) : rdd K p q σ H Q := by
  obtain ⟨b, e1, e2⟩ := h.tr hx
  exact ⟨_, h1, _, hp, a, _, _, _, rfl, rfl, h.sq, h.at1 e1, _, hq, b, _, _, _, rfl, rfl, rowSq e2, atN (rowV_get hy), k⟩
theorem ixN_nat {n k : Nat} (h : k < n) : ixN n (k : Int) = some k := by
  unfold ixN
  rw [if_pos (by omega), if_pos (by omega)]
  rfl
theorem Mx.wr (h : Mx H0 H a bs n M) {k j : Nat} {b : Addr} {x : Int} (hb : bs[k]? = some b) : Mx H0 (upd H b (.lst ((rowV n (M k)).set j (.int x)))) a bs n (fun r c => if r = k ∧ c = j then x else M r c) := by
  have hm : b ∈ bs := List.mem_of_getElem? hb
  refine { h with sm := fun c u e => ?_, out := ?_, row := fun i c hc => ?_ }
  · rw [upd_ne (fun z => by rw [z, h.nb0 b hm] at e; cases e)]
    exact h.sm c u e
  · rw [upd_ne (fun z => h.na (by rw [z]; exact hm))]
    exact h.out
  · by_cases e : i = k
    · subst e
      rw [hb] at hc
      cases hc
      rw [upd_same, rowV_set]
      congr 2
      refine rowV_congr fun c hc => ?_
      by_cases e : c = j
      · rw [if_pos e, if_pos ⟨rfl, e⟩]
      · rw [if_neg e, if_neg (fun z => e z.2)]
    · have hne : c ≠ b := fun z => by
        subst z
        exact e (h.inj _ _ _ hc hb)
      rw [upd_ne hne, h.row i c hc]
      congr 2
      refine rowV_congr fun j hj => ?_
      rw [if_neg (fun z => e z.1)]
/-! ### rows[k][j] = .. // last, for one row -/
abbrev lenT (K : PySem.W.Frag) : TE := tCB (fun xs H Q => ∃ p ys, xs = [V.ref p] ∧ (SqL K H p ys ∨ SqT K H p ys) ∧ Q (V.int ys.length) H) (tCons (tVar 1) tNil)
theorem Mx.ln (h : Mx H0 H a bs n M) (h1 : σ[1]? = some (some (.ref a))) (k : Q (.int n) H) : lenT K σ H Q := by
  refine ⟨_, h1, a, bs.map V.ref, rfl, .inl h.sq, ?_⟩
  rw [List.length_map, h.len]
  exact k
abbrev rgT (K : PySem.W.Frag) : TI := iRng2 (tCons (tOp (rI0 fun i j => .int (i + j)) (tVar 2) (tC (V.int 1))) (tCons (lenT K) tNil))
theorem n62 (h : n ≤ sizeLine) : ((n : Nat) : Int) < 2 ^ 62 := by
  have : sizeLine = 16777216 := by decide
  omega
theorem Mx.rg (h : Mx H0 H a bs n M) {c : Nat} {R : It → Hp → Prop} (h1 : σ[1]? = some (some (.ref a))) (h2 : σ[2]? = some (some (.int c))) (hc : c < n) (k : R (Itr ((c + 1 : Nat) : Int) (n - (c + 1))) H) : rgT K σ H R := by
  refine ⟨_, h2, _, _, rfl, rfl, ?_⟩
  dsimp only
  unfold tCons
  refine h.ln h1 ?_
  refine ⟨_, _, rfl, ?_, ?_⟩
  · have := n62 h.sz
    refine ⟨?_, ?_, ?_, ?_⟩ <;> omega
  · have e1 : ((c : Int) + 1) = ((c + 1 : Nat) : Int) := by omega
    have e2 : ((n : Int) - (c + 1 : Nat)).toNat = n - (c + 1) := by omega
    rw [e1, e2]
    exact k
abbrev newT (K : PySem.W.Frag) : TE := tOp (rI CDv fun i j => .int (i.fdiv j)) (tOp (rI0 fun i j => .int (i - j)) (tOp (rI IntMulOk fun i j => .int (i * j)) (rdd K 6 8) (rdd K 2 2)) (tOp (rI IntMulOk fun i j => .int (i * j)) (rdd K 6 2) (rdd K 2 8))) (tVar 4)
abbrev innT (K : PySem.W.Frag) : TS := tAsg (newT K) (gSub (tOp (rIxL K) (tVar 1) (tVar 6)) (tVar 8) rSetL)
def nw (M : Mt) (c : Nat) (l : Int) (k j : Nat) : Int := (M k j * M c c - M k c * M c j).fdiv l
theorem nw_congr {M N : Mt} {c k x : Nat} {l : Int} (h1 : M k x = N k x) (h2 : M c c = N c c) (h3 : M k c = N k c) (h4 : M c x = N c x) : nw M c l k x = nw N c l k x := by
  unfold nw
  rw [h1, h2, h3, h4]
abbrev Sz (n b : Nat) (M : Mt) : Prop := ∀ i j, i < n → j < n → Builtin.Int.intBits (M i j) ≤ b
/-- for j in range(at + 1, len(rows)) -/
abbrev jT (K : PySem.W.Frag) : TS := tFor (rgT K) (gName 8) (innT K)
theorem Mx.jloop (h : Mx H0 H a bs n M) {c k b : Nat} {s l : Int} {D : Ends} {y0 y5 y7 y8 : Option V} (hc : c < n) (hck : c < k) (hk : k < n) (hl : CDv 0 l) (hs : ∀ r x, r = c ∨ r = k → x < n → Builtin.Int.intBits (M r x) ≤ b) (hb : b ≤ 2 ^ 20)
    (q : ∀ H' z8, Mx H0 H' a bs n (fun r x => if r = k ∧ c < x then nw M c l k x else M r x) → D.nx [y0, some (.ref a), some (.int c), some (.int s), some (.int l), y5, some (.int k), y7, z8] H') :
    jT K D [y0, some (.ref a), some (.int c), some (.int s), some (.int l), y5, some (.int k), y7, y8] H := by
  unfold jT tFor
  refine h.rg rfl rfl hc ?_
  refine ⟨fun i m σ' H' => ∃ z8, σ' = [y0, some (.ref a), some (.int c), some (.int s), some (.int l), y5, some (.int k), y7, z8] ∧ i + m = n - (c + 1) ∧ Mx H0 H' a bs n (fun r x => if r = k ∧ c < x ∧ x ≤ c + i then nw M c l k x else M r x),
    ⟨n - (c + 1), y8, rfl, by omega, h.congr fun r x _ _ => by rw [if_neg (by omega)]⟩, ?_⟩
  rintro i m σ' H' ⟨z8, rfl, hm, hx⟩
  by_cases hi : i < n - (c + 1)
  · refine .inr ⟨hi, fun σ2 H2 => ∃ z8, σ2 = [y0, some (.ref a), some (.int c), some (.int s), some (.int l), y5, some (.int k), y7, z8] ∧ Mx H0 H2 a bs n (fun r x => if r = k ∧ c < x ∧ x ≤ c + (i + 1) then nw M c l k x else M r x), fun σ2 H2 ⟨z, e1, e2⟩ => ⟨m - 1, by omega, z, e1, by omega, e2⟩, ?_⟩
    rintro x H3 ⟨rfl, rfl⟩
    have ej : ((c + 1 : Nat) : Int) + (i : Nat) = ((c + 1 + i : Nat) : Int) := by omega
    -- the numbers that are read stand as ahead
    have rd1 : ∀ r x, (r ≠ k ∨ x ≤ c ∨ c + i < x) → (if r = k ∧ c < x ∧ x ≤ c + i then nw M c l k x else M r x) = M r x := fun r x z => if_neg (by omega)
    show innT K _ [y0, some (.ref a), some (.int c), some (.int s), some (.int l), y5, some (.int k), y7, some (.int (((c + 1 : Nat) : Int) + (i : Nat)))] H3
    rw [ej]
    have mo : ∀ i' j i'' j', (i' = c ∨ i' = k) → j < n → (i'' = c ∨ i'' = k) → j' < n → IntMulOk (M i' j) (M i'' j') := fun i j i' j' q1 q2 q3 q4 => IntMulOk.of_bits (Nat.le_trans (hs i j q1 q2) hb) (Nat.le_trans (hs i' j' q3 q4) hb)
    have hj : c + 1 + i < n := by omega
    obtain ⟨bk, e1, e2⟩ := hx.tr hk
    refine hx.rd (x := k) (y := c + 1 + i) rfl rfl rfl hk hj (hx.rd (x := c) (y := c) rfl rfl rfl hc hc ?_)
    rw [rd1 k (c + 1 + i) (by omega), rd1 c c (by omega)]
    refine ⟨_, _, rfl, rfl, mo _ _ _ _ (.inr rfl) hj (.inl rfl) hc, hx.rd (x := k) (y := c) rfl rfl rfl hk hc (hx.rd (x := c) (y := c + 1 + i) rfl rfl rfl hc hj ?_)⟩
    rw [rd1 k c (by omega), rd1 c (c + 1 + i) (by omega)]
    refine ⟨_, _, rfl, rfl, mo _ _ _ _ (.inr rfl) hc (.inl rfl) hj, _, _, rfl, rfl, _, rfl, _, _, rfl, rfl, hl, ?_⟩
    refine ⟨_, rfl, _, rfl, a, _, _, _, rfl, rfl, hx.sq, hx.at1 e1, _, rfl, bk, _, _, c + 1 + i, rfl, rfl, e2, ?_, ?_⟩
    · rw [rowV_len]
      exact ixN_nat hj
    · refine ⟨_, rfl, (hx.wr e1).congr fun r x hr hx' => ?_⟩
      by_cases z : r = k ∧ x = c + 1 + i
      · rw [if_pos z, if_pos (by omega)]
        obtain ⟨_, rfl⟩ := z
        rfl
      · rw [if_neg z]
        by_cases z2 : r = k ∧ c < x ∧ x ≤ c + i
        · rw [if_pos z2, if_pos (by omega)]
        · rw [if_neg z2, if_neg (by omega)]
  · refine .inl ⟨by show n - (c + 1) ≤ i; omega, q H' z8 (hx.congr fun r x hr hxn => ?_)⟩
    by_cases z : r = k ∧ c < x
    · rw [if_pos z, if_pos (by omega)]
    · rw [if_neg z, if_neg (by omega)]
/-- for k in range(at + 1, len(rows)) -/
abbrev kT (K : PySem.W.Frag) : TS := tFor (rgT K) (gName 6) (jT K)
theorem Mx.kloop (h : Mx H0 H a bs n M) {c b : Nat} {s l : Int} {D : Ends} {y0 y5 y6 y7 y8 : Option V} (hc : c < n) (hl : CDv 0 l) (hs : Sz n b M) (hb : b ≤ 2 ^ 20)
    (q : ∀ H' z6 z8, Mx H0 H' a bs n (stepM c l M) → D.nx [y0, some (.ref a), some (.int c), some (.int s), some (.int l), y5, z6, y7, z8] H') :
    kT K D [y0, some (.ref a), some (.int c), some (.int s), some (.int l), y5, y6, y7, y8] H := by
  unfold kT tFor
  refine h.rg rfl rfl hc ?_
  refine ⟨fun i m σ' H' => ∃ z6 z8, σ' = [y0, some (.ref a), some (.int c), some (.int s), some (.int l), y5, z6, y7, z8] ∧ i + m = n - (c + 1) ∧ Mx H0 H' a bs n (fun r x => if c < r ∧ r ≤ c + i ∧ c < x then nw M c l r x else M r x),
    ⟨n - (c + 1), y6, y8, rfl, by omega, h.congr fun r x _ _ => by rw [if_neg (by omega)]⟩, ?_⟩
  rintro i m σ' H' ⟨z6, z8, rfl, hm, hx⟩
  by_cases hi : i < n - (c + 1)
  · refine .inr ⟨hi, fun σ2 H2 => ∃ z6 z8, σ2 = [y0, some (.ref a), some (.int c), some (.int s), some (.int l), y5, z6, y7, z8] ∧ Mx H0 H2 a bs n (fun r x => if c < r ∧ r ≤ c + (i + 1) ∧ c < x then nw M c l r x else M r x), fun σ2 H2 ⟨z, z', e1, e2⟩ => ⟨m - 1, by omega, z, z', e1, by omega, e2⟩, ?_⟩
    rintro x H3 ⟨rfl, rfl⟩
    have ej : ((c + 1 : Nat) : Int) + (i : Nat) = ((c + 1 + i : Nat) : Int) := by omega
    show jT K _ [y0, some (.ref a), some (.int c), some (.int s), some (.int l), y5, some (.int (((c + 1 : Nat) : Int) + (i : Nat))), y7, z8] H3
    rw [ej]
    have hk : c + 1 + i < n := by omega
    have rd1 : ∀ r x, (r ≤ c ∨ c + i < r) → (if c < r ∧ r ≤ c + i ∧ c < x then nw M c l r x else M r x) = M r x := fun r x z => if_neg (by omega)
    refine hx.jloop hc (by omega) hk hl (b := b) (fun r x hr hxn => ?_) hb fun H4 z8 hx4 => ⟨_, z8, rfl, hx4.congr fun r x hr hxn => ?_⟩
    · rw [rd1 r x (by omega)]
      exact hs r x (by omega) hxn
    · by_cases z : r = c + 1 + i ∧ c < x
      · rw [if_pos z, if_pos (by omega)]
        obtain ⟨rfl, _⟩ := z
        exact nw_congr (rd1 _ x (by omega)) (rd1 c c (by omega)) (rd1 _ c (by omega)) (rd1 c x (by omega))
      · rw [if_neg z]
        by_cases z2 : c < r ∧ r ≤ c + i ∧ c < x
        · rw [if_pos z2, if_pos (by omega)]
        · rw [if_neg z2, if_neg (by omega)]
  · refine .inl ⟨by show n - (c + 1) ≤ i; omega, q H' z6 z8 (hx.congr fun r x hr hxn => ?_)⟩
    unfold stepM
    by_cases z : c < r ∧ c < x
    · rw [if_pos z, if_pos (by omega)]
      rfl
    · rw [if_neg z, if_neg (by omega)]
/-! ### found = [k for k in range(at, len(rows)) if rows[k][at] != 0] -/
def pivTo (c i : Nat) (M : Mt) : List Nat := (List.range i).filterMap fun r => if M (c + r) c ≠ 0 then some (c + r) else none
theorem pivTo_succ {c i : Nat} : pivTo c (i + 1) M = pivTo c i M ++ if M (c + i) c ≠ 0 then [c + i] else [] := by
  unfold pivTo
  rw [List.range_succ, List.filterMap_append]
  congr 1
  by_cases e : M (c + i) c ≠ 0
  · rw [if_pos e]
    simp [e]
  · rw [if_neg e]
    simp [Classical.not_not.mp e]
theorem pivTo_len {c : Nat} : ∀ {i : Nat}, (pivTo c i M).length ≤ i := by
  intro i
  unfold pivTo
  exact Nat.le_trans (List.length_filterMap_le _ _) (by simp)
abbrev fT (K : PySem.W.Frag) : TS := tAsg (tLc (iRng2 (tCons (tVar 2) (tCons (lenT K) tNil))) (gName 6) (tTest (tOp rNe (rdd K 6 2) (tC (V.int 0)))) (tVar 6) [6]) (gName 5)
theorem Mx.found (h : Mx H0 H a bs n M) {c : Nat} {s l : Int} {D : Ends} {y0 y5 y6 y7 y8 : Option V} (hc : c < n)
    (q : ∀ H' p, Mx H0 H' a bs n M → H' p = some (.lst ((piv n c M).map fun (k : Nat) => V.int k)) → H0 p = none → p ≠ a → p ∉ bs → D.nx [y0, some (.ref a), some (.int c), some (.int s), some (.int l), some (.ref p), y6, y7, y8] H') :
    fT K D [y0, some (.ref a), some (.int c), some (.int s), some (.int l), y5, y6, y7, y8] H := by
  unfold fT tAsg tLc
  refine ⟨_, rfl, ?_⟩
  dsimp only
  unfold tCons
  refine h.ln rfl ?_
  have hn := n62 h.sz
  refine ⟨_, _, rfl, ⟨by omega, by omega, by omega, by omega⟩, ?_⟩
  have e2 : ((n : Int) - (c : Nat)).toNat = n - c := by omega
  rw [e2]
  intro p np
  have hp0 : H0 p = none := by
    cases e : H0 p with
    | none => rfl
    | some o => rw [h.sm p o e] at np; cases np
  have hpa : p ≠ a := fun z => by rw [z, h.out] at np; cases np
  have hpb : p ∉ bs := fun z => by
    obtain ⟨i, hi⟩ := List.mem_iff_getElem?.mp z
    rw [h.row i p hi] at np; cases np
  refine ⟨fun i m H' => i + m = n - c ∧ Mx H0 H' a bs n M ∧ H' p = some (.lst ((pivTo c i M).map fun (k : Nat) => V.int k)), ⟨n - c, by omega, h.new np, upd_same⟩, ?_⟩
  rintro i m H' ⟨hm, hx, hp⟩
  by_cases hi : i < n - c
  · refine .inr ⟨hi, fun H2 => Mx H0 H2 a bs n M ∧ H2 p = some (.lst ((pivTo c (i + 1) M).map fun (k : Nat) => V.int k)), fun H2 ⟨e1, e2⟩ => ⟨m - 1, by omega, by omega, e1, e2⟩, ?_⟩
    rintro x H3 ⟨rfl, rfl⟩
    have ej : ((c : Nat) : Int) + (i : Nat) = ((c + i : Nat) : Int) := by omega
    rw [ej]
    refine ⟨rfl, ?_⟩
    refine hx.rd (x := c + i) (y := c) rfl rfl rfl (by omega) hc ⟨rfl, _, rfl, ?_⟩
    by_cases e : M (c + i) c = 0
    · have e' : (!decide (V.int (M (c + i) c) = V.int 0)) = false := by rw [e]; rfl
      rw [e']
      show Mx H0 H3 a bs n M ∧ H3 p = some (.lst ((pivTo c (i + 1) M).map fun (k : Nat) => V.int k))
      refine ⟨hx, ?_⟩
      rw [pivTo_succ, if_neg (fun z => z e), List.append_nil]
      exact hp
    · have e' : (!decide (V.int (M (c + i) c) = V.int 0)) = true := by
        rw [decide_eq_false (fun z => e (V.int.inj z))]; rfl
      rw [e']
      refine (show ∃ v, _ ∧ _ from ⟨_, rfl, _, hp, ?_, hx.other hp0 hpa hpb, ?_⟩)
      · rw [List.length_map]
        have := pivTo_len (M := M) (c := c) (i := i)
        have := h.sz
        omega
      · rw [upd_same, pivTo_succ, if_pos e, List.map_append]
        rfl
  · have ei : i = n - c := by omega
    subst ei
    exact .inl ⟨Nat.le_refl _, q _ p hx hp hp0 hpa hpb⟩
/-! ### rows exchanged -/
theorem Mx.exch (h : Mx H0 H a bs n M) {c p : Nat} {bc bp : Addr} (hc : bs[c]? = some bc) (hp : bs[p]? = some bp) : Mx H0 (upd H a (.lst (((bs.map V.ref).set c (.ref bp)).set p (.ref bc)))) a ((bs.set c bp).set p bc) n (sw c p M) := by
  have lc := (List.getElem?_eq_some_iff.mp hc).1
  have lp := (List.getElem?_eq_some_iff.mp hp).1
  have g : ∀ i, ((bs.set c bp).set p bc)[i]? = bs[tw c p i]? := fun i => by
    unfold tw
    by_cases e1 : i = c
    · rw [if_pos e1, hp]
      subst e1
      by_cases e2 : p = i
      · subst e2
        rw [List.getElem?_set_self (by rw [List.length_set]; exact lp), ← hc, hp]
      · rw [List.getElem?_set_ne e2, List.getElem?_set_self lc]
    · rw [if_neg e1]
      by_cases e2 : i = p
      · rw [if_pos e2, hc]
        subst e2
        rw [List.getElem?_set_self (by rw [List.length_set]; exact lp)]
      · rw [if_neg e2, List.getElem?_set_ne (Ne.symm e2), List.getElem?_set_ne (Ne.symm e1)]
  have ti : ∀ i j, tw c p i = tw c p j → i = j := fun i j e => by
    unfold tw at e
    repeat' split at e
    all_goals omega
  have mem : ∀ b, b ∈ (bs.set c bp).set p bc → b ∈ bs := fun b hb => by
    obtain ⟨i, hi⟩ := List.mem_iff_getElem?.mp hb
    rw [g] at hi
    exact List.mem_of_getElem? hi
  refine ⟨fun b u e => ?_, h.na0, fun b hb => h.nb0 b (mem b hb), by rw [List.length_set, List.length_set, h.len], fun i j b h1 h2 => ?_, fun z => h.na (mem a z), h.sz, ?_, fun i b hb => ?_⟩
  · rw [upd_ne (fun z => by rw [z, h.na0] at e; cases e)]
    exact h.sm b u e
  · rw [g] at h1 h2
    exact ti _ _ (h.inj _ _ _ h1 h2)
  · rw [upd_same, List.map_set, List.map_set]
  · rw [g] at hb
    rw [upd_ne (fun z => h.na (by rw [← z]; exact List.mem_of_getElem? hb))]
    exact h.row _ b hb
abbrev f0T (K : PySem.W.Frag) : TE := tOp (rIxL K) (tVar 5) (tC (V.int 0))
abbrev swT (K : PySem.W.Frag) : TS := tIfS (tTest (tOp rNe (f0T K) (tVar 2)))
  (tSeq (tAsg (tTup (tCons (tOp (rIxL K) (tVar 1) (f0T K)) (tCons (tOp (rIxL K) (tVar 1) (tVar 2)) tNil))) (gTup K 2 (gCons (gSub (tVar 1) (tVar 2) rSetL) (gCons (gSub (tVar 1) (f0T K) rSetL) gNil))))
    (tAsg (tUn (rU fun i => V.int (-i)) (tVar 3)) (gName 3))) tNext
theorem Mx.swp (h : Mx H0 H a bs n M) {c p : Nat} {r : List Nat} {x : Addr} {s l : Int} {D : Ends} {y0 y6 y7 y8 : Option V} (hc : c < n) (hp : p < n) (hx : H x = some (.lst ((p :: r).map fun (k : Nat) => V.int k))) (hxa : x ≠ a)
    (q : ∀ H' bs', Mx H0 H' a bs' n (sw c p M) → D.nx [y0, some (.ref a), some (.int c), some (.int (if p ≠ c then -s else s)), some (.int l), some (.ref x), y6, y7, y8] H') :
    swT K D [y0, some (.ref a), some (.int c), some (.int s), some (.int l), some (.ref x), y6, y7, y8] H := by
  have rd0 : ∀ {σ : L2.St} {H : Hp} {Q : VK}, σ[5]? = some (some (.ref x)) → H x = some (.lst ((p :: r).map fun (k : Nat) => V.int k)) → Q (.int (p : Nat)) H → f0T K σ H Q := fun h1 h2 h3 => ⟨_, h1, x, _, _, _, rfl, rfl, SqL.of h2, atI_nat (j := 0) rfl, h3⟩
  refine rd0 rfl hx ⟨_, rfl, rfl, _, rfl, ?_⟩
  by_cases e : p = c
  · subst e
    have e' : (!decide (V.int (p : Nat) = V.int (p : Nat))) = false := by rw [decide_eq_true rfl]; rfl
    rw [e']
    have e2 : sw p p M = M := by
      funext i j
      unfold sw tw
      repeat' split
      all_goals simp_all
    rw [if_neg (fun z => z rfl), e2] at q
    exact q H bs h
  · have e' : (!decide (V.int (p : Nat) = V.int (c : Nat))) = true := by
      rw [decide_eq_false (fun z => e (by have := V.int.inj z; omega))]; rfl
    rw [e']
    rw [if_pos e] at q
    obtain ⟨bc, hc1, hc2⟩ := h.tr hc
    obtain ⟨bp, hp1, hp2⟩ := h.tr hp
    refine (show ∃ v, _ ∧ _ from ⟨_, rfl, rd0 rfl hx ⟨a, _, _, _, rfl, rfl, h.sq, h.at1 hp1, _, rfl, _, rfl, a, _, _, _, rfl, rfl, h.sq, h.at1 hc1, by show 2 ≤ sizeLine; decide, fun t nt => ?_⟩⟩)
    have ht := h.new (o := .tup [.ref bp, .ref bc]) nt
    have hta : t ≠ a := fun z => by rw [z, h.out] at nt; cases nt
    have htx : t ≠ x := fun z => by rw [z, hx] at nt; cases nt
    refine ⟨t, _, rfl, SqT.of upd_same, rfl, _, _, rfl, _, rfl, _, rfl, a, _, _, c, rfl, rfl, ht.out, ?_, _, _, rfl, _, rfl, ?_⟩
    · rw [List.length_map, h.len]
      exact ixN_nat hc
    · have hx1 : upd (upd H t (.tup [.ref bp, .ref bc])) a (.lst ((bs.map V.ref).set c (.ref bp))) x = some (.lst ((p :: r).map fun (k : Nat) => V.int k)) := by
        rw [upd_ne hxa, upd_ne (Ne.symm htx)]
        exact hx
      refine rd0 rfl hx1 ⟨a, _, _, p, rfl, rfl, upd_same, ?_, rfl, ?_⟩
      · rw [List.length_set, List.length_map, h.len]
        exact ixN_nat hp
      · have he := ht.exch hc1 hp1
        have eu : upd (upd (upd H t (.tup [.ref bp, .ref bc])) a (.lst ((bs.map V.ref).set c (.ref bp)))) a (.lst (((bs.map V.ref).set c (.ref bp)).set p (.ref bc))) = upd (upd H t (.tup [.ref bp, .ref bc])) a (.lst (((bs.map V.ref).set c (.ref bp)).set p (.ref bc))) := by
          funext z
          unfold upd
          split <;> rfl
        rw [eu]
        exact ⟨_, rfl, _, rfl, q _ _ he⟩
/-! ### if found == []: return 0 -/
theorem okNs_ints {m : Nat} : ∀ (ks : List Int), okNs m (ks.map D.int) = true
  | [] => rfl
  | k :: ks => by
    show (okN m (.int k) && okNs m (ks.map D.int)) = true
    rw [okNs_ints ks]
    cases m <;> rfl
abbrev emT (K : PySem.W.Frag) : TT := tTest (tOp (rEqD K) (tVar 5) (tLst tNil))
theorem emp {x : Addr} {ks : List Int} {R : Bool → Hp → Prop} (h5 : σ[5]? = some (some (.ref x))) (hx : H x = some (.lst (ks.map V.int))) (hz : ks.length ≤ sizeLine) (q : ∀ p, H p = none → R (decide (ks = [])) (upd H p (.lst []))) : emT K σ H R := by
  refine ⟨_, h5, by show 0 ≤ sizeLine; omega, fun p np => ?_⟩
  have hxp : x ≠ p := fun z => by rw [z, np] at hx; cases hx
  have hx' : upd H p (.lst []) x = some (.lst (ks.map V.int)) := by rw [upd_ne hxp]; exact hx
  have r1 : Rp ⟨K, fun _ => 0, fun _ => none, {}⟩ [] (upd H p (.lst [])) (.lst (ks.map D.int)) (.ref x) := by
    simp only [Rp]
    exact ⟨x, _, rfl, ⟨by rw [List.length_map]; exact hz, hx', by simp⟩, RpA.ofInts⟩
  have r2 : Rp ⟨K, fun _ => 0, fun _ => none, {}⟩ [] (upd H p (.lst [])) (.lst []) (.ref p) := by
    simp only [Rp, RpA]
    exact ⟨p, [], rfl, ⟨by show 0 ≤ sizeLine; omega, upd_same, by simp⟩, rfl⟩
  have k1 : okD (.lst (ks.map D.int)) = true := okNs_ints ks
  have k2 : okD (.lst []) = true := rfl
  refine ⟨_, _, r1.dp k1, r2.dp k2, okD_shaped k1, okD_shaped k2, _, rfl, ?_⟩
  rw [eqD_py k1 k2]
  have e : eqD (.lst (ks.map D.int)) (.lst []) = decide (ks = []) := by
    cases ks <;> rfl
  rw [e]
  exact q p np
/-! ### the loop -/
abbrev bodyT (K : PySem.W.Frag) : TS := tSeq (fT K) (tSeq (tIfS (emT K) (tRet (tC (V.int 0))) tNext) (tSeq (swT K) (tSeq (kT K) (tAsg (rdd K 2 2) (gName 4)))))
theorem piv_len {c : Nat} : (piv n c M).length ≤ n - c := pivTo_len (i := n - c)
theorem sz_sw {b c p : Nat} (hs : Sz n b M) (hc : c < n) (hp : p < n) : Sz n b (sw c p M) := fun i j hi hj => hs _ _ (by
  unfold tw
  split
  · exact hp
  · split
    · exact hc
    · exact hi) hj
theorem sz_step {b c : Nat} {l : Int} (hs : Sz n b M) (hc : c < n) : Sz n (2 * b + 1) (stepM c l M) := fun i j hi hj => by
  unfold stepM
  split
  · have := intBits_sub_le (intBits_mul_le (hs i j hi hj) (hs c c hc hc)) (intBits_mul_le (hs i c hi hc) (hs c j hc hj))
    exact Nat.le_trans (intBits_fdiv_le this) (by omega)
  · exact Nat.le_trans (hs i j hi hj) (by omega)
theorem cdv_of {b : Nat} {l : Int} (h0 : l ≠ 0) (hb : Builtin.Int.intBits l ≤ b) (h : b ≤ 9000) : CDv 0 l := by
  refine ⟨h0, (Nat.log2_lt (by omega)).mpr ?_⟩
  exact Nat.lt_of_lt_of_le (intBits_le_iff.mp hb) (Nat.pow_le_pow_right (by omega) h)
theorem Mx.body (h : Mx H0 H a bs n M) {c b : Nat} {s l : Int} {D : Ends} {y0 y5 y6 y7 y8 : Option V} (hc : c < n) (h0 : l ≠ 0) (hl : Builtin.Int.intBits l ≤ b) (hs : Sz n b M) (hb : b ≤ 9000)
    (q0 : piv n c M = [] → ∀ H', Same H0 H' → D.rt (.int 0) H')
    (q : ∀ p r, piv n c M = p :: r → ∀ H' bs' z5 z6 z8, Mx H0 H' a bs' n (stepM c l (sw c p M)) → D.nx [y0, some (.ref a), some (.int c), some (.int (if p ≠ c then -s else s)), some (.int (sw c p M c c)), z5, z6, y7, z8] H') :
    bodyT K D [y0, some (.ref a), some (.int c), some (.int s), some (.int l), y5, y6, y7, y8] H := by
  refine Mx.found h hc fun H1 x h1 hx hx0 hxa hxb => ?_
  have hxi : H1 x = some (.lst (((piv n c M).map fun (k : Nat) => (k : Int)).map V.int)) := by rw [hx, List.map_map]; rfl
  have hsz := h.sz
  refine emp rfl hxi (by rw [List.length_map]; have := piv_len (M := M) (n := n) (c := c); omega) fun p np => ?_
  have h2 := h1.new (o := .lst []) np
  cases e : piv n c M with
  | nil =>
    exact q0 e _ h2.sm
  | cons pv r =>
    obtain ⟨k1, k2, k3⟩ := piv_cons e
    have hxp : x ≠ p := fun z => by rw [z, np] at hx; cases hx
    have hx2 : upd H1 p (.lst []) x = some (.lst ((pv :: r).map fun (k : Nat) => V.int k)) := by rw [upd_ne hxp, hx, e]
    refine Mx.swp h2 hc k2 hx2 hxa fun H3 bs3 h3 => ?_
    refine Mx.kloop h3 hc (cdv_of h0 hl hb) (sz_sw hs hc k2) (by omega) fun H4 z6 z8 h4 => ?_
    refine h4.rd (x := c) (y := c) rfl rfl rfl hc hc ?_
    have ec : stepM c l (sw c pv M) c c = sw c pv M c c := by unfold stepM; rw [if_neg (by omega)]
    rw [ec]
    exact q pv r e H4 bs3 _ z6 z8 h4
def bd (b : Nat) : Nat → Nat
  | 0 => b
  | n + 1 => 2 * bd b n + 1
theorem bd_mono {b i : Nat} : ∀ {n : Nat}, i ≤ n → bd b i ≤ bd b n
  | 0, h => by rw [show i = 0 by omega]; exact Nat.le_refl _
  | n + 1, h => by
    by_cases e : i = n + 1
    · rw [e]; exact Nat.le_refl _
    · have := bd_mono (b := b) (i := i) (n := n) (by omega)
      show bd b i ≤ 2 * bd b n + 1
      omega
abbrev loopT (K : PySem.W.Frag) : TS := tSeq (tFor (iRng1 (tCons (lenT K) tNil)) (gName 2) (bodyT K)) (tRet (tOp (rI IntMulOk fun i j => .int (i * j)) (tVar 3) (tVar 4)))
theorem Mx.loop (h : Mx H0 H a bs n M) {D : Ends} {y0 y2 y5 y6 y7 y8 : Option V} {b0 : Nat} (h1 : 1 ≤ b0) (hn : bd b0 n ≤ 9000) (hs : Sz n b0 M) (q : ∀ H', Same H0 H' → D.rt (.int (det n M)) H') :
    loopT K D [y0, some (.ref a), y2, some (.int 1), some (.int 1), y5, y6, y7, y8] H := by
  unfold loopT tSeq tFor iRng1 tCons
  refine h.ln rfl ?_
  have hn2 := n62 h.sz
  refine ⟨_, rfl, by omega, by omega, ?_⟩
  have e0 : ((n : Nat) : Int).toNat = n := by omega
  rw [e0]
  refine ⟨fun i m σ' H' => ∃ bs' N s l z2 z5 z6 z7 z8, σ' = [y0, some (.ref a), z2, some (.int s), some (.int l), z5, z6, z7, z8] ∧ i + m = n ∧ Mx H0 H' a bs' n N ∧ (s = 1 ∨ s = -1) ∧ l ≠ 0 ∧ Builtin.Int.intBits l ≤ bd b0 i ∧ Sz n (bd b0 i) N ∧ bar n m i N s l = det n M,
    ⟨n, bs, M, 1, 1, y2, y5, y6, y7, y8, rfl, by omega, h, .inl rfl, by decide, Nat.le_trans (by decide +kernel : Builtin.Int.intBits 1 ≤ 1) h1, hs, bar_is_det n M⟩, ?_⟩
  rintro i m σ' H' ⟨bs', N, s, l, z2, z5, z6, z7, z8, rfl, hm, hx, hss, hl0, hlb, hsz, hbar⟩
  by_cases hi : i < n
  · obtain ⟨m', rfl⟩ : ∃ m', m = m' + 1 := ⟨m - 1, by omega⟩
    refine .inr ⟨hi, fun σ2 H2 => ∃ bs' N s l z2 z5 z6 z7 z8, σ2 = [y0, some (.ref a), z2, some (.int s), some (.int l), z5, z6, z7, z8] ∧ (i + 1) + m' = n ∧ Mx H0 H2 a bs' n N ∧ (s = 1 ∨ s = -1) ∧ l ≠ 0 ∧ Builtin.Int.intBits l ≤ bd b0 (i + 1) ∧ Sz n (bd b0 (i + 1)) N ∧ bar n m' (i + 1) N s l = det n M, fun σ2 H2 z => ⟨m', by omega, z⟩, ?_⟩
    rintro x H3 ⟨rfl, rfl⟩
    have ej : (0 : Int) + (i : Nat) = (i : Nat) := by omega
    rw [ej]
    refine Mx.body hx hi hl0 hlb hsz (Nat.le_trans (bd_mono (by omega)) hn) (fun ep H4 sm => ?_) fun p r ep H4 bs4 w5 w6 w8 h4 => ?_
    · have : det n M = 0 := by
        rw [← hbar]
        unfold bar
        rw [ep]
      rw [← this]
      exact q H4 sm
    · obtain ⟨k1, k2, k3⟩ := piv_cons ep
      have eq1 : sw i p N i i = N p i := by unfold sw tw; rw [if_pos rfl]
      refine ⟨bs4, _, _, _, _, w5, w6, _, w8, rfl, by omega, h4, ?_, by rw [eq1]; exact k3, ?_, sz_step (sz_sw hsz hi k2) hi, ?_⟩
      · split
        · rcases hss with z | z
          · right; rw [z]
          · left; rw [z]; rfl
        · exact hss
      · rw [eq1]
        exact Nat.le_trans (hsz p i k2 hi) (by show bd b0 i ≤ 2 * bd b0 i + 1; omega)
      · have hb := hbar
        unfold bar at hb
        rw [ep] at hb
        exact hb
  · have e1 : i = n := by omega
    have e2 : m = 0 := by omega
    subst e1 e2
    refine .inl ⟨Nat.le_refl _, _, rfl, _, rfl, _, _, rfl, rfl, IntMulOk.of_left ?_, ?_⟩
    · rcases hss with z | z <;> (rw [z]; decide +kernel)
    · have hb : s * l = det i M := hbar
      show D.rt (.int (s * l)) H'
      rw [hb]
      exact q _ hx.sm
/-! ### rows = [list(row) for row in grid] -/
theorem sqL_same {H' : Hp} {xs : List V} (h : Same H H') (q : SqL K H a xs) : SqL K H' a xs := by
  rcases q with (q | ⟨o, q⟩) | q
  · exact .inl (.inl (h _ _ q))
  · exact .inl (.inr ⟨o, h _ _ q⟩)
  · exact .inr q
theorem sqT_same {H' : Hp} {xs : List V} (h : Same H H') (q : SqT K H a xs) : SqT K H' a xs := by
  rcases q with (q | ⟨o, q⟩) | q
  · exact .inl (.inl (h _ _ q))
  · exact .inl (.inr ⟨o, h _ _ q⟩)
  · exact .inr q
abbrev mkT (K : PySem.W.Frag) : TS := tAsg (tLc (iList K (tVar 0)) (gName 7) tYes (tCB (fun xs H Q => ∃ p ys, xs = [V.ref p] ∧ (SqL K H p ys ∨ SqT K H p ys) ∧ ∀ l, H l = none → Q (V.ref l) (upd H l (HO.lst ys))) (tCons (tVar 7) tNil)) [7]) (gName 1)
theorem made {g : Addr} {vs : List V} {G : Mt} {D : Ends} {y1 y2 y3 y4 y5 y6 y7 y8 : Option V} (hz : n ≤ sizeLine) (hg : SqL K H g vs) (hl : vs.length = n) (hr : ∀ i, i < n → ∃ t, vs[i]? = some (.ref t) ∧ SqT K H t (rowV n (G i)))
    (q : ∀ H' p bs, Mx H H' p bs n G → D.nx [some (.ref g), some (.ref p), y2, y3, y4, y5, y6, y7, y8] H') : mkT K D [some (.ref g), y1, y2, y3, y4, y5, y6, y7, y8] H := by
  unfold mkT tAsg tLc
  refine ⟨_, rfl, g, rfl, ⟨vs, hg⟩, fun p np => ?_⟩
  refine ⟨fun i m H' => ∃ bs : List Addr, bs.length = i ∧ i + m = n ∧ Same H H' ∧ H' p = some (.lst (bs.map V.ref)) ∧ p ∉ bs ∧ (∀ b ∈ bs, H b = none) ∧ (∀ (i j : Nat) (b : Addr), bs[i]? = some b → bs[j]? = some b → i = j) ∧ ∀ (i : Nat) (b : Addr), bs[i]? = some b → H' b = some (.lst (rowV n (G i))),
    ⟨n, [], rfl, by omega, same_upd np, upd_same, by simp, by simp, by simp, by simp⟩, ?_⟩
  rintro i m H' ⟨bs, hlen, hm, sm, hp, hpb, hb0, inj, rows⟩
  by_cases hi : i < n
  · obtain ⟨t, ht1, ht2⟩ := hr i hi
    refine .inr ⟨⟨vs, _, sqL_same sm hg, ht1⟩, fun H' => ∃ bs : List Addr, bs.length = i + 1 ∧ Same H H' ∧ H' p = some (.lst (bs.map V.ref)) ∧ p ∉ bs ∧ (∀ b ∈ bs, H b = none) ∧ (∀ (i j : Nat) (b : Addr), bs[i]? = some b → bs[j]? = some b → i = j) ∧ ∀ (i : Nat) (b : Addr), bs[i]? = some b → H' b = some (.lst (rowV n (G i))),
      fun H2 ⟨bs, e1, e2⟩ => ⟨m - 1, by omega, bs, e1, by omega, e2⟩, ?_⟩
    rintro x H3 ⟨rfl, hy⟩
    have ex := (hy vs (sqL_same sm hg)).symm.trans ht1
    cases ex
    refine ⟨rfl, _, rfl, t, _, rfl, .inr (sqT_same sm ht2), fun l nl => ?_⟩
    have hlp : p ≠ l := fun z => by rw [z, nl] at hp; cases hp
    have hl0 : H l = none := by
      cases e : H l with
      | none => rfl
      | some o => rw [sm l o e] at nl; cases nl
    have hlb : l ∉ bs := fun z => by
      obtain ⟨j, hj⟩ := List.mem_iff_getElem?.mp z
      rw [rows j l hj] at nl; cases nl
    refine ⟨bs.map V.ref, by rw [upd_ne hlp]; exact hp, by rw [List.length_map]; omega, bs ++ [l], by rw [List.length_append, hlen]; rfl, fun b o e => ?_, ?_, ?_, ?_, ?_, ?_⟩
    · have h1 : b ≠ p := fun z => by rw [z, np] at e; cases e
      have h2 : b ≠ l := fun z => by rw [z, hl0] at e; cases e
      rw [upd_ne h1, upd_ne h2]
      exact sm b o e
    · rw [upd_same, List.map_append]; rfl
    · intro z
      rcases List.mem_append.mp z with z | z
      · exact hpb z
      · exact hlp (by simpa using z)
    · intro b hb
      rcases List.mem_append.mp hb with z | z
      · exact hb0 b z
      · have : b = l := by simpa using z
        rw [this]; exact hl0
    · have key : ∀ (j : Nat) (b : Addr), (bs ++ [l])[j]? = some b → (j < bs.length ∧ bs[j]? = some b) ∨ (j = bs.length ∧ b = l) := fun j b e => by
        by_cases hj : j < bs.length
        · rw [List.getElem?_append_left hj] at e
          exact .inl ⟨hj, e⟩
        · rw [List.getElem?_append_right (by omega)] at e
          have hj2 : j - bs.length = 0 := by
            have := (List.getElem?_eq_some_iff.mp e).1
            simp at this
            omega
          rw [hj2] at e
          exact .inr ⟨by omega, by simpa using e.symm⟩
      intro j k b e1 e2
      rcases key j b e1 with ⟨a1, a2⟩ | ⟨a1, a2⟩ <;> rcases key k b e2 with ⟨a3, a4⟩ | ⟨a3, a4⟩
      · exact inj _ _ _ a2 a4
      · exact absurd (List.mem_of_getElem? a2) (by rw [a4]; exact hlb)
      · exact absurd (List.mem_of_getElem? a4) (by rw [a2]; exact hlb)
      · omega
    · intro j b e
      by_cases hj : j < bs.length
      · rw [List.getElem?_append_left hj] at e
        have hm := List.mem_of_getElem? e
        rw [upd_ne (fun z => hpb (by rw [← z]; exact hm)), upd_ne (fun z => hlb (by rw [← z]; exact hm))]
        exact rows j b e
      · rw [List.getElem?_append_right (by omega)] at e
        have hj2 : j - bs.length = 0 := by
          have := (List.getElem?_eq_some_iff.mp e).1
          simp at this
          omega
        rw [hj2] at e
        have eb : b = l := by simpa using e.symm
        have ej : j = i := by omega
        subst eb ej
        rw [upd_ne (Ne.symm hlp), upd_same]
  · refine .inl ⟨⟨vs, sqL_same sm hg, by omega⟩, q _ p bs ⟨sm, np, hb0, by omega, inj, hpb, hz, hp, rows⟩⟩
/-- all of it -/
abbrev wT (K : PySem.W.Frag) : TS := tSeq (mkT K) (tSeq (tAsg (tTup (tCons (tC (V.int 1)) (tCons (tC (V.int 1)) tNil))) (gTup K 2 (gCons (gName 3) (gCons (gName 4) gNil)))) (loopT K))
theorem whole {g : Addr} {vs : List V} {G : Mt} {D : Ends} {y1 y2 y3 y4 y5 y6 y7 y8 : Option V} {b0 : Nat} (h1 : 1 ≤ b0) (hn6 : n ≤ 100) (hn : bd b0 n ≤ 9000) (hs : Sz n b0 G) (hg : SqL K H g vs) (hl : vs.length = n) (hr : ∀ i, i < n → ∃ t, vs[i]? = some (.ref t) ∧ SqT K H t (rowV n (G i)))
    (q : ∀ H', Same H H' → D.rt (.int (det n G)) H') : wT K D [some (.ref g), y1, y2, y3, y4, y5, y6, y7, y8] H := by
  have hz : n ≤ sizeLine := Nat.le_trans hn6 (by decide)
  unfold wT tSeq
  refine made hz hg hl hr fun H1 p bs hx1 => ?_
  refine ⟨by show 2 ≤ sizeLine; decide, fun t nt => ?_⟩
  refine ⟨t, _, rfl, SqT.of upd_same, rfl, _, _, rfl, _, _, rfl, rfl, ?_⟩
  exact Mx.loop (hx1.new nt) h1 hn hs q
end
end Ww
end

section
namespace Ww
open PySem PySem.Spec PyProof.Rows L2 Wm Dt
def entry (rows : List D) (i j : Nat) : Int := match rows[i]? with
  | some (.tup ds) => match ds[j]? with
    | some (.int x) => x
    | _ => 0
  | _ => 0
def okG (rows : List D) : Prop := rows.length ≤ 100 ∧ (∀ i, i < rows.length → rows[i]? = some (.tup ((List.range rows.length).map fun j => .int (entry rows i j)))) ∧ ∃ b, 1 ≤ b ∧ bd b rows.length ≤ 9000 ∧ Sz rows.length b (entry rows)
noncomputable instance (rows : List D) : Decidable (okG rows) := Classical.propDecidable _
def lstOf : SD → Option (List D)
  | .sh (.lst xs) => some xs
  | .own xs => some xs
  | .byr xs => some xs
  | _ => none
noncomputable def gW : Ss := fun ρ => match ρ with
  | [s0, _, _, _, _, _, _, _, _] => match lstOf s0 with
    | some rows => if okG rows then .ok (.rt (.sh (.int (det rows.length (entry rows)))) [s0, .no, .no, .no, .no, .no, .no, .no, .no]) else .bad
    | none => .bad
  | _ => .bad
section
variable {K : PySem.W.Frag} {cl : Cl} {vs0 : List V} {Wx : WX}
theorem gW_sound (O W : List Addr) (σ : L2.St) (H : Hp) (ρ : List SD) (E : Ends) (sr : SR (gk K cl) vs0 O W σ H ρ) (hw : AftS (gk K cl) vs0 Wx O W H E (gW ρ)) : wT K E σ H := by
  unfold gW at hw
  split at hw
  · rename_i s0 s1 s2 s3 s4 s5 s6 s7 s8
    split at hw
    · rename_i rows er
      split at hw
      · rename_i ok
        obtain ⟨h6, hrow, b0, hb1, hb2, hsz⟩ := ok
        -- the list at slot 0
        have hg : ∃ g vs, σ[0]? = some (some (.ref g)) ∧ H g = some (.lst vs) ∧ RpA (gk K cl) O H rows vs := by
          have q := sr.slot 0 s0 rfl
          cases s0 with
          | no => cases er
          | xn _ _ => cases er
          | gv => cases er
          | sh d =>
            obtain ⟨v, e1, e2⟩ := q
            cases d with
            | lst xs =>
              cases er
              simp only [Rp] at e2
              obtain ⟨g, vs, rfl, lo, ra⟩ := e2
              exact ⟨g, vs, Option.join_eq_some_iff.mp e1, lo.2.1, ra⟩
            | _ => cases er
          | own xs =>
            cases er
            obtain ⟨g, e1, _, vs, e2, _, ra⟩ := q
            exact ⟨g, vs, Option.join_eq_some_iff.mp e1, e2, ra⟩
          | byr xs =>
            cases er
            obtain ⟨g, e1, _, _, vs, e2, _, ra⟩ := q
            exact ⟨g, vs, Option.join_eq_some_iff.mp e1, e2, ra⟩
        obtain ⟨g, vs, eg, hH, ra⟩ := hg
        have hlen := sr.len
        match σ, hlen, eg, sr with
        | [x0, x1, x2, x3, x4, x5, x6, x7, x8], hlen, eg, sr =>
          cases eg
          refine whole (n := rows.length) (G := entry rows) hb1 h6 hb2 hsz (SqL.of hH) ra.length.symm (fun i hi => ?_) fun H' sm => ?_
          · obtain ⟨v, e1, e2⟩ := ra.getD (hrow i hi)
            simp only [Rp] at e2
            obtain ⟨t, ws, rfl, to, rb⟩ := e2
            refine ⟨t, e1, ?_⟩
            have e3 : (List.range rows.length).map (fun j => D.int (entry rows i j)) = ((List.range rows.length).map (entry rows i)).map D.int := by rw [List.map_map]; rfl
            rw [e3] at rb
            have e4 := rb.ints
            rw [e4, List.map_map] at to
            exact to.sq
          · have sr' := sr.same sm
            refine hw (.int (det rows.length (entry rows))) [some (.ref g), x1, x2, x3, x4, x5, x6, x7, x8] O W H' (Stp.same sm) ⟨sr'.wf, rfl, fun i s e => ?_, fun i j s t b e1 e2 m1 m2 q1 q2 => ?_, sr'.tabs⟩ ?_
            · match i, e with
              | 0, e => cases e; exact sr'.slot 0 s0 rfl
              | 1, e => cases e; trivial
              | 2, e => cases e; trivial
              | 3, e => cases e; trivial
              | 4, e => cases e; trivial
              | 5, e => cases e; trivial
              | 6, e => cases e; trivial
              | 7, e => cases e; trivial
              | 8, e => cases e; trivial
              | i + 9, e => cases e
            · have key : ∀ (i : Nat) (s : SD), [s0, .no, .no, .no, .no, .no, .no, .no, .no][i]? = some s → s.mine = true → i = 0 := fun i s e m => by
                match i, e with
                | 0, _ => rfl
                | 1, e => cases e; cases m
                | 2, e => cases e; cases m
                | 3, e => cases e; cases m
                | 4, e => cases e; cases m
                | 5, e => cases e; cases m
                | 6, e => cases e; cases m
                | 7, e => cases e; cases m
                | 8, e => cases e; cases m
                | i + 9, e => cases e
              rw [key i s e1 m1, key j t e2 m2]
            · simp only [ResR, Rp]
      · exact hw.elim
    · exact hw.elim
  · exact hw.elim
end
end Ww
end

section
/-! Rows led down in a column, again and again by the least one: how it ends, how great the numbers grow. -/
namespace Rd
def at0 (r : List Int) (p : Nat) : Int := r.getD p 0
def addL (r s : List Int) (m : Int) : List Int := List.zipWith (fun a b => a + m * b) r s
def cut (c : Nat) (f r : List Int) : List Int := addL r f (-((at0 r c).fdiv (at0 f c)))
def Bn (N : Nat) (r : List Int) : Prop := ∀ x ∈ r, x.natAbs ≤ N
theorem Bn.le {N M : Nat} {r : List Int} (h : Bn N r) (hl : N ≤ M) : Bn M r := fun x hx => Nat.le_trans (h x hx) hl
theorem at0_mem {r : List Int} {c : Nat} (h : c < r.length) : at0 r c ∈ r := by
  unfold at0
  rw [List.getD_eq_getElem?_getD, List.getElem?_eq_getElem h]
  exact List.getElem_mem h
theorem Bn.at {N c : Nat} {r : List Int} (h : Bn N r) (hc : c < r.length) : (at0 r c).natAbs ≤ N := h _ (at0_mem hc)
theorem addL_len {r s : List Int} {m : Int} (h : r.length = s.length) : (addL r s m).length = r.length := by simp [addL, h]
theorem at0_addL {r s : List Int} {m : Int} {c : Nat} (h1 : c < r.length) (h2 : c < s.length) : at0 (addL r s m) c = at0 r c + m * at0 s c := by
  unfold at0 addL
  simp only [List.getD_eq_getElem?_getD]
  rw [List.getElem?_eq_getElem h1, List.getElem?_eq_getElem h2, List.getElem?_eq_getElem (by simp; omega)]
  simp
theorem mem_addL {s : List Int} {m x : Int} : ∀ {r s : List Int}, x ∈ addL r s m → ∃ a ∈ r, ∃ b ∈ s, x = a + m * b
  | [], s, h => by simp [addL] at h
  | a :: r, [], h => by simp [addL] at h
  | a :: r, b :: s, h => by
    have h : x = a + m * b ∨ x ∈ addL r s m := by simpa [addL] using h
    rcases h with h | h
    · exact ⟨a, by simp, b, by simp, h⟩
    · obtain ⟨a', ha, b', hb, e⟩ := mem_addL (s := s) h
      exact ⟨a', by simp [ha], b', by simp [hb], e⟩
theorem addL_bn {N M k : Nat} {r s : List Int} {m : Int} (h1 : Bn N r) (h2 : Bn M s) (hm : m.natAbs ≤ k) : Bn (N + k * M) (addL r s m) := by
  intro x hx
  obtain ⟨a, ha, b, hb, rfl⟩ := mem_addL (s := s) hx
  have e1 := h1 a ha
  have e2 := h2 b hb
  have e3 : (m * b).natAbs ≤ k * M := by rw [Int.natAbs_mul]; exact Nat.mul_le_mul hm e2
  have := Int.natAbs_add_le a (m * b)
  omega
theorem cut_len {c : Nat} {f r : List Int} (h : r.length = f.length) : (cut c f r).length = r.length := addL_len h
theorem cut_at {c : Nat} {f r : List Int} (h1 : c < r.length) (h2 : c < f.length) : at0 (cut c f r) c = (at0 r c).fmod (at0 f c) := by
  unfold cut
  rw [at0_addL h1 h2, Int.fmod_def, Int.neg_mul, Int.mul_comm (at0 f c)]
  omega
/-! ### division -/
theorem fmod_lt (x y : Int) (hy : y ≠ 0) : (x.fmod y).natAbs < y.natAbs := by
  by_cases h : 0 < y
  · have h1 := Int.fmod_nonneg_of_pos x h
    have h2 := Int.fmod_lt_of_pos x h
    omega
  · have h1 := Int.fmod_nonneg_of_pos (-x) (show 0 < -y by omega)
    have h2 := Int.fmod_lt_of_pos (-x) (show 0 < -y by omega)
    rw [Int.neg_fmod_neg] at h1 h2
    omega
theorem fmod_sign (x y : Int) (hy : y ≠ 0) (h0 : x.fmod y ≠ 0) : 0 < x.fmod y ↔ 0 < y := by
  by_cases h : 0 < y
  · have h1 := Int.fmod_nonneg_of_pos x h
    constructor
    · intro _; exact h
    · intro _; omega
  · have h1 := Int.fmod_nonneg_of_pos (-x) (show 0 < -y by omega)
    rw [Int.neg_fmod_neg] at h1
    constructor
    · intro h2; omega
    · intro h2; exact absurd h2 h
theorem fdiv_mul (x y : Int) : y * x.fdiv y = x - x.fmod y := by
  have := Int.fmod_def x y
  omega
theorem fdiv_le (x y : Int) (hy : y ≠ 0) : (x.fdiv y).natAbs ≤ x.natAbs + 1 := by
  have h1 := fdiv_mul x y
  have h2 := fmod_lt x y hy
  have h3 : (y * x.fdiv y).natAbs ≤ x.natAbs + (y.natAbs - 1) := by
    rw [h1]
    have := Int.natAbs_sub_le x (x.fmod y)
    omega
  rw [Int.natAbs_mul] at h3
  have hp : 1 ≤ y.natAbs := by omega
  by_cases hq : (x.fdiv y).natAbs ≤ x.natAbs + 1
  · exact hq
  · exfalso
    have hq : x.natAbs + 2 ≤ (x.fdiv y).natAbs := by omega
    have h4 : y.natAbs * (x.natAbs + 2) ≤ y.natAbs * (x.fdiv y).natAbs := Nat.mul_le_mul_left _ hq
    have h5 : x.natAbs ≤ y.natAbs * x.natAbs := Nat.le_mul_of_pos_left _ hp
    have h6 : y.natAbs * (x.natAbs + 2) = y.natAbs * x.natAbs + y.natAbs * 2 := Nat.mul_add ..
    omega
/-- of the same sign -/
theorem same_sgn {x y : Int} (hx : x ≠ 0) (hy : y ≠ 0) (h : 0 < x ↔ 0 < y) : (x.fdiv y).natAbs * y.natAbs ≤ x.natAbs ∧ (x.fmod y).natAbs = x.natAbs % y.natAbs := by
  have key : ∀ x y : Int, 0 < x → 0 < y → (x.fdiv y).natAbs * y.natAbs ≤ x.natAbs ∧ (x.fmod y).natAbs = x.natAbs % y.natAbs := fun x y hx hy => by
    have e1 : x.fdiv y = x / y := Int.fdiv_eq_ediv_of_nonneg x (by omega)
    have e2 : x.fmod y = x % y := Int.fmod_eq_emod_of_nonneg x (by omega)
    rw [e1, e2]
    obtain ⟨a, rfl⟩ : ∃ a : Nat, x = a := ⟨x.toNat, by omega⟩
    obtain ⟨b, rfl⟩ : ∃ b : Nat, y = b := ⟨y.toNat, by omega⟩
    have e3 : ((a : Int) / (b : Int)).natAbs = a / b := by rw [← Int.natCast_ediv]; rfl
    have e4 : ((a : Int) % (b : Int)).natAbs = a % b := by rw [← Int.natCast_emod]; rfl
    rw [e3, e4]
    exact ⟨Nat.div_mul_le_self a b, rfl⟩
  by_cases hp : 0 < x
  · exact key x y hp (h.mp hp)
  · have hq : ¬ 0 < y := fun z => hp (h.mpr z)
    have := key (-x) (-y) (by omega) (by omega)
    rw [Int.neg_fdiv_neg, Int.neg_fmod_neg] at this
    simpa using this
end Rd
end

section
namespace Rd
abbrev Rows := List (List Int)
def nz (c : Nat) (r : List Int) : Bool := at0 r c != 0
def zr (c : Nat) (r : List Int) : Bool := at0 r c == 0
/-- what is led down by f -/
def led (c : Nat) (f : List Int) (S : Rows) : Rows := (S.erase f).map (cut c f)
/-- from rows to rows, by the least ones -/
inductive Red (c : Nat) : Rows → Rows → Rows → Rows → Prop
  | done (S O : Rows) : Red c S O S O
  | step {S O S' O' : Rows} (f : List Int) (hf : f ∈ S) (hm : ∀ r ∈ S, (at0 f c).natAbs ≤ (at0 r c).natAbs) (h : Red c (f :: (led c f S).filter (nz c)) (O ++ (led c f S).filter (zr c)) S' O') : Red c S O S' O'
/-- all of a width, not greater than N -/
def Wd (n N : Nat) (S : Rows) : Prop := ∀ r ∈ S, r.length = n ∧ Bn N r
/-- behind the first turn -/
structure Ph (c n M : Nat) (S O : Rows) (a X : Nat) : Prop where
  ex : ∃ p rest, S = p :: rest ∧ (at0 p c).natAbs = a ∧ (∀ r ∈ rest, (at0 r c).natAbs < a ∧ at0 r c ≠ 0 ∧ (0 < at0 r c ↔ 0 < at0 p c)) ∧ (rest ≠ [] → ∃ r ∈ rest, X * a * a * (at0 r c).natAbs ≤ M)
  a0 : 0 < a
  w : Wd n X S
  x : X ≤ 2 * M
  o : Wd n (2 * M) O
theorem Wd.le {n N M : Nat} {S : Rows} (h : Wd n N S) (hl : N ≤ M) : Wd n M S := fun r hr => ⟨(h r hr).1, (h r hr).2.le hl⟩
theorem Wd.app {n N : Nat} {S T : Rows} (h : Wd n N S) (g : Wd n N T) : Wd n N (S ++ T) := fun r hr => by
  rcases List.mem_append.mp hr with hr | hr
  · exact h r hr
  · exact g r hr
theorem Wd.filter {n N : Nat} {S : Rows} {p : List Int → Bool} (h : Wd n N S) : Wd n N (S.filter p) := fun r hr => h r (List.mem_filter.mp hr).1
theorem mem_led {c : Nat} {f r : List Int} {S : Rows} (h : r ∈ led c f S) : ∃ s ∈ S.erase f, r = cut c f s := by
  obtain ⟨s, hs, e⟩ := List.mem_map.mp h
  exact ⟨s, hs, e.symm⟩
/-- one turn behind the first one -/
theorem Ph.next {c n M a X : Nat} {S O : Rows} (h : Ph c n M S O a X) (hc : c < n) (h2 : 1 < S.length) {f : List Int} (hf : f ∈ S) (hm : ∀ r ∈ S, (at0 f c).natAbs ≤ (at0 r c).natAbs) :
    ∃ X', Ph c n M (f :: (led c f S).filter (nz c)) (O ++ (led c f S).filter (zr c)) (at0 f c).natAbs X' ∧ (at0 f c).natAbs < a := by
  obtain ⟨p, rest, rfl, ha, hr, hb⟩ := h.ex
  have hne : rest ≠ [] := fun z => by subst z; simp at h2
  obtain ⟨r0, hr0, hM⟩ := hb hne
  -- the least one is no p
  have hl0 : (at0 f c).natAbs ≤ (at0 r0 c).natAbs := hm r0 (by simp [hr0])
  have hla : (at0 f c).natAbs < a := Nat.lt_of_le_of_lt hl0 (hr r0 hr0).1
  have hfp : f ≠ p := fun z => by rw [z, ha] at hla; omega
  have hfr : f ∈ rest := by
    rcases List.mem_cons.mp hf with z | z
    · exact absurd z hfp
    · exact z
  obtain ⟨_, hf0, hfs⟩ := hr f hfr
  have hl : 0 < (at0 f c).natAbs := by omega
  have p0 : at0 p c ≠ 0 := by have := h.a0; omega
  have wf := h.w f hf
  have wp := h.w p (by simp)
  generalize el : (at0 f c).natAbs = l at hl hla hl0 hm
  -- all of them: sign, size
  have all : ∀ s ∈ p :: rest, at0 s c ≠ 0 ∧ (0 < at0 s c ↔ 0 < at0 f c) ∧ (at0 s c).natAbs ≤ a := by
    intro s hs
    rcases List.mem_cons.mp hs with rfl | hs
    · exact ⟨p0, hfs.symm, by omega⟩
    · exact ⟨(hr s hs).2.1, (hr s hs).2.2.trans hfs.symm, by have := (hr s hs).1; omega⟩
  have led1 : ∀ r ∈ led c f (p :: rest), ∃ s ∈ p :: rest, r = cut c f s ∧ at0 r c = (at0 s c).fmod (at0 f c) ∧ r.length = n ∧ Bn (X + (a / l) * X) r := by
    intro r hr
    obtain ⟨s, hs, rfl⟩ := mem_led hr
    have hs := List.mem_of_mem_erase hs
    have ws := h.w s hs
    obtain ⟨s0, ss, sa⟩ := all s hs
    refine ⟨s, hs, rfl, cut_at (by omega) (by omega), ?_, ?_⟩
    · rw [cut_len (by rw [ws.1, wf.1])]
      exact ws.1
    · refine addL_bn ws.2 wf.2 ?_
      rw [Int.natAbs_neg]
      have := (same_sgn s0 hf0 ss).1
      rw [el] at this
      exact (Nat.le_div_iff_mul_le hl).mpr (Nat.le_trans this sa)
  have hX : (X + (a / l) * X) * l ≤ 2 * (a * X) := by
    have e1 : (a / l) * X * l ≤ a * X := by
      have := Nat.div_mul_le_self a l
      calc (a / l) * X * l = (a / l) * l * X := by rw [Nat.mul_assoc, Nat.mul_comm X l, ← Nat.mul_assoc]
        _ ≤ a * X := Nat.mul_le_mul_right X this
    have e2 : X * l ≤ a * X := by rw [Nat.mul_comm a X]; exact Nat.mul_le_mul_left X (by omega)
    rw [Nat.add_mul]
    omega
  have hMl : X * a * a * l ≤ M := Nat.le_trans (Nat.mul_le_mul_left _ hl0) hM
  have ha0 := h.a0
  have hX2 : X + (a / l) * X ≤ 2 * M := by
    have e1 : X + (a / l) * X ≤ (X + (a / l) * X) * l := Nat.le_mul_of_pos_right _ hl
    have e2 : a * X ≤ X * a * a * l := by
      rw [Nat.mul_comm a X]
      calc X * a ≤ X * a * a := Nat.le_mul_of_pos_right _ ha0
        _ ≤ X * a * a * l := Nat.le_mul_of_pos_right _ hl
    omega
  refine ⟨X + (a / l) * X, ⟨⟨f, (led c f (p :: rest)).filter (nz c), rfl, el, fun r hr => ?_, fun hn => ?_⟩, hl, fun r hr => ?_, hX2, h.o.app fun r hr => ?_⟩, hla⟩
  · obtain ⟨hr1, hr2⟩ := List.mem_filter.mp hr
    obtain ⟨s, hs, e, ec, _⟩ := led1 r hr1
    have n0 : at0 r c ≠ 0 := by simpa [nz] using hr2
    refine ⟨?_, n0, ?_⟩
    · rw [ec, ← el]; exact fmod_lt _ _ hf0
    · rw [ec]; exact fmod_sign _ _ hf0 (by rw [← ec]; exact n0)
  · -- the bound
    by_cases hd : a % l = 0
    · obtain ⟨r, hr⟩ := List.exists_mem_of_ne_nil _ hn
      obtain ⟨hr1, hr2⟩ := List.mem_filter.mp hr
      obtain ⟨s, hs, e, ec, _⟩ := led1 r hr1
      have hlt : (at0 r c).natAbs < l := by rw [ec, ← el]; exact fmod_lt _ _ hf0
      refine ⟨r, hr, ?_⟩
      have ha2 : 2 * l ≤ a := by
        have := Nat.div_add_mod a l
        rw [hd] at this
        by_cases hq : a / l ≤ 1
        · have : l * (a / l) ≤ l * 1 := Nat.mul_le_mul_left l hq
          omega
        · have : l * 2 ≤ l * (a / l) := Nat.mul_le_mul_left l (by omega)
          omega
      generalize (at0 r c).natAbs = y at hlt
      calc (X + a / l * X) * l * l * y ≤ 2 * (a * X) * l * y := Nat.mul_le_mul_right _ (Nat.mul_le_mul_right _ hX)
        _ ≤ 2 * (a * X) * l * l := Nat.mul_le_mul_left _ (by omega)
        _ = (X * a * l) * (2 * l) := by
          rw [Nat.mul_comm a X]
          simp only [Nat.mul_assoc, Nat.mul_left_comm, Nat.mul_comm]
        _ ≤ (X * a * l) * a := Nat.mul_le_mul_left _ ha2
        _ = X * a * a * l := by rw [Nat.mul_assoc (X * a), Nat.mul_comm l a, ← Nat.mul_assoc]
        _ ≤ M := hMl
    · have hpe : p ∈ (p :: rest).erase f := (List.mem_erase_of_ne (Ne.symm hfp)).mpr (by simp)
      have hp1 : cut c f p ∈ led c f (p :: rest) := List.mem_map.mpr ⟨p, hpe, rfl⟩
      have ec : at0 (cut c f p) c = (at0 p c).fmod (at0 f c) := cut_at (by omega) (by omega)
      have em : (at0 (cut c f p) c).natAbs = a % l := by
        rw [ec, (same_sgn p0 hf0 hfs.symm).2, ha, el]
      refine ⟨cut c f p, List.mem_filter.mpr ⟨hp1, ?_⟩, ?_⟩
      · have : at0 (cut c f p) c ≠ 0 := by omega
        simpa [nz] using this
      · rw [em]
        have h2 : 2 * (a % l) ≤ a := by
          have e1 := Nat.div_add_mod a l
          have e2 := Nat.mod_lt a hl
          have e3 : 1 ≤ a / l := (Nat.le_div_iff_mul_le hl).mpr (by omega)
          have e4 : l * 1 ≤ l * (a / l) := Nat.mul_le_mul_left l e3
          omega
        generalize a % l = y at h2
        calc (X + a / l * X) * l * l * y ≤ 2 * (a * X) * l * y := Nat.mul_le_mul_right _ (Nat.mul_le_mul_right _ hX)
          _ = (X * a * l) * (2 * y) := by
            rw [Nat.mul_comm a X]
            simp only [Nat.mul_assoc, Nat.mul_left_comm, Nat.mul_comm]
          _ ≤ (X * a * l) * a := Nat.mul_le_mul_left _ h2
          _ = X * a * a * l := by rw [Nat.mul_assoc (X * a), Nat.mul_comm l a, ← Nat.mul_assoc]
          _ ≤ M := hMl
  · rcases List.mem_cons.mp hr with rfl | hr
    · exact ⟨wf.1, wf.2.le (by omega)⟩
    · obtain ⟨hr1, _⟩ := List.mem_filter.mp hr
      obtain ⟨s, hs, e, ec, h3, h4⟩ := led1 r hr1
      exact ⟨h3, h4⟩
  · obtain ⟨hr1, _⟩ := List.mem_filter.mp hr
    obtain ⟨s, hs, e, ec, h3, h4⟩ := led1 r hr1
    exact ⟨h3, h4.le hX2⟩
/-- the first turn -/
theorem Ph.first {c n X : Nat} {S O : Rows} (hc : c < n) (w : Wd n X S) (wo : Wd n X O) (h0 : ∀ r ∈ S, at0 r c ≠ 0) {f : List Int} (hf : f ∈ S) (hm : ∀ r ∈ S, (at0 f c).natAbs ≤ (at0 r c).natAbs) :
    Ph c n ((X + (X + 1) * X) * X * X * X) (f :: (led c f S).filter (nz c)) (O ++ (led c f S).filter (zr c)) (at0 f c).natAbs (X + (X + 1) * X) := by
  have wf := w f hf
  have hf0 := h0 f hf
  have hfX : (at0 f c).natAbs ≤ X := wf.2.at (by omega)
  have hX : 1 ≤ X := by omega
  have led1 : ∀ r ∈ led c f S, ∃ s ∈ S, at0 r c = (at0 s c).fmod (at0 f c) ∧ r.length = n ∧ Bn (X + (X + 1) * X) r := by
    intro r hr
    obtain ⟨s, hs, rfl⟩ := mem_led hr
    have hs := List.mem_of_mem_erase hs
    have ws := w s hs
    refine ⟨s, hs, cut_at (by omega) (by omega), ?_, addL_bn ws.2 wf.2 ?_⟩
    · rw [cut_len (by rw [ws.1, wf.1])]
      exact ws.1
    · rw [Int.natAbs_neg]
      have := fdiv_le (at0 s c) (at0 f c) hf0
      have := ws.2.at (c := c) (by omega)
      omega
  generalize hY : X + (X + 1) * X = Y at led1
  have hXY : X ≤ Y := by rw [← hY]; omega
  have hYM : Y ≤ Y * X * X * X := by
    calc Y ≤ Y * X := Nat.le_mul_of_pos_right _ hX
      _ ≤ Y * X * X := Nat.le_mul_of_pos_right _ hX
      _ ≤ Y * X * X * X := Nat.le_mul_of_pos_right _ hX
  refine ⟨⟨f, (led c f S).filter (nz c), rfl, rfl, fun r hr => ?_, fun hn => ?_⟩, by omega, fun r hr => ?_, by omega, (wo.le (by omega)).app fun r hr => ?_⟩
  · obtain ⟨hr1, hr2⟩ := List.mem_filter.mp hr
    obtain ⟨s, hs, ec, _⟩ := led1 r hr1
    have n0 : at0 r c ≠ 0 := by simpa [nz] using hr2
    refine ⟨?_, n0, ?_⟩
    · rw [ec]; exact fmod_lt _ _ hf0
    · rw [ec]; exact fmod_sign _ _ hf0 (by rw [← ec]; exact n0)
  · obtain ⟨r, hr⟩ := List.exists_mem_of_ne_nil _ hn
    obtain ⟨hr1, hr2⟩ := List.mem_filter.mp hr
    obtain ⟨s, hs, ec, _⟩ := led1 r hr1
    have hlt : (at0 r c).natAbs < (at0 f c).natAbs := by rw [ec]; exact fmod_lt _ _ hf0
    exact ⟨r, hr, Nat.mul_le_mul (Nat.mul_le_mul (Nat.mul_le_mul_left _ hfX) hfX) (by omega)⟩
  · rcases List.mem_cons.mp hr with rfl | hr
    · exact ⟨wf.1, wf.2.le hXY⟩
    · obtain ⟨hr1, _⟩ := List.mem_filter.mp hr
      obtain ⟨s, hs, ec, h3, h4⟩ := led1 r hr1
      exact ⟨h3, h4⟩
  · obtain ⟨hr1, _⟩ := List.mem_filter.mp hr
    obtain ⟨s, hs, ec, h3, h4⟩ := led1 r hr1
    exact ⟨h3, h4.le (by omega)⟩
end Rd
end

section
namespace Lw
open PySem PySem.Spec PyProof.Rows L2 Wm
def topS (i : Nat) : Stmt := PySem.Challenge.pw_waymoves_k41_what_are_no_picks.main.body.getD i (.Pass ⟨0, 0, 0, 0⟩)
abbrev s_Rounds_size : Stmt := inS (topS 33) 2
theorem sc_Rounds_size : FnScope ["self"] ["self"] (defScope s_Rounds_size) := ⟨rfl, rfl, rfl, by decide +kernel, rfl, by decide +kernel, by decide +kernel⟩
abbrev s__law_said : Stmt := topS 39
theorem sc__law_said : FnScope ["_law_ask", "_law_told", "e", "_law_kinds"] ["_law_ask"] (defScope s__law_said) := ⟨rfl, rfl, rfl, by decide +kernel, rfl, by decide +kernel, by decide +kernel⟩
abbrev N__law_said : List Str := ["_law_ask", "_law_told", "e", "_law_kinds"]
abbrev s_is_whole : Stmt := topS 7
theorem sc_is_whole : FnScope ["thing"] ["thing"] (defScope s_is_whole) := ⟨rfl, rfl, rfl, by decide +kernel, rfl, by decide +kernel, by decide +kernel⟩
abbrev s_is_row : Stmt := topS 8
theorem sc_is_row : FnScope ["thing", "wide", "one"] ["thing", "wide"] (defScope s_is_row) := ⟨rfl, rfl, rfl, by decide +kernel, rfl, by decide +kernel, by decide +kernel⟩
abbrev s_check_rows : Stmt := topS 9
theorem sc_check_rows : FnScope ["rows", "wide", "at", "row"] ["rows", "wide"] (defScope s_check_rows) := ⟨rfl, rfl, rfl, by decide +kernel, rfl, by decide +kernel, by decide +kernel⟩
abbrev s_weight : Stmt := topS 19
theorem sc_weight : FnScope ["grid", "rows", "at", "sign", "last", "found", "k", "row", "j"] ["grid"] (defScope s_weight) := ⟨rfl, rfl, rfl, by decide +kernel, rfl, by decide +kernel, by decide +kernel⟩
abbrev s_grid_of : Stmt := topS 29
theorem sc_grid_of : FnScope ["rows", "picks", "row", "pick"] ["rows", "picks"] (defScope s_grid_of) := ⟨rfl, rfl, rfl, by decide +kernel, rfl, by decide +kernel, by decide +kernel⟩
abbrev s_check_picks : Stmt := topS 28
theorem sc_check_picks : FnScope ["rows", "picks", "wide", "at", "pick"] ["rows", "picks", "wide"] (defScope s_check_picks) := ⟨rfl, rfl, rfl, by decide +kernel, rfl, by decide +kernel, by decide +kernel⟩
abbrev s_flipped : Stmt := topS 17
theorem sc_flipped : FnScope ["rows", "wide", "k", "row"] ["rows", "wide"] (defScope s_flipped) := ⟨rfl, rfl, rfl, by decide +kernel, rfl, by decide +kernel, by decide +kernel⟩
abbrev s_added : Stmt := topS 11
theorem sc_added : FnScope ["one", "other", "many", "mine", "its"] ["one", "other", "many"] (defScope s_added) := ⟨rfl, rfl, rfl, by decide +kernel, rfl, by decide +kernel, by decide +kernel⟩
abbrev s_reduced : Stmt := topS 15
theorem sc_reduced : FnScope ["rows", "column", "some", "others", "least", "first", "later", "row"] ["rows", "column"] (defScope s_reduced) := ⟨rfl, rfl, rfl, by decide +kernel, rfl, by decide +kernel, by decide +kernel⟩
abbrev s_is_nought : Stmt := topS 13
theorem sc_is_nought : FnScope ["row"] ["row"] (defScope s_is_nought) := ⟨rfl, rfl, rfl, by decide +kernel, rfl, by decide +kernel, by decide +kernel⟩
abbrev s_turned : Stmt := topS 14
theorem sc_turned : FnScope ["row", "one"] ["row"] (defScope s_turned) := ⟨rfl, rfl, rfl, by decide +kernel, rfl, by decide +kernel, by decide +kernel⟩
abbrev s_told_rows : Stmt := topS 16
theorem sc_told_rows : FnScope ["rows", "wide", "found", "left", "column", "first", "row", "some", "one"] ["rows", "wide"] (defScope s_told_rows) := ⟨rfl, rfl, rfl, by decide +kernel, rfl, by decide +kernel, by decide +kernel⟩
abbrev s_Rounds_init : Stmt := inS (topS 33) 0
theorem sc_Rounds_init : FnScope ["self", "rows", "picks", "wide", "pick"] ["self", "rows", "picks", "wide"] (defScope s_Rounds_init) := ⟨rfl, rfl, rfl, by decide +kernel, rfl, by decide +kernel, by decide +kernel⟩
abbrev s_chosen : Stmt := topS 31
theorem sc_chosen : FnScope ["wide", "many", "found", "turn", "some", "one"] ["wide", "many"] (defScope s_chosen) := ⟨rfl, rfl, rfl, by decide +kernel, rfl, by decide +kernel, by decide +kernel⟩
abbrev s_all_picks : Stmt := topS 32
theorem sc_all_picks : FnScope ["rows", "wide", "picks"] ["rows", "wide"] (defScope s_all_picks) := ⟨rfl, rfl, rfl, by decide +kernel, rfl, by decide +kernel, by decide +kernel⟩
abbrev s__law_asked : Stmt := topS 40
theorem sc__law_asked : FnScope ["_law_rows", "_law_thing", "_law_size", "_law_due_here", "_law_heavy_here", "_law_first", "_law_second"] ["_law_rows", "_law_thing", "_law_size", "_law_due_here", "_law_heavy_here"] (defScope s__law_asked) := ⟨rfl, rfl, rfl, by decide +kernel, rfl, by decide +kernel, by decide +kernel⟩
abbrev s__law_draw : Stmt := topS 35
theorem sc__law_draw : FnScope ["_law_well", "_law_many", "_law_number", "_law_found"] ["_law_well", "_law_many"] (defScope s__law_draw) := ⟨rfl, rfl, rfl, by decide +kernel, rfl, by decide +kernel, by decide +kernel⟩
abbrev s__law_spoilt : Stmt := topS 37
theorem sc__law_spoilt : FnScope ["_law_well", "_law_good", "_law_size", "_law_at", "_law_odd", "_law_way", "_law_one"] ["_law_well", "_law_good", "_law_size"] (defScope s__law_spoilt) := ⟨rfl, rfl, rfl, by decide +kernel, rfl, by decide +kernel, by decide +kernel⟩
abbrev s__law_heavy : Stmt := topS 36
theorem sc__law_heavy : FnScope ["_law_grid", "_law_found", "_law_k", "_law_row", "_law_rest", "_law_other"] ["_law_grid"] (defScope s__law_heavy) := ⟨rfl, rfl, rfl, by decide +kernel, rfl, by decide +kernel, by decide +kernel⟩
abbrev s__law_due : Stmt := topS 38
theorem sc__law_due : FnScope ["_law_rows", "_law_thing", "_law_size", "_law_ahead", "_law_at", "_law_one", "_law_row"] ["_law_rows", "_law_thing", "_law_size"] (defScope s__law_due) := ⟨rfl, rfl, rfl, by decide +kernel, rfl, by decide +kernel, by decide +kernel⟩
abbrev s__law_right : Stmt := topS 41
theorem sc__law_right : FnScope ["_law_well", "_law_many", "_law_size", "_law_far", "_law_rows", "_law_good", "_law_turn", "_law_thing", "_law_at", "_law_handed", "_law_spot", "_law_odd", "_law_i", "_law_due_here", "_law_heavy_here", "_law_k", "_law_row", "_law_one"] ["_law_well"] (defScope s__law_right) := ⟨rfl, rfl, rfl, by decide +kernel, rfl, by decide +kernel, by decide +kernel⟩
abbrev s_law : Stmt := topS 42
theorem sc_law : FnScope ["_law_script", "_law_k", "_law_cell"] ["_law_script"] (defScope s_law) := ⟨rfl, rfl, rfl, by decide +kernel, rfl, by decide +kernel, by decide +kernel⟩
abbrev s_NoPicks_init : Stmt := inS (topS 5) 0
theorem sc_NoPicks_init : FnScope ["self", "at"] ["self", "at"] (defScope s_NoPicks_init) := ⟨rfl, rfl, rfl, by decide +kernel, rfl, by decide +kernel, by decide +kernel⟩
abbrev s_NoRow_init : Stmt := inS (topS 3) 0
theorem sc_NoRow_init : FnScope ["self", "at"] ["self", "at"] (defScope s_NoRow_init) := ⟨rfl, rfl, rfl, by decide +kernel, rfl, by decide +kernel, by decide +kernel⟩
abbrev s_TooMany_init : Stmt := inS (topS 4) 0
theorem sc_TooMany_init : FnScope ["self", "many"] ["self", "many"] (defScope s_TooMany_init) := ⟨rfl, rfl, rfl, by decide +kernel, rfl, by decide +kernel, by decide +kernel⟩
abbrev exmT : Exm := [(("NoPicks", "WayError"), true), (("NoRow", "WayError"), true), (("TooMany", "WayError"), true)]
@[simp] theorem exm_NoPicks_WayError : exmL exmT "NoPicks" "WayError" = some true := by decide +kernel
@[simp] theorem exm_NoRow_WayError : exmL exmT "NoRow" "WayError" = some true := by decide +kernel
@[simp] theorem exm_TooMany_WayError : exmL exmT "TooMany" "WayError" = some true := by decide +kernel
/-- what the top leaves -/
structure Tx (K : PySem.W.Frag) (mg : Str → Option Value) (base : Heap) (cl : Cl) where
  a_Rounds_size : Addr
  fd_Rounds_size : FuncData
  F_Rounds_size : Fun K "size" "Rounds.size" s_Rounds_size a_Rounds_size fd_Rounds_size
  mt_Rounds_size : Meth K (cl.at' "Rounds") "size" a_Rounds_size
  a__law_said : Addr
  fd__law_said : FuncData
  F__law_said : Fun K "_law_said" "_law_said" s__law_said a__law_said fd__law_said
  m__law_said : mg "_law_said" = some (.ref a__law_said)
  b__law_said : Binds K fd__law_said ["_law_ask"] []
  a_is_whole : Addr
  fd_is_whole : FuncData
  F_is_whole : Fun K "is_whole" "is_whole" s_is_whole a_is_whole fd_is_whole
  m_is_whole : mg "is_whole" = some (.ref a_is_whole)
  b_is_whole : Binds K fd_is_whole ["thing"] []
  a_is_row : Addr
  fd_is_row : FuncData
  F_is_row : Fun K "is_row" "is_row" s_is_row a_is_row fd_is_row
  m_is_row : mg "is_row" = some (.ref a_is_row)
  b_is_row : Binds K fd_is_row ["thing", "wide"] []
  a_check_rows : Addr
  fd_check_rows : FuncData
  F_check_rows : Fun K "check_rows" "check_rows" s_check_rows a_check_rows fd_check_rows
  m_check_rows : mg "check_rows" = some (.ref a_check_rows)
  b_check_rows : Binds K fd_check_rows ["rows", "wide"] []
  a_weight : Addr
  fd_weight : FuncData
  F_weight : Fun K "weight" "weight" s_weight a_weight fd_weight
  m_weight : mg "weight" = some (.ref a_weight)
  b_weight : Binds K fd_weight ["grid"] []
  a_grid_of : Addr
  fd_grid_of : FuncData
  F_grid_of : Fun K "grid_of" "grid_of" s_grid_of a_grid_of fd_grid_of
  m_grid_of : mg "grid_of" = some (.ref a_grid_of)
  b_grid_of : Binds K fd_grid_of ["rows", "picks"] []
  a_check_picks : Addr
  fd_check_picks : FuncData
  F_check_picks : Fun K "check_picks" "check_picks" s_check_picks a_check_picks fd_check_picks
  m_check_picks : mg "check_picks" = some (.ref a_check_picks)
  a_flipped : Addr
  fd_flipped : FuncData
  F_flipped : Fun K "flipped" "flipped" s_flipped a_flipped fd_flipped
  m_flipped : mg "flipped" = some (.ref a_flipped)
  a_added : Addr
  fd_added : FuncData
  F_added : Fun K "added" "added" s_added a_added fd_added
  m_added : mg "added" = some (.ref a_added)
  a_reduced : Addr
  fd_reduced : FuncData
  F_reduced : Fun K "reduced" "reduced" s_reduced a_reduced fd_reduced
  m_reduced : mg "reduced" = some (.ref a_reduced)
  b_reduced : Binds K fd_reduced ["rows", "column"] []
  a_is_nought : Addr
  fd_is_nought : FuncData
  F_is_nought : Fun K "is_nought" "is_nought" s_is_nought a_is_nought fd_is_nought
  m_is_nought : mg "is_nought" = some (.ref a_is_nought)
  b_is_nought : Binds K fd_is_nought ["row"] []
  a_turned : Addr
  fd_turned : FuncData
  F_turned : Fun K "turned" "turned" s_turned a_turned fd_turned
  m_turned : mg "turned" = some (.ref a_turned)
  b_turned : Binds K fd_turned ["row"] []
  a_told_rows : Addr
  fd_told_rows : FuncData
  F_told_rows : Fun K "told_rows" "told_rows" s_told_rows a_told_rows fd_told_rows
  m_told_rows : mg "told_rows" = some (.ref a_told_rows)
  a_Rounds_init : Addr
  fd_Rounds_init : FuncData
  F_Rounds_init : Fun K "__init__" "Rounds.__init__" s_Rounds_init a_Rounds_init fd_Rounds_init
  mk_Rounds : Mk K (cl.at' "Rounds") a_Rounds_init
  a_chosen : Addr
  fd_chosen : FuncData
  F_chosen : Fun K "chosen" "chosen" s_chosen a_chosen fd_chosen
  m_chosen : mg "chosen" = some (.ref a_chosen)
  b_chosen : Binds K fd_chosen ["wide", "many"] []
  a_all_picks : Addr
  fd_all_picks : FuncData
  F_all_picks : Fun K "all_picks" "all_picks" s_all_picks a_all_picks fd_all_picks
  m_all_picks : mg "all_picks" = some (.ref a_all_picks)
  a__law_asked : Addr
  fd__law_asked : FuncData
  F__law_asked : Fun K "_law_asked" "_law_asked" s__law_asked a__law_asked fd__law_asked
  m__law_asked : mg "_law_asked" = some (.ref a__law_asked)
  b__law_asked : Binds K fd__law_asked ["_law_rows", "_law_thing", "_law_size", "_law_due_here", "_law_heavy_here"] []
  a__law_draw : Addr
  fd__law_draw : FuncData
  F__law_draw : Fun K "_law_draw" "_law_draw" s__law_draw a__law_draw fd__law_draw
  m__law_draw : mg "_law_draw" = some (.ref a__law_draw)
  b__law_draw : Binds K fd__law_draw ["_law_well", "_law_many"] []
  a__law_spoilt : Addr
  fd__law_spoilt : FuncData
  F__law_spoilt : Fun K "_law_spoilt" "_law_spoilt" s__law_spoilt a__law_spoilt fd__law_spoilt
  m__law_spoilt : mg "_law_spoilt" = some (.ref a__law_spoilt)
  b__law_spoilt : Binds K fd__law_spoilt ["_law_well", "_law_good", "_law_size"] []
  a__law_heavy : Addr
  fd__law_heavy : FuncData
  F__law_heavy : Fun K "_law_heavy" "_law_heavy" s__law_heavy a__law_heavy fd__law_heavy
  m__law_heavy : mg "_law_heavy" = some (.ref a__law_heavy)
  b__law_heavy : Binds K fd__law_heavy ["_law_grid"] []
  a__law_due : Addr
  fd__law_due : FuncData
  F__law_due : Fun K "_law_due" "_law_due" s__law_due a__law_due fd__law_due
  m__law_due : mg "_law_due" = some (.ref a__law_due)
  b__law_due : Binds K fd__law_due ["_law_rows", "_law_thing", "_law_size"] []
  a__law_right : Addr
  fd__law_right : FuncData
  F__law_right : Fun K "_law_right" "_law_right" s__law_right a__law_right fd__law_right
  m__law_right : mg "_law_right" = some (.ref a__law_right)
  b__law_right : Binds K fd__law_right ["_law_well"] []
  a_law : Addr
  fd_law : FuncData
  F_law : Fun K "law" "law" s_law a_law fd_law
  m_law : mg "law" = some (.ref a_law)
  b_law : Binds K fd_law ["_law_script"] []
  kb_added_2_many : KBs K fd_added ["one", "other", "many"] 2 ["many"] [.arg 0, .arg 1, .arg 2]
  kb_check_picks_2_wide : KBs K fd_check_picks ["rows", "picks", "wide"] 2 ["wide"] [.arg 0, .arg 1, .arg 2]
  kb_flipped_1_wide : KBs K fd_flipped ["rows", "wide"] 1 ["wide"] [.arg 0, .arg 1]
  kb_told_rows_1_wide : KBs K fd_told_rows ["rows", "wide"] 1 ["wide"] [.arg 0, .arg 1]
  kb_Rounds_init_2_picks_wide : KBs K fd_Rounds_init ["self", "rows", "picks", "wide"] 2 ["picks", "wide"] [.arg 0, .arg 1, .arg 2, .arg 3]
  kb_all_picks_1_wide : KBs K fd_all_picks ["rows", "wide"] 1 ["wide"] [.arg 0, .arg 1]
  kb_Rounds_size_1_ : KBs K fd_Rounds_size ["self"] 1 [] [.arg 0]
  way : WayC K mg "WayError"
  x_NoPicks : ExcC K mg cl "NoPicks" ["at"] "NoPicks.__init__" s_NoPicks_init
  bi_NoPicks : Binds K x_NoPicks.fd ["self", "at"] []
  x_NoRow : ExcC K mg cl "NoRow" ["at"] "NoRow.__init__" s_NoRow_init
  bi_NoRow : Binds K x_NoRow.fd ["self", "at"] []
  x_TooMany : ExcC K mg cl "TooMany" ["many"] "TooMany.__init__" s_TooMany_init
  bi_TooMany : Binds K x_TooMany.fd ["self", "many"] []
  mc_WayError : mg "WayError" = some (.ref (cl.at' "WayError"))
  mc_Rounds : mg "Rounds" = some (.ref (cl.at' "Rounds"))
  cls_Rounds : L2.Cls K (cl.at' "Rounds")
  na_Rounds : ∀ f ∈ ["columns", "chosen_ones", "grid", "heavy", "stairs"], NoAttr K (cl.at' "Rounds") f
  kx_NoPicks : KxC K (cl.at' "NoPicks")
  kx_NoRow : KxC K (cl.at' "NoRow")
  kx_TooMany : KxC K (cl.at' "TooMany")
  ki_NoPicks_NoPicks : PySem.W.kitOne K (.ref (cl.at' "NoPicks")) (.ref (cl.at' "NoPicks")) = some true
  ki_NoPicks_NoRow : PySem.W.kitOne K (.ref (cl.at' "NoPicks")) (.ref (cl.at' "NoRow")) = some false
  ki_NoPicks_TooMany : PySem.W.kitOne K (.ref (cl.at' "NoPicks")) (.ref (cl.at' "TooMany")) = some false
  ki_NoPicks_ValueError : PySem.W.kitOne K (.ref (cl.at' "NoPicks")) (.type "ValueError") = some true
  ki_NoRow_NoPicks : PySem.W.kitOne K (.ref (cl.at' "NoRow")) (.ref (cl.at' "NoPicks")) = some false
  ki_NoRow_NoRow : PySem.W.kitOne K (.ref (cl.at' "NoRow")) (.ref (cl.at' "NoRow")) = some true
  ki_NoRow_TooMany : PySem.W.kitOne K (.ref (cl.at' "NoRow")) (.ref (cl.at' "TooMany")) = some false
  ki_NoRow_ValueError : PySem.W.kitOne K (.ref (cl.at' "NoRow")) (.type "ValueError") = some true
  ki_TooMany_NoPicks : PySem.W.kitOne K (.ref (cl.at' "TooMany")) (.ref (cl.at' "NoPicks")) = some false
  ki_TooMany_NoRow : PySem.W.kitOne K (.ref (cl.at' "TooMany")) (.ref (cl.at' "NoRow")) = some false
  ki_TooMany_TooMany : PySem.W.kitOne K (.ref (cl.at' "TooMany")) (.ref (cl.at' "TooMany")) = some true
  ki_TooMany_ValueError : PySem.W.kitOne K (.ref (cl.at' "TooMany")) (.type "ValueError") = some true
  mx_NoPicks : mg "NoPicks" = some (.ref (cl.at' "NoPicks"))
  mx_NoRow : mg "NoRow" = some (.ref (cl.at' "NoRow"))
  mx_TooMany : mg "TooMany" = some (.ref (cl.at' "TooMany"))
  exm : ExmOk K cl exmT
  x0 : ∀ b, cl.xof b = none
  c__law_asked : Addr
  p__law_asked : Addr
  FC__law_asked : FunC K "_law_asked" "_law_asked" s__law_asked a__law_asked fd__law_asked c__law_asked
  tab__law_asked : LamX.TabB base mg c__law_asked p__law_asked
  ht__law_asked : (p__law_asked, (envOfC "_law_asked" (defScope s__law_asked) 0 0 (.ref c__law_asked)).qual ++ "<lambda>") ∈ cl.tabs.tabs
  hu__law_asked : ∀ p ∈ cl.tabs.tabs, p.1 = p__law_asked → p.2 = (envOfC "_law_asked" (defScope s__law_asked) 0 0 (.ref c__law_asked)).qual ++ "<lambda>"
  t_MOST_ELEMENTS : Tok
  g_MOST_ELEMENTS : mg "MOST_ELEMENTS" = some (.int 60 t_MOST_ELEMENTS)
  z_ValueError : mg "ValueError" = none
  z_abs : mg "abs" = none
  z_all : mg "all" = none
  z_any : mg "any" = none
  z_bool : mg "bool" = none
  z_dict : mg "dict" = none
  z_enumerate : mg "enumerate" = none
  z_int : mg "int" = none
  z_isinstance : mg "isinstance" = none
  z_len : mg "len" = none
  z_list : mg "list" = none
  z_min : mg "min" = none
  z_range : mg "range" = none
  z_tuple : mg "tuple" = none
  z_zip : mg "zip" = none
section
variable {P : Program} {w : World} {K : PySem.W.Frag} {mg : Str → Option Value} {base : Heap} {cl : Cl}
theorem ok_NoPicks_init (T : Tx K mg base cl) : FnOk P w K mg base (L2.CX P w) 1 T.x_NoPicks.fI T.x_NoPicks.fd ["self", "at"] (spI1 K (cl.at' "NoPicks") "at") :=
  T.x_NoPicks.F.okX (N := ["self", "at"]) (k := 0) sc_NoPicks_init spI1_len fun cdv A outer s H vs Q E hr hsp => ⟨_, pss_cons (ps_expr (pe_winit (by rfl) T.way.m T.way.ga T.way.rd T.way.vV (pa_cons (pv 0) (pa_cons pe_str pa_nil)))) (pss_one (ps_ost (pv 0) (pv 1))), by
    obtain ⟨a, v, rfl, h⟩ := hsp
    exact init1_sound (E := E) ⟨a, v, rfl, h⟩⟩
theorem ok_NoRow_init (T : Tx K mg base cl) : FnOk P w K mg base (L2.CX P w) 1 T.x_NoRow.fI T.x_NoRow.fd ["self", "at"] (spI1 K (cl.at' "NoRow") "at") :=
  T.x_NoRow.F.okX (N := ["self", "at"]) (k := 0) sc_NoRow_init spI1_len fun cdv A outer s H vs Q E hr hsp => ⟨_, pss_cons (ps_expr (pe_winit (by rfl) T.way.m T.way.ga T.way.rd T.way.vV (pa_cons (pv 0) (pa_cons pe_str pa_nil)))) (pss_one (ps_ost (pv 0) (pv 1))), by
    obtain ⟨a, v, rfl, h⟩ := hsp
    exact init1_sound (E := E) ⟨a, v, rfl, h⟩⟩
theorem ok_TooMany_init (T : Tx K mg base cl) : FnOk P w K mg base (L2.CX P w) 1 T.x_TooMany.fI T.x_TooMany.fd ["self", "many"] (spI1 K (cl.at' "TooMany") "many") :=
  T.x_TooMany.F.okX (N := ["self", "many"]) (k := 0) sc_TooMany_init spI1_len fun cdv A outer s H vs Q E hr hsp => ⟨_, pss_cons (ps_expr (pe_winit (by rfl) T.way.m T.way.ga T.way.rd T.way.vV (pa_cons (pv 0) (pa_cons pe_str pa_nil)))) (pss_one (ps_ost (pv 0) (pv 1))), by
    obtain ⟨a, v, rfl, h⟩ := hsp
    exact init1_sound (E := E) ⟨a, v, rfl, h⟩⟩
def Tx.re (T : Tx K mg base cl) {tb : TC} (hb : tb.tabs = cl.tabs.tabs) : Tx K mg base (askC cl tb) where
  a_Rounds_size := T.a_Rounds_size
  fd_Rounds_size := T.fd_Rounds_size
  F_Rounds_size := T.F_Rounds_size
  mt_Rounds_size := T.mt_Rounds_size
  a__law_said := T.a__law_said
  fd__law_said := T.fd__law_said
  F__law_said := T.F__law_said
  m__law_said := T.m__law_said
  b__law_said := T.b__law_said
  a_is_whole := T.a_is_whole
  fd_is_whole := T.fd_is_whole
  F_is_whole := T.F_is_whole
  m_is_whole := T.m_is_whole
  b_is_whole := T.b_is_whole
  a_is_row := T.a_is_row
  fd_is_row := T.fd_is_row
  F_is_row := T.F_is_row
  m_is_row := T.m_is_row
  b_is_row := T.b_is_row
  a_check_rows := T.a_check_rows
  fd_check_rows := T.fd_check_rows
  F_check_rows := T.F_check_rows
  m_check_rows := T.m_check_rows
  b_check_rows := T.b_check_rows
  a_weight := T.a_weight
  fd_weight := T.fd_weight
  F_weight := T.F_weight
  m_weight := T.m_weight
  b_weight := T.b_weight
  a_grid_of := T.a_grid_of
  fd_grid_of := T.fd_grid_of
  F_grid_of := T.F_grid_of
  m_grid_of := T.m_grid_of
  b_grid_of := T.b_grid_of
  a_check_picks := T.a_check_picks
  fd_check_picks := T.fd_check_picks
  F_check_picks := T.F_check_picks
  m_check_picks := T.m_check_picks
  a_flipped := T.a_flipped
  fd_flipped := T.fd_flipped
  F_flipped := T.F_flipped
  m_flipped := T.m_flipped
  a_added := T.a_added
  fd_added := T.fd_added
  F_added := T.F_added
  m_added := T.m_added
  a_reduced := T.a_reduced
  fd_reduced := T.fd_reduced
  F_reduced := T.F_reduced
  m_reduced := T.m_reduced
  b_reduced := T.b_reduced
  a_is_nought := T.a_is_nought
  fd_is_nought := T.fd_is_nought
  F_is_nought := T.F_is_nought
  m_is_nought := T.m_is_nought
  b_is_nought := T.b_is_nought
  a_turned := T.a_turned
  fd_turned := T.fd_turned
  F_turned := T.F_turned
  m_turned := T.m_turned
  b_turned := T.b_turned
  a_told_rows := T.a_told_rows
  fd_told_rows := T.fd_told_rows
  F_told_rows := T.F_told_rows
  m_told_rows := T.m_told_rows
  a_Rounds_init := T.a_Rounds_init
  fd_Rounds_init := T.fd_Rounds_init
  F_Rounds_init := T.F_Rounds_init
  mk_Rounds := T.mk_Rounds
  a_chosen := T.a_chosen
  fd_chosen := T.fd_chosen
  F_chosen := T.F_chosen
  m_chosen := T.m_chosen
  b_chosen := T.b_chosen
  a_all_picks := T.a_all_picks
  fd_all_picks := T.fd_all_picks
  F_all_picks := T.F_all_picks
  m_all_picks := T.m_all_picks
  a__law_asked := T.a__law_asked
  fd__law_asked := T.fd__law_asked
  F__law_asked := T.F__law_asked
  m__law_asked := T.m__law_asked
  b__law_asked := T.b__law_asked
  a__law_draw := T.a__law_draw
  fd__law_draw := T.fd__law_draw
  F__law_draw := T.F__law_draw
  m__law_draw := T.m__law_draw
  b__law_draw := T.b__law_draw
  a__law_spoilt := T.a__law_spoilt
  fd__law_spoilt := T.fd__law_spoilt
  F__law_spoilt := T.F__law_spoilt
  m__law_spoilt := T.m__law_spoilt
  b__law_spoilt := T.b__law_spoilt
  a__law_heavy := T.a__law_heavy
  fd__law_heavy := T.fd__law_heavy
  F__law_heavy := T.F__law_heavy
  m__law_heavy := T.m__law_heavy
  b__law_heavy := T.b__law_heavy
  a__law_due := T.a__law_due
  fd__law_due := T.fd__law_due
  F__law_due := T.F__law_due
  m__law_due := T.m__law_due
  b__law_due := T.b__law_due
  a__law_right := T.a__law_right
  fd__law_right := T.fd__law_right
  F__law_right := T.F__law_right
  m__law_right := T.m__law_right
  b__law_right := T.b__law_right
  a_law := T.a_law
  fd_law := T.fd_law
  F_law := T.F_law
  m_law := T.m_law
  b_law := T.b_law
  kb_added_2_many := T.kb_added_2_many
  kb_check_picks_2_wide := T.kb_check_picks_2_wide
  kb_flipped_1_wide := T.kb_flipped_1_wide
  kb_told_rows_1_wide := T.kb_told_rows_1_wide
  kb_Rounds_init_2_picks_wide := T.kb_Rounds_init_2_picks_wide
  kb_all_picks_1_wide := T.kb_all_picks_1_wide
  kb_Rounds_size_1_ := T.kb_Rounds_size_1_
  way := T.way
  x_NoPicks := T.x_NoPicks.re
  bi_NoPicks := T.bi_NoPicks
  x_NoRow := T.x_NoRow.re
  bi_NoRow := T.bi_NoRow
  x_TooMany := T.x_TooMany.re
  bi_TooMany := T.bi_TooMany
  mc_WayError := T.mc_WayError
  mc_Rounds := T.mc_Rounds
  cls_Rounds := T.cls_Rounds
  na_Rounds := T.na_Rounds
  kx_NoPicks := T.kx_NoPicks
  kx_NoRow := T.kx_NoRow
  kx_TooMany := T.kx_TooMany
  ki_NoPicks_NoPicks := T.ki_NoPicks_NoPicks
  ki_NoPicks_NoRow := T.ki_NoPicks_NoRow
  ki_NoPicks_TooMany := T.ki_NoPicks_TooMany
  ki_NoPicks_ValueError := T.ki_NoPicks_ValueError
  ki_NoRow_NoPicks := T.ki_NoRow_NoPicks
  ki_NoRow_NoRow := T.ki_NoRow_NoRow
  ki_NoRow_TooMany := T.ki_NoRow_TooMany
  ki_NoRow_ValueError := T.ki_NoRow_ValueError
  ki_TooMany_NoPicks := T.ki_TooMany_NoPicks
  ki_TooMany_NoRow := T.ki_TooMany_NoRow
  ki_TooMany_TooMany := T.ki_TooMany_TooMany
  ki_TooMany_ValueError := T.ki_TooMany_ValueError
  mx_NoPicks := T.mx_NoPicks
  mx_NoRow := T.mx_NoRow
  mx_TooMany := T.mx_TooMany
  exm := T.exm
  x0 := fun _ => rfl
  c__law_asked := T.c__law_asked
  p__law_asked := T.p__law_asked
  FC__law_asked := T.FC__law_asked
  tab__law_asked := T.tab__law_asked
  ht__law_asked := hb ▸ T.ht__law_asked
  hu__law_asked := hb ▸ T.hu__law_asked
  t_MOST_ELEMENTS := T.t_MOST_ELEMENTS
  g_MOST_ELEMENTS := T.g_MOST_ELEMENTS
  z_ValueError := T.z_ValueError
  z_abs := T.z_abs
  z_all := T.z_all
  z_any := T.z_any
  z_bool := T.z_bool
  z_dict := T.z_dict
  z_enumerate := T.z_enumerate
  z_int := T.z_int
  z_isinstance := T.z_isinstance
  z_len := T.z_len
  z_list := T.z_list
  z_min := T.z_min
  z_range := T.z_range
  z_tuple := T.z_tuple
  z_zip := T.z_zip
noncomputable def g_Rounds_size : Ss := (sRet (xPrim [.ex (xPrim [.va 0] (pFld "Rounds" "heavy"))] pAbs))
noncomputable def f_Rounds_size : Fn := bodyF 1 g_Rounds_size
theorem ok_Rounds_size (T : Tx K mg base cl) : FnOk P w K mg base (L2.CX P w) 1 T.a_Rounds_size T.fd_Rounds_size ["self"] (spF (gk K cl) 1 f_Rounds_size) :=
  fn_ok (N := ["self"]) (k := 0) (g := g_Rounds_size) T.F_Rounds_size sc_Rounds_size fun cdv A outer s H vs E hr => (bj_one (sj_ret (ej_callB call_abs pr_abs (by rfl) T.z_abs (by decide +kernel) (oj_cons (lj_ex (ej_fld (c := "Rounds") T.cls_Rounds (T.na_Rounds _ (by decide)) (oj_cons (lj_va (pv 0)) oj_nil))) oj_nil))))
noncomputable def t__law_said_0 (ak : Sx) : Ss := (sSet 1 (xTup [(xC (.str "told")), (xPrim [.ex ak, .ex (xC .non)] pIsN)]))
noncomputable def g__law_said (ak : Sx) : Ss := (sSeq (sSet 1 (xC (.str "else")))
    (sSeq (sTry (exmL exmT) (t__law_said_0 ak) [⟨"WayError", some 2, (sSeq (sSet 3 (xLst [(xIsE 2 [("NoPicks", false), ("NoRow", true), ("TooMany", false)]), (xIsE 2 [("NoPicks", true), ("NoRow", false), ("TooMany", false)]), (xIsE 2 [("NoPicks", false), ("NoRow", false), ("TooMany", true)])]))
    (sSet 1 (xIf (bTru [.ex (xPrim [.va 3, .ex (xC (.int 2))] pIx)]) (xTup [(xVar 3), (xIsE 2 [("NoPicks", true), ("NoRow", true), ("TooMany", true)]), (xPrim [.ex (xLst [(xFld 2 ["TooMany"] "many"), (xFld 2 ["TooMany"] "many")]), .ex (xC (.int 0))] pIx)]) (xTup [(xVar 3), (xC (.bl true)), (xFld 2 ["NoPicks", "NoRow"] "at")]))))⟩])
    (sRetV 1)))
theorem bj__law_said (T : Tx K mg base cl) (cdv : Value) (A : Around) (outer : List Env) (s : Shared) (H : Hp) (f : Addr) (E : XK) (ak : Sx) {k : Nat} (hr : Room (k + 1) (A.deeper (envOfC "_law_said" (defScope s__law_said) s.heap.objs.size T.a__law_said cdv)))
    (hak : ∀ (W : WX) (pn : List (Addr × Obj)) (xe : Value → Shared → Prop) (p1 p2 : Pos), Takes ((cxOf (L2.CX P w) P w K mg base N__law_said "_law_said" (defScope s__law_said) T.a__law_said cdv A outer s H E).tr pn xe) W → EJ ((cxOf (L2.CX P w) P w K mg base N__law_said "_law_said" (defScope s__law_said) T.a__law_said cdv A outer s H E).tr pn xe) cl [.ref f] W (.Call (.Name "_law_ask" p1) [] [] p2) ak) :
    BJ (cxOf (L2.CX P w) P w K mg base N__law_said "_law_said" (defScope s__law_said) T.a__law_said cdv A outer s H E) cl [.ref f] (wxE E) (defBody s__law_said) (g__law_said ak) :=
  (bj_cons (sj_set (i := 1) sc__law_said.nd rfl (.inl rfl) ej_str)
    (bj_cons (sj_try T.x0 T.exm.get rfl rfl sc__law_said.nd (takes_of rfl rfl rfl rfl) (fun W pn xe tk pw => (bj_one (sj_set (i := 1) sc__law_said.nd rfl (.inl rfl) (ej_tup (mj_cons ej_str (mj_cons (ej_isN (oj_cons (lj_ex (hak _ _ _ _ _ tk)) (oj_cons (lj_ex ej_non) oj_nil))) mj_nil))))))
    (.named (i := 2) ⟨rfl, by decide, .inl T.mc_WayError⟩ rfl rfl (fun a oe cls d pn cl' hz hf hx => (bj_cons (sj_set (i := 3) sc__law_said.nd rfl (.inl rfl) (ej_lst (mj_cons (ej_isE (tb := [("NoPicks", false), ("NoRow", true), ("TooMany", false)]) (cV := (.ref (cl.at' "NoRow"))) (cv := (.ref (cl.at' "NoRow"))) hz hf hx (fun q hq => by
      simp only [List.mem_cons, List.not_mem_nil, or_false] at hq
      rcases hq with rfl | rfl | rfl
      · exact ⟨T.kx_NoPicks, T.ki_NoPicks_NoRow⟩
      · exact ⟨T.kx_NoRow, T.ki_NoRow_NoRow⟩
      · exact ⟨T.kx_TooMany, T.ki_TooMany_NoRow⟩) (.own _) T.z_isinstance (by rfl) (pv 2) (pe_glob (by rfl) T.mx_NoRow rfl)) (mj_cons (ej_isE (tb := [("NoPicks", true), ("NoRow", false), ("TooMany", false)]) (cV := (.ref (cl.at' "NoPicks"))) (cv := (.ref (cl.at' "NoPicks"))) hz hf hx (fun q hq => by
      simp only [List.mem_cons, List.not_mem_nil, or_false] at hq
      rcases hq with rfl | rfl | rfl
      · exact ⟨T.kx_NoPicks, T.ki_NoPicks_NoPicks⟩
      · exact ⟨T.kx_NoRow, T.ki_NoRow_NoPicks⟩
      · exact ⟨T.kx_TooMany, T.ki_TooMany_NoPicks⟩) (.own _) T.z_isinstance (by rfl) (pv 2) (pe_glob (by rfl) T.mx_NoPicks rfl)) (mj_cons (ej_isE (tb := [("NoPicks", false), ("NoRow", false), ("TooMany", true)]) (cV := (.ref (cl.at' "TooMany"))) (cv := (.ref (cl.at' "TooMany"))) hz hf hx (fun q hq => by
      simp only [List.mem_cons, List.not_mem_nil, or_false] at hq
      rcases hq with rfl | rfl | rfl
      · exact ⟨T.kx_NoPicks, T.ki_NoPicks_TooMany⟩
      · exact ⟨T.kx_NoRow, T.ki_NoRow_TooMany⟩
      · exact ⟨T.kx_TooMany, T.ki_TooMany_TooMany⟩) (.own _) T.z_isinstance (by rfl) (pv 2) (pe_glob (by rfl) T.mx_TooMany rfl)) mj_nil)))))
    (bj_one (sj_set (i := 1) sc__law_said.nd rfl (.inl rfl) (ej_if (tj_tru (oj_cons (lj_ex (ej_sbs (oj_cons (lj_va (pv 3)) (oj_cons (lj_ex ej_int) oj_nil)))) oj_nil)) (ej_tup (mj_cons (ej_var (pv 3)) (mj_cons (ej_isE (tb := [("NoPicks", true), ("NoRow", true), ("TooMany", true)]) (cV := (.ty "ValueError")) (cv := (.type "ValueError")) hz hf hx (fun q hq => by
      simp only [List.mem_cons, List.not_mem_nil, or_false] at hq
      rcases hq with rfl | rfl | rfl
      · exact ⟨T.kx_NoPicks, T.ki_NoPicks_ValueError⟩
      · exact ⟨T.kx_NoRow, T.ki_NoRow_ValueError⟩
      · exact ⟨T.kx_TooMany, T.ki_TooMany_ValueError⟩) (.ty _) T.z_isinstance (by rfl) (pv 2) (pe_bltn (v := .ty "ValueError") (by rfl) T.z_ValueError (by decide +kernel) rfl)) (mj_cons (ej_sbs (oj_cons (lj_ex (ej_lst (mj_cons (ej_xf hz hf hx (fun c hc => by
      simp only [List.mem_cons, List.not_mem_nil, or_false] at hc
      rcases hc with rfl
      · exact ⟨T.x_TooMany.xf, T.x_TooMany.nf _ (by decide)⟩) (pv 2)) (mj_cons (ej_xf hz hf hx (fun c hc => by
      simp only [List.mem_cons, List.not_mem_nil, or_false] at hc
      rcases hc with rfl
      · exact ⟨T.x_TooMany.xf, T.x_TooMany.nf _ (by decide)⟩) (pv 2)) mj_nil)))) (oj_cons (lj_ex ej_int) oj_nil))) mj_nil)))) (ej_tup (mj_cons (ej_var (pv 3)) (mj_cons ej_bl (mj_cons (ej_xf hz hf hx (fun c hc => by
      simp only [List.mem_cons, List.not_mem_nil, or_false] at hc
      rcases hc with rfl | rfl
      · exact ⟨T.x_NoPicks.xf, T.x_NoPicks.nf _ (by decide)⟩
      · exact ⟨T.x_NoRow.xf, T.x_NoRow.nf _ (by decide)⟩) (pv 2)) mj_nil)))))))))
    .nil))
    (bj_one (sj_retV (pv 1)))))
noncomputable def g_is_whole : Ss := (sRet (xAnd (xPrim [.va 0] (pIsi .int)) (xNot (xPrim [.va 0] (pIsi .bool)))))
noncomputable def f_is_whole : Fn := bodyF 1 g_is_whole
theorem ok_is_whole (T : Tx K mg base cl) : FnOk P w K mg base (L2.CX P w) 1 T.a_is_whole T.fd_is_whole ["thing"] (spF (gk K cl) 1 f_is_whole) :=
  fn_ok (N := ["thing"]) (k := 0) (g := g_is_whole) T.F_is_whole sc_is_whole fun cdv A outer s H vs E hr => (bj_one (sj_ret (ej_and (ej_isi (t := .int) T.z_isinstance (by rfl) (oj_cons (lj_va (pv 0)) oj_nil) (pe_bltn (v := .ty "int") (by rfl) T.z_int (by decide +kernel) rfl)) (ej_one (ej_not (ej_isi (t := .bool) T.z_isinstance (by rfl) (oj_cons (lj_va (pv 0)) oj_nil) (pe_bltn (v := .ty "bool") (by rfl) T.z_bool (by decide +kernel) rfl)))))))
noncomputable def c_is_row_0 : Sx := (xLc (con (.va 0)) (stN 2) bYes (xCall f_is_whole [.va 2]) [2])
noncomputable def g_is_row : Ss := (sRet (xAnd (xPrim [.va 0] (pIsi .tuple)) (xAnd (xPrim [.ex (xPrim [.va 0] pLen), .va 1] pEq) (xPrim [.ex c_is_row_0] pAll))))
noncomputable def f_is_row : Fn := bodyF 3 g_is_row
theorem ok_is_row (T : Tx K mg base cl) : FnOk P w K mg base (L2.CX P w) 2 T.a_is_row T.fd_is_row ["thing", "wide"] (spF (gk K cl) 2 f_is_row) :=
  fn_ok (N := ["thing", "wide", "one"]) (k := 1) (g := g_is_row) T.F_is_row sc_is_row fun cdv A outer s H vs E hr => (bj_one (sj_ret (ej_and (ej_isi (t := .tuple) T.z_isinstance (by rfl) (oj_cons (lj_va (pv 0)) oj_nil) (pe_bltn (v := .ty "tuple") (by rfl) T.z_tuple (by decide +kernel) rfl)) (ej_and (ej_eq hr.units (oj_cons (lj_ex (ej_callB call_len_seq pr_len (by rfl) T.z_len (by decide +kernel) (oj_cons (lj_va (pv 0)) oj_nil))) (oj_cons (lj_va (pv 1)) oj_nil))) (ej_one (ej_callB (cr_allK rfl) (pr_anyK _) (by rfl) T.z_all (by decide +kernel) (oj_cons (lj_ex (ej_lc rfl sc_is_row.nd (ij_seq (lj_va (pv 0))) (blkOk_by (own := [("one", 2)]) (by kernel_rfl)) (fun _ _ _ _ _ => (gj_name (i := 2) sc_is_row.nd rfl (.inl rfl))) (fun _ _ _ _ _ => fj_nil) (fun _ _ _ _ _ => (ej_call (ok_is_whole T) (hr.mono (by first | decide | omega)) (by rfl) T.m_is_whole T.F_is_whole.kp T.b_is_whole takes0 (kj_cons (lj_va (pv 2)) kj_nil) rfl)) (by decide))) oj_nil)))))))
noncomputable def l_check_rows_0 : Ss := (sIf (bNot (bTru [.ex (xCall f_is_row [.va 3, .va 1])])) (sRaise1 "NoRow" "at" (xVar 2)) sNil)
noncomputable def g_check_rows : Ss := (sSeq (sIf (bNot (bTru [.ex (xPrim [.va 0] (pIsi .list))])) (sRaise1 "NoRow" "at" (xC (.int 0))) sNil)
    (sFor (enumS (conF 0)) (stT [2, 3]) l_check_rows_0))
noncomputable def f_check_rows : Fn := bodyF 4 g_check_rows
theorem ok_check_rows (T : Tx K mg base cl) : FnOk P w K mg base (L2.CX P w) 3 T.a_check_rows T.fd_check_rows ["rows", "wide"] (spF (gk K cl) 2 f_check_rows) :=
  fn_ok (N := ["rows", "wide", "at", "row"]) (k := 2) (g := g_check_rows) T.F_check_rows sc_check_rows fun cdv A outer s H vs E hr => (bj_cons (sj_if (tj_not (tj_tru (oj_cons (lj_ex (ej_isi (t := .list) T.z_isinstance (by rfl) (oj_cons (lj_va (pv 0)) oj_nil) (pe_bltn (v := .ty "list") (by rfl) T.z_list (by decide +kernel) rfl))) oj_nil))) (bj_one (sj_raise1 rfl (takes_of rfl rfl rfl rfl) T.x_NoRow.oex (T.x_NoRow.nf _ (by decide)) T.x_NoRow.iC T.x_NoRow.tI (ok_NoRow_init T) (hr.mono (by first | decide | omega)) T.bi_NoRow (passF (takes_of rfl rfl rfl rfl)) (by rfl) T.x_NoRow.m (mj_cons ej_int mj_nil))) bj_nil)
    (bj_one (sj_for (passes_of rfl) rfl (ij_enumC (by rfl) T.z_enumerate (cj_F (pv 0))) (gj_tup (is := [2, 3]) rfl (pgs_cons (pg_name (i := 2) sc_check_rows.nd rfl (.inl rfl)) (pgs_cons (pg_name (i := 3) sc_check_rows.nd rfl (.inl rfl)) pgs_nil)) rfl) (bj_one (sj_if (tj_not (tj_tru (oj_cons (lj_ex (ej_call (ok_is_row T) (hr.mono (by first | decide | omega)) (by rfl) T.m_is_row T.F_is_row.kp T.b_is_row (takes_of rfl rfl rfl rfl) (kj_cons (lj_va (pv 3)) (kj_cons (lj_va (pv 1)) kj_nil)) rfl)) oj_nil))) (bj_one (sj_raise1 rfl (takes_of rfl rfl rfl rfl) T.x_NoRow.oex (T.x_NoRow.nf _ (by decide)) T.x_NoRow.iC T.x_NoRow.tI (ok_NoRow_init T) (hr.mono (by first | decide | omega)) T.bi_NoRow (passF (takes_of rfl rfl rfl rfl)) (by rfl) T.x_NoRow.m (mj_cons (ej_var (pv 2)) mj_nil))) bj_nil)))))
noncomputable def f_weight : Fn := bodyF 9 Ww.gW
theorem ok_weight (T : Tx K mg base cl) : FnOk P w K mg base (L2.CX P w) 1 T.a_weight T.fd_weight ["grid"] (spF (gk K cl) 1 f_weight) :=
  fn_ok (N := ["grid", "rows", "at", "sign", "last", "found", "k", "row", "j"]) (k := 0) (g := Ww.gW) T.F_weight sc_weight fun cdv A outer s H vs E hr => by
    refine ⟨⟨_, pss_cons (ps_set (i := 1) sc_weight.nd rfl (.inr rfl) (pe_lc (te := tCB (fun xs H Q => ∃ p ys, xs = [.ref p] ∧ (SqL K H p ys ∨ SqT K H p ys) ∧ ∀ l, H l = none → Q (.ref l) (upd H l (.lst ys))) (tCons (tVar 7) tNil)) rfl sc_weight.nd (pi_list (pv 0)) (blkOk_by (own := [("row", 7)]) (by kernel_rfl)) (fun _ _ _ _ _ => pg_name (i := 7) sc_weight.nd rfl (.inl rfl)) (fun _ _ _ _ _ => pts_nil)
          (fun _ _ _ _ _ => pe_callTy (T := "list") call_list_of (by rfl) T.z_list (by decide +kernel) (pa_cons (pv 7) pa_nil))))
      (pss_cons (ps_asg (pe_tup (pa_cons pe_int (pa_cons pe_int pa_nil))) (pg_tup rfl (pgs_cons (pg_name (i := 3) sc_weight.nd rfl (.inl rfl)) (pgs_cons (pg_name (i := 4) sc_weight.nd rfl (.inl rfl)) pgs_nil rfl) rfl) rfl rfl) rfl rfl rfl)
      (pss_cons (ps_for (passes_of rfl) rfl (pi_range1 (by rfl) T.z_range (pa_cons (pe_callB call_len_seq (by rfl) T.z_len PySem.boot_len (pa_cons (pv 1) pa_nil)) pa_nil)) (pg_name (i := 2) sc_weight.nd rfl (.inr rfl))
        (pss_cons (ps_setLc (i := 5) (tt := tTest (tOp rNe (tOp (rIxL K) (tOp (rIxL K) (tVar 1) (tVar 6)) (tVar 2)) (tC (.int 0)))) (te := tVar 6) rfl sc_weight.nd rfl rfl (sw_true rfl rfl rfl (by decide +kernel)) (pi_range2 (by rfl) T.z_range (pa_cons (pv 2) (pa_cons (pe_callB call_len_seq (by rfl) T.z_len PySem.boot_len (pa_cons (pv 1) pa_nil)) pa_nil))) (blkOk_by (own := [("k", 6)]) (by kernel_rfl)) (fun _ _ _ _ _ => pg_name (i := 6) sc_weight.nd rfl (.inl rfl))
            (fun _ _ _ _ _ => pts_one (pt_cmpR op_ne (pe_ix ix_list (pe_ix ix_list (pv 1) (pv 6) (fun _ _ => rfl)) (pv 2) (fun _ _ => rfl)) pe_int (nomark _))) (fun _ _ _ _ _ => pv 6))
        (pss_cons (ps_if (pt_cmpR (op_eqD hr.units) (pv 5) (pe_lst pa_nil) (nomark _)) (pss_one (ps_ret pe_int)) pss_nil)
        (pss_cons (ps_if (pt_cmpR op_ne (pe_ix ix_list (pv 5) pe_int (fun _ _ => rfl)) (pv 2) (nomark _))
          (pss_cons (ps_asg (pe_tup (pa_cons (pe_ix ix_list (pv 1) (pe_ix ix_list (pv 5) pe_int (fun _ _ => rfl)) (fun _ _ => rfl)) (pa_cons (pe_ix ix_list (pv 1) (pv 2) (fun _ _ => rfl)) pa_nil)))
              (pg_tup rfl (pgs_cons (pg_sub (pv 1) (pv 2) set_list (by intro _; rfl)) (pgs_cons (pg_sub (pv 1) (pe_ix ix_list (pv 5) pe_int (fun _ _ => rfl)) set_list (by intro _; rfl)) pgs_nil rfl) rfl) rfl rfl) rfl rfl rfl)
          (pss_one (ps_set (i := 3) sc_weight.nd rfl (.inl rfl) (pe_un un_neg (pv 3))))) pss_nil)
        (pss_cons (ps_for (passes_of rfl) rfl (pi_range2 (by rfl) T.z_range (pa_cons (pe_op op_add (pv 2) pe_int) (pa_cons (pe_callB call_len_seq (by rfl) T.z_len PySem.boot_len (pa_cons (pv 1) pa_nil)) pa_nil))) (pg_name (i := 6) sc_weight.nd rfl (.inl rfl))
          (pss_one (ps_for (passes_of rfl) rfl (pi_range2 (by rfl) T.z_range (pa_cons (pe_op op_add (pv 2) pe_int) (pa_cons (pe_callB call_len_seq (by rfl) T.z_len PySem.boot_len (pa_cons (pv 1) pa_nil)) pa_nil))) (pg_name (i := 8) sc_weight.nd rfl (.inl rfl))
            (pss_one (ps_asg (pe_op op_fdivD (pe_op op_sub (pe_op op_mulI (pe_ix ix_list (pe_ix ix_list (pv 1) (pv 6) (fun _ _ => rfl)) (pv 8) (fun _ _ => rfl)) (pe_ix ix_list (pe_ix ix_list (pv 1) (pv 2) (fun _ _ => rfl)) (pv 2) (fun _ _ => rfl)))
                (pe_op op_mulI (pe_ix ix_list (pe_ix ix_list (pv 1) (pv 6) (fun _ _ => rfl)) (pv 2) (fun _ _ => rfl)) (pe_ix ix_list (pe_ix ix_list (pv 1) (pv 2) (fun _ _ => rfl)) (pv 8) (fun _ _ => rfl)))) (pv 4))
              (pg_sub (pe_ix ix_list (pv 1) (pv 6) (fun _ _ => rfl)) (pv 8) set_list (by intro _; rfl)) rfl rfl rfl)))))
        (pss_one (ps_set (i := 4) sc_weight.nd rfl (.inl rfl) (pe_ix ix_list (pe_ix ix_list (pv 1) (pv 2) (fun _ _ => rfl)) (pv 2) (fun _ _ => rfl)))))))))
      (pss_one (ps_ret (pe_op op_mulI (pv 3) (pv 4)))))), ?_⟩⟩
    exact fun O W σ H ρ E sr hw => Ww.gW_sound O W σ H ρ E sr hw
noncomputable def c_grid_of_0 : Sx := (xLc (con (.va 1)) (stN 3) bYes (xPrim [.va 2, .va 3] pIx) [3])
noncomputable def c_grid_of_1 : Sx := (xLc (con (.va 0)) (stN 2) bYes (xPrim [.ex c_grid_of_0] pTuple) [2])
noncomputable def g_grid_of : Ss := (sRet c_grid_of_1)
noncomputable def f_grid_of : Fn := bodyF 4 g_grid_of
theorem ok_grid_of (T : Tx K mg base cl) : FnOk P w K mg base (L2.CX P w) 1 T.a_grid_of T.fd_grid_of ["rows", "picks"] (spF (gk K cl) 2 f_grid_of) :=
  fn_ok (N := ["rows", "picks", "row", "pick"]) (k := 0) (g := g_grid_of) T.F_grid_of sc_grid_of fun cdv A outer s H vs E hr => (bj_one (sj_ret (ej_lc rfl sc_grid_of.nd (ij_seq (lj_va (pv 0))) (blkOk_by (own := [("row", 2)]) (by kernel_rfl)) (fun _ _ _ _ _ => (gj_name (i := 2) sc_grid_of.nd rfl (.inr rfl))) (fun _ _ _ _ _ => fj_nil) (fun _ _ _ _ _ => (ej_callTy call_tuple_of pr_tuple (by rfl) T.z_tuple (by decide +kernel) (oj_cons (lj_ex (ej_lc rfl sc_grid_of.nd (ij_seq (lj_va (pv 1))) (blkOk_by (own := [("pick", 3)]) (by kernel_rfl)) (fun _ _ _ _ _ => (gj_name (i := 3) sc_grid_of.nd rfl (.inl rfl))) (fun _ _ _ _ _ => fj_nil) (fun _ _ _ _ _ => (ej_sbs (oj_cons (lj_va (pv 2)) (oj_cons (lj_va (pv 3)) oj_nil)))) (by decide))) oj_nil))) (by decide))))
noncomputable def b_check_picks_0 : Sb := (bOr (bNot (bTru [.ex (xPrim [.va 1] (pIsi .tuple))])) (bT (xPrim [.ex (xPrim [.va 1] pLen), .ex (xPrim [.va 0] pLen)] pNe)))
noncomputable def b_check_picks_1 : Sb := (bOr (bNot (bTru [.ex (xCall f_is_whole [.va 4])])) (bOr (bNot (bT (xChain (fun i j => decide (i ≤ j)) (fun i j => decide (i < j)) [.ex (xC (.int 0)), .va 4] [.va 2]))) (bAnd (bT (xPrim [.va 3, .ex (xC (.int 0))] pGt)) (bT (xPrim [.va 4, .ex (xPrim [.va 1, .ex (xPrim [.va 3, .ex (xC (.int 1))] pSub)] pIx)] pLe)))))
noncomputable def l_check_picks_0 : Ss := (sIf b_check_picks_1 (sRaise1 "NoPicks" "at" (xVar 3)) sNil)
noncomputable def g_check_picks : Ss := (sSeq (sEx (xCall f_check_rows [.va 0, .va 2]))
    (sSeq (sIf b_check_picks_0 (sRaise1 "NoPicks" "at" (xPrim [.ex (xC (.int 1))] pNeg)) sNil)
    (sSeq (sFor (enumS (conF 1)) (stT [3, 4]) l_check_picks_0)
    (sIf (bT (xPrim [.ex (xCall f_weight [.ex (xCall f_grid_of [.va 0, .va 1])]), .ex (xC (.int 0))] pEq)) (sRaise1 "NoPicks" "at" (xPrim [.va 1] pLen)) sNil))))
noncomputable def f_check_picks : Fn := bodyF 5 g_check_picks
theorem ok_check_picks (T : Tx K mg base cl) : FnOk P w K mg base (L2.CX P w) 4 T.a_check_picks T.fd_check_picks ["rows", "picks", "wide"] (spF (gk K cl) 3 f_check_picks) :=
  fn_ok (N := ["rows", "picks", "wide", "at", "pick"]) (k := 3) (g := g_check_picks) T.F_check_picks sc_check_picks fun cdv A outer s H vs E hr => (bj_cons (sj_ex (ej_call (ok_check_rows T) (hr.mono (by first | decide | omega)) (by rfl) T.m_check_rows T.F_check_rows.kp T.b_check_rows (takes_of rfl rfl rfl rfl) (kj_cons (lj_va (pv 0)) (kj_cons (lj_va (pv 2)) kj_nil)) rfl))
    (bj_cons (sj_if (WJ.tj (wj_or (tj_not (tj_tru (oj_cons (lj_ex (ej_isi (t := .tuple) T.z_isinstance (by rfl) (oj_cons (lj_va (pv 1)) oj_nil) (pe_bltn (v := .ty "tuple") (by rfl) T.z_tuple (by decide +kernel) rfl))) oj_nil))) (wj_or1 (tj_ne hr.units (oj_cons (lj_ex (ej_callB call_len_seq pr_len (by rfl) T.z_len (by decide +kernel) (oj_cons (lj_va (pv 1)) oj_nil))) (oj_cons (lj_ex (ej_callB call_len_seq pr_len (by rfl) T.z_len (by decide +kernel) (oj_cons (lj_va (pv 0)) oj_nil))) oj_nil)))))) (bj_one (sj_raise1 rfl (takes_of rfl rfl rfl rfl) T.x_NoPicks.oex (T.x_NoPicks.nf _ (by decide)) T.x_NoPicks.iC T.x_NoPicks.tI (ok_NoPicks_init T) (hr.mono (by first | decide | omega)) T.bi_NoPicks (passF (takes_of rfl rfl rfl rfl)) (by rfl) T.x_NoPicks.m (mj_cons (ej_neg (oj_cons (lj_ex ej_int) oj_nil)) mj_nil))) bj_nil)
    (bj_cons (sj_for (passes_of rfl) rfl (ij_enumC (by rfl) T.z_enumerate (cj_F (pv 1))) (gj_tup (is := [3, 4]) rfl (pgs_cons (pg_name (i := 3) sc_check_picks.nd rfl (.inl rfl)) (pgs_cons (pg_name (i := 4) sc_check_picks.nd rfl (.inl rfl)) pgs_nil)) rfl) (bj_one (sj_if (WJ.tj (wj_or (tj_not (tj_tru (oj_cons (lj_ex (ej_call (ok_is_whole T) (hr.mono (by first | decide | omega)) (by rfl) T.m_is_whole T.F_is_whole.kp T.b_is_whole (takes_of rfl rfl rfl rfl) (kj_cons (lj_va (pv 4)) kj_nil) rfl)) oj_nil))) (wj_or (tj_not (tj_chain (g1 := (fun i j => decide (i ≤ j))) (g2 := (fun i j => decide (i < j))) op_le op_lt (oj_cons (lj_ex ej_int) (oj_cons (lj_va (pv 4)) oj_nil)) (oj_cons (lj_va (pv 2)) oj_nil))) (wj_or1 (WJ.tj (wj_and (tj_gt (oj_cons (lj_va (pv 3)) (oj_cons (lj_ex ej_int) oj_nil))) (wj_and1 (tj_le (oj_cons (lj_va (pv 4)) (oj_cons (lj_ex (ej_sbs (oj_cons (lj_va (pv 1)) (oj_cons (lj_ex (ej_sub (oj_cons (lj_va (pv 3)) (oj_cons (lj_ex ej_int) oj_nil)))) oj_nil)))) oj_nil)))))))))) (bj_one (sj_raise1 rfl (takes_of rfl rfl rfl rfl) T.x_NoPicks.oex (T.x_NoPicks.nf _ (by decide)) T.x_NoPicks.iC T.x_NoPicks.tI (ok_NoPicks_init T) (hr.mono (by first | decide | omega)) T.bi_NoPicks (passF (takes_of rfl rfl rfl rfl)) (by rfl) T.x_NoPicks.m (mj_cons (ej_var (pv 3)) mj_nil))) bj_nil)))
    (bj_one (sj_if (tj_eq hr.units (oj_cons (lj_ex (ej_call (ok_weight T) (hr.mono (by first | decide | omega)) (by rfl) T.m_weight T.F_weight.kp T.b_weight (takes_of rfl rfl rfl rfl) (kj_cons (lj_ex (ej_call (ok_grid_of T) (hr.mono (by first | decide | omega)) (by rfl) T.m_grid_of T.F_grid_of.kp T.b_grid_of (takes_of rfl rfl rfl rfl) (kj_cons (lj_va (pv 0)) (kj_cons (lj_va (pv 1)) kj_nil)) rfl)) kj_nil) rfl)) (oj_cons (lj_ex ej_int) oj_nil))) (bj_one (sj_raise1 rfl (takes_of rfl rfl rfl rfl) T.x_NoPicks.oex (T.x_NoPicks.nf _ (by decide)) T.x_NoPicks.iC T.x_NoPicks.tI (ok_NoPicks_init T) (hr.mono (by first | decide | omega)) T.bi_NoPicks (passF (takes_of rfl rfl rfl rfl)) (by rfl) T.x_NoPicks.m (mj_cons (ej_callB call_len_seq pr_len (by rfl) T.z_len (by decide +kernel) (oj_cons (lj_va (pv 1)) oj_nil)) mj_nil))) bj_nil)))))
noncomputable def c_flipped_0 : Sx := (xLc (con (.va 0)) (stN 3) bYes (xPrim [.va 3, .va 2] pIx) [3])
noncomputable def c_flipped_1 : Sx := (xLc (srcRng1 [.va 1]) (stN 2) bYes (xPrim [.ex c_flipped_0] pTuple) [2])
noncomputable def g_flipped : Ss := (sRet c_flipped_1)
noncomputable def f_flipped : Fn := bodyF 4 g_flipped
theorem ok_flipped (T : Tx K mg base cl) : FnOk P w K mg base (L2.CX P w) 1 T.a_flipped T.fd_flipped ["rows", "wide"] (spF (gk K cl) 2 f_flipped) :=
  fn_ok (N := ["rows", "wide", "k", "row"]) (k := 0) (g := g_flipped) T.F_flipped sc_flipped fun cdv A outer s H vs E hr => (bj_one (sj_ret (ej_lc rfl sc_flipped.nd (ij_rng1 (by rfl) T.z_range (oj_cons (lj_va (pv 1)) oj_nil)) (blkOk_by (own := [("k", 2)]) (by kernel_rfl)) (fun _ _ _ _ _ => (gj_name (i := 2) sc_flipped.nd rfl (.inr rfl))) (fun _ _ _ _ _ => fj_nil) (fun _ _ _ _ _ => (ej_callTy call_tuple_of pr_tuple (by rfl) T.z_tuple (by decide +kernel) (oj_cons (lj_ex (ej_lc rfl sc_flipped.nd (ij_seq (lj_va (pv 0))) (blkOk_by (own := [("row", 3)]) (by kernel_rfl)) (fun _ _ _ _ _ => (gj_name (i := 3) sc_flipped.nd rfl (.inl rfl))) (fun _ _ _ _ _ => fj_nil) (fun _ _ _ _ _ => (ej_sbs (oj_cons (lj_va (pv 3)) (oj_cons (lj_va (pv 2)) oj_nil)))) (by decide))) oj_nil))) (by decide))))
noncomputable def c_added_0 : Sx := (xLc (srcZip (.va 0) (.va 1)) (stT [3, 4]) bYes (xPrim [.va 3, .ex (xPrim [.va 2, .va 4] pMul)] pAdd) [3, 4])
noncomputable def g_added : Ss := (sRet (xPrim [.ex c_added_0] pTuple))
noncomputable def f_added : Fn := bodyF 5 g_added
theorem ok_added (T : Tx K mg base cl) : FnOk P w K mg base (L2.CX P w) 1 T.a_added T.fd_added ["one", "other", "many"] (spF (gk K cl) 3 f_added) :=
  fn_ok (N := ["one", "other", "many", "mine", "its"]) (k := 0) (g := g_added) T.F_added sc_added fun cdv A outer s H vs E hr => (bj_one (sj_ret (ej_callTy call_tuple_of pr_tuple (by rfl) T.z_tuple (by decide +kernel) (oj_cons (lj_ex (ej_lc rfl sc_added.nd (ij_zip (by rfl) T.z_zip (lj_va (pv 0)) (lj_va (pv 1))) (blkOk_by (own := [("mine", 3), ("its", 4)]) (by kernel_rfl)) (fun _ _ _ _ _ => (gj_tup (is := [3, 4]) rfl (pgs_cons (pg_name (i := 3) sc_added.nd rfl (.inl rfl)) (pgs_cons (pg_name (i := 4) sc_added.nd rfl (.inl rfl)) pgs_nil)) rfl)) (fun _ _ _ _ _ => fj_nil) (fun _ _ _ _ _ => (ej_add (oj_cons (lj_va (pv 3)) (oj_cons (lj_ex (ej_mul (oj_cons (lj_va (pv 2)) (oj_cons (lj_va (pv 4)) oj_nil)))) oj_nil)))) (by decide))) oj_nil))))
noncomputable def c_reduced_0 : Sx := (xLc (con (.va 0)) (stN 7) (bT (xPrim [.ex (xPrim [.va 7, .va 1] pIx), .ex (xC (.int 0))] pNe)) (xVar 7) [7])
noncomputable def c_reduced_1 : Sx := (xLc (con (.va 0)) (stN 7) (bT (xPrim [.ex (xPrim [.va 7, .va 1] pIx), .ex (xC (.int 0))] pEq)) (xVar 7) [7])
noncomputable def c_reduced_2 : Sx := (xLc (con (.va 2)) (stN 7) bYes (xPrim [.ex (xPrim [.va 7, .va 1] pIx)] pAbs) [7])
noncomputable def c_reduced_3 : Sx := (xLc (con (.va 2)) (stN 7) (bT (xPrim [.ex (xPrim [.ex (xPrim [.va 7, .va 1] pIx)] pAbs), .va 4] pEq)) (xVar 7) [7])
noncomputable def c_reduced_4 : Sx := (xLc (con (.va 2)) (stN 7) bYes (xCall (permF [.arg 0, .arg 1, .arg 2] [0, 1, 2] f_added) [.va 7, .va 5, .ex (xPrim [.ex (xPrim [.ex (xPrim [.va 7, .va 1] pIx), .ex (xPrim [.va 5, .va 1] pIx)] pFdiv)] pNeg)]) [7])
noncomputable def c_reduced_5 : Sx := (xLc (con (.va 6)) (stN 7) (bT (xPrim [.ex (xPrim [.va 7, .va 1] pIx), .ex (xC (.int 0))] pEq)) (xVar 7) [7])
noncomputable def c_reduced_6 : Sx := (xLc (con (.va 6)) (stN 7) (bT (xPrim [.ex (xPrim [.va 7, .va 1] pIx), .ex (xC (.int 0))] pNe)) (xVar 7) [7])
noncomputable def w_reduced_7 : Ss := (sSeq (sSet 4 (xPrim [.ex c_reduced_2] pMin))
    (sSeq (sSet 5 (xPrim [.ex c_reduced_3, .ex (xC (.int 0))] pIx))
    (sSeq (sEx (xMut1 2 mRem (xVar 5)))
    (sSeq (sSet 6 c_reduced_4)
    (sSeq (sEx (xMut1 3 mExt c_reduced_5))
    (sSet 2 (xPrim [.ex (xLst [(xVar 5)]), .ex c_reduced_6] pAdd)))))))
noncomputable def g_reduced : Ss := (sSeq (sSet 2 c_reduced_0)
    (sSeq (sSet 3 c_reduced_1)
    (sSeq (sWhile (fun ρ => szS ρ) (bT (xPrim [.ex (xPrim [.va 2] pLen), .ex (xC (.int 1))] pGt)) w_reduced_7)
    (sRet (xTup [(xVar 2), (xVar 3)])))))
noncomputable def f_reduced : Fn := bodyF 8 g_reduced
theorem ok_reduced (T : Tx K mg base cl) : FnOk P w K mg base (L2.CX P w) 2 T.a_reduced T.fd_reduced ["rows", "column"] (spF (gk K cl) 2 f_reduced) :=
  fn_ok (N := ["rows", "column", "some", "others", "least", "first", "later", "row"]) (k := 1) (g := g_reduced) T.F_reduced sc_reduced fun cdv A outer s H vs E hr => (bj_cons (sj_setLc (i := 2) rfl sc_reduced.nd rfl rfl (sw_true rfl rfl rfl (by decide +kernel)) (ij_seq (lj_va (pv 0))) (blkOk_by (own := [("row", 7)]) (by kernel_rfl)) (fun _ _ _ _ _ => (gj_name (i := 7) sc_reduced.nd rfl (.inl rfl))) (fun _ _ _ _ _ => (fj_one (tj_ne hr.units (oj_cons (lj_ex (ej_sbs (oj_cons (lj_va (pv 7)) (oj_cons (lj_va (pv 1)) oj_nil)))) (oj_cons (lj_ex ej_int) oj_nil))))) (fun _ _ _ _ _ => (ej_var (pv 7))) (by decide))
    (bj_cons (sj_setLc (i := 3) rfl sc_reduced.nd rfl rfl (sw_true rfl rfl rfl (by decide +kernel)) (ij_seq (lj_va (pv 0))) (blkOk_by (own := [("row", 7)]) (by kernel_rfl)) (fun _ _ _ _ _ => (gj_name (i := 7) sc_reduced.nd rfl (.inl rfl))) (fun _ _ _ _ _ => (fj_one (tj_eq hr.units (oj_cons (lj_ex (ej_sbs (oj_cons (lj_va (pv 7)) (oj_cons (lj_va (pv 1)) oj_nil)))) (oj_cons (lj_ex ej_int) oj_nil))))) (fun _ _ _ _ _ => (ej_var (pv 7))) (by decide))
    (bj_cons (sj_while (fun ρ => szS ρ) (passes_of rfl) (tj_gt (oj_cons (lj_ex (ej_callB call_len_seq pr_len (by rfl) T.z_len (by decide +kernel) (oj_cons (lj_va (pv 2)) oj_nil))) (oj_cons (lj_ex ej_int) oj_nil))) (bj_cons (sj_set (i := 4) sc_reduced.nd rfl (.inr rfl) (ej_callB (call_minD rfl) pr_min (by rfl) T.z_min (by decide +kernel) (oj_cons (lj_ex (ej_lc rfl sc_reduced.nd (ij_seq (lj_va (pv 2))) (blkOk_by (own := [("row", 7)]) (by kernel_rfl)) (fun _ _ _ _ _ => (gj_name (i := 7) sc_reduced.nd rfl (.inl rfl))) (fun _ _ _ _ _ => fj_nil) (fun _ _ _ _ _ => (ej_callB call_abs pr_abs (by rfl) T.z_abs (by decide +kernel) (oj_cons (lj_ex (ej_sbs (oj_cons (lj_va (pv 7)) (oj_cons (lj_va (pv 1)) oj_nil)))) oj_nil))) (by decide))) oj_nil)))
    (bj_cons (sj_set (i := 5) sc_reduced.nd rfl (.inr rfl) (ej_sbs (oj_cons (lj_ex (ej_lc rfl sc_reduced.nd (ij_seq (lj_va (pv 2))) (blkOk_by (own := [("row", 7)]) (by kernel_rfl)) (fun _ _ _ _ _ => (gj_name (i := 7) sc_reduced.nd rfl (.inl rfl))) (fun _ _ _ _ _ => (fj_one (tj_eq hr.units (oj_cons (lj_ex (ej_callB call_abs pr_abs (by rfl) T.z_abs (by decide +kernel) (oj_cons (lj_ex (ej_sbs (oj_cons (lj_va (pv 7)) (oj_cons (lj_va (pv 1)) oj_nil)))) oj_nil))) (oj_cons (lj_va (pv 4)) oj_nil))))) (fun _ _ _ _ _ => (ej_var (pv 7))) (by decide))) (oj_cons (lj_ex ej_int) oj_nil))))
    (bj_cons (sj_ex (ej_mut1 (m := mRem) PySem.F.slot_list_remove PySem.F.type_list_remove (mt_removeD (u65 hr)) mut_rem ne_rem (pv 2) (ej_var (pv 5))))
    (bj_cons (sj_setLc (i := 6) rfl sc_reduced.nd rfl rfl (sw_true rfl rfl rfl (by decide +kernel)) (ij_seq (lj_va (pv 2))) (blkOk_by (own := [("row", 7)]) (by kernel_rfl)) (fun _ _ _ _ _ => (gj_name (i := 7) sc_reduced.nd rfl (.inl rfl))) (fun _ _ _ _ _ => fj_nil) (fun _ _ _ _ _ => (ej_callK (sel := [.arg 0, .arg 1, .arg 2]) (inv := [0, 1, 2]) (ok_added T) (hr.mono (by first | decide | omega)) (by rfl) T.m_added T.F_added.kp T.kb_added_2_many takes0 (.cons rfl (.cons rfl .nil)) (kj_cons (lj_va (pv 7)) (kj_cons (lj_va (pv 5)) (kj_cons (lj_ex (ej_neg (oj_cons (lj_ex (ej_fdiv (oj_cons (lj_ex (ej_sbs (oj_cons (lj_va (pv 7)) (oj_cons (lj_va (pv 1)) oj_nil)))) (oj_cons (lj_ex (ej_sbs (oj_cons (lj_va (pv 5)) (oj_cons (lj_va (pv 1)) oj_nil)))) oj_nil)))) oj_nil))) kj_nil))) (by decide))) (by decide))
    (bj_cons (sj_ex (ej_mut1 (m := mExt) PySem.F.slot_list_extend PySem.F.type_list_extend mt_extend mut_ext ne_ext (pv 3) (ej_lc rfl sc_reduced.nd (ij_seq (lj_va (pv 6))) (blkOk_by (own := [("row", 7)]) (by kernel_rfl)) (fun _ _ _ _ _ => (gj_name (i := 7) sc_reduced.nd rfl (.inl rfl))) (fun _ _ _ _ _ => (fj_one (tj_eq hr.units (oj_cons (lj_ex (ej_sbs (oj_cons (lj_va (pv 7)) (oj_cons (lj_va (pv 1)) oj_nil)))) (oj_cons (lj_ex ej_int) oj_nil))))) (fun _ _ _ _ _ => (ej_var (pv 7))) (by decide))))
    (bj_one (sj_set (i := 2) sc_reduced.nd rfl (.inl rfl) (ej_add (oj_cons (lj_ex (ej_lst (mj_cons (ej_var (pv 5)) mj_nil))) (oj_cons (lj_ex (ej_lc rfl sc_reduced.nd (ij_seq (lj_va (pv 6))) (blkOk_by (own := [("row", 7)]) (by kernel_rfl)) (fun _ _ _ _ _ => (gj_name (i := 7) sc_reduced.nd rfl (.inl rfl))) (fun _ _ _ _ _ => (fj_one (tj_ne hr.units (oj_cons (lj_ex (ej_sbs (oj_cons (lj_va (pv 7)) (oj_cons (lj_va (pv 1)) oj_nil)))) (oj_cons (lj_ex ej_int) oj_nil))))) (fun _ _ _ _ _ => (ej_var (pv 7))) (by decide))) oj_nil)))))))))))
    (bj_one (sj_ret (ej_tup (mj_cons (ej_var (pv 2)) (mj_cons (ej_var (pv 3)) mj_nil))))))))
noncomputable def g_is_nought : Ss := (sRet (xNot (xPrim [.va 0] pAny)))
noncomputable def f_is_nought : Fn := bodyF 1 g_is_nought
theorem ok_is_nought (T : Tx K mg base cl) : FnOk P w K mg base (L2.CX P w) 1 T.a_is_nought T.fd_is_nought ["row"] (spF (gk K cl) 1 f_is_nought) :=
  fn_ok (N := ["row"]) (k := 0) (g := g_is_nought) T.F_is_nought sc_is_nought fun cdv A outer s H vs E hr => (bj_one (sj_ret (ej_not (ej_callB (cr_anyK rfl) (pr_anyK _) (by rfl) T.z_any (by decide +kernel) (oj_cons (lj_va (pv 0)) oj_nil)))))
noncomputable def c_turned_0 : Sx := (xLc (con (.va 0)) (stN 1) bYes (xPrim [.va 1] pNeg) [1])
noncomputable def g_turned : Ss := (sRet (xPrim [.ex c_turned_0] pTuple))
noncomputable def f_turned : Fn := bodyF 2 g_turned
theorem ok_turned (T : Tx K mg base cl) : FnOk P w K mg base (L2.CX P w) 1 T.a_turned T.fd_turned ["row"] (spF (gk K cl) 1 f_turned) :=
  fn_ok (N := ["row", "one"]) (k := 0) (g := g_turned) T.F_turned sc_turned fun cdv A outer s H vs E hr => (bj_one (sj_ret (ej_callTy call_tuple_of pr_tuple (by rfl) T.z_tuple (by decide +kernel) (oj_cons (lj_ex (ej_lc rfl sc_turned.nd (ij_seq (lj_va (pv 0))) (blkOk_by (own := [("one", 1)]) (by kernel_rfl)) (fun _ _ _ _ _ => (gj_name (i := 1) sc_turned.nd rfl (.inl rfl))) (fun _ _ _ _ _ => fj_nil) (fun _ _ _ _ _ => (ej_neg (oj_cons (lj_va (pv 1)) oj_nil))) (by decide))) oj_nil))))
noncomputable def c_told_rows_0 : Sx := (xLc (con (.va 0)) (stN 6) (bNot (bTru [.ex (xCall f_is_nought [.va 6])])) (xVar 6) [6])
noncomputable def c_told_rows_1 : Sx := (xLc (con (.va 3)) (stN 6) (bNot (bTru [.ex (xCall f_is_nought [.va 6])])) (xVar 6) [6])
noncomputable def c_told_rows_2 : Sx := (xLc (con (.va 2)) (stN 8) bYes (xCall (permF [.arg 0, .arg 1, .arg 2] [0, 1, 2] f_added) [.va 8, .va 6, .ex (xPrim [.ex (xPrim [.ex (xPrim [.va 8, .va 4] pIx), .ex (xPrim [.va 6, .va 4] pIx)] pFdiv)] pNeg)]) [8])
noncomputable def l_told_rows_3 : Ss := (sSeq (sSet 6 (xIf (bT (xPrim [.ex (xPrim [.va 5, .va 4] pIx), .ex (xC (.int 0))] pGt)) (xVar 5) (xCall f_turned [.va 5])))
    (sSet 2 (xPrim [.ex c_told_rows_2, .ex (xLst [(xVar 6)])] pAdd)))
noncomputable def l_told_rows_4 : Ss := (sSeq (sTup [7, 3] (xCall f_reduced [.va 3, .va 4]))
    (sSeq (sSet 3 c_told_rows_1)
    (sFor (conF 7) (stN 5) l_told_rows_3)))
noncomputable def g_told_rows : Ss := (sSeq (sSet 2 (xLst []))
    (sSeq (sSet 3 c_told_rows_0)
    (sSeq (sFor (srcRng1 [.va 1]) (stN 4) l_told_rows_4)
    (sRetV 2))))
noncomputable def f_told_rows : Fn := bodyF 9 g_told_rows
theorem ok_told_rows (T : Tx K mg base cl) : FnOk P w K mg base (L2.CX P w) 3 T.a_told_rows T.fd_told_rows ["rows", "wide"] (spF (gk K cl) 2 f_told_rows) :=
  fn_ok (N := ["rows", "wide", "found", "left", "column", "first", "row", "some", "one"]) (k := 2) (g := g_told_rows) T.F_told_rows sc_told_rows fun cdv A outer s H vs E hr => (bj_cons (sj_set (i := 2) sc_told_rows.nd rfl (.inl rfl) (ej_lst mj_nil))
    (bj_cons (sj_setLc (i := 3) rfl sc_told_rows.nd rfl rfl (sw_true rfl rfl rfl (by decide +kernel)) (ij_seq (lj_va (pv 0))) (blkOk_by (own := [("row", 6)]) (by kernel_rfl)) (fun _ _ _ _ _ => (gj_name (i := 6) sc_told_rows.nd rfl (.inl rfl))) (fun _ _ _ _ _ => (fj_one (tj_not (tj_tru (oj_cons (lj_ex (ej_call (ok_is_nought T) (hr.mono (by first | decide | omega)) (by rfl) T.m_is_nought T.F_is_nought.kp T.b_is_nought takes0 (kj_cons (lj_va (pv 6)) kj_nil) rfl)) oj_nil))))) (fun _ _ _ _ _ => (ej_var (pv 6))) (by decide))
    (bj_cons (sj_for (passes_of rfl) rfl (ij_rng1 (by rfl) T.z_range (oj_cons (lj_va (pv 1)) oj_nil)) (gj_name (i := 4) sc_told_rows.nd rfl (.inr rfl)) (bj_cons (sj_tup (is := [7, 3]) rfl (pgs_cons (pg_name (i := 7) sc_told_rows.nd rfl (.inl rfl)) (pgs_cons (pg_name (i := 3) sc_told_rows.nd rfl (.inl rfl)) pgs_nil)) (ej_call (ok_reduced T) (hr.mono (by first | decide | omega)) (by rfl) T.m_reduced T.F_reduced.kp T.b_reduced (takes_of rfl rfl rfl rfl) (kj_cons (lj_va (pv 3)) (kj_cons (lj_va (pv 4)) kj_nil)) rfl) rfl)
    (bj_cons (sj_setLc (i := 3) rfl sc_told_rows.nd rfl rfl (sw_true rfl rfl rfl (by decide +kernel)) (ij_seq (lj_va (pv 3))) (blkOk_by (own := [("row", 6)]) (by kernel_rfl)) (fun _ _ _ _ _ => (gj_name (i := 6) sc_told_rows.nd rfl (.inl rfl))) (fun _ _ _ _ _ => (fj_one (tj_not (tj_tru (oj_cons (lj_ex (ej_call (ok_is_nought T) (hr.mono (by first | decide | omega)) (by rfl) T.m_is_nought T.F_is_nought.kp T.b_is_nought takes0 (kj_cons (lj_va (pv 6)) kj_nil) rfl)) oj_nil))))) (fun _ _ _ _ _ => (ej_var (pv 6))) (by decide))
    (bj_one (sj_for (passes_of rfl) rfl (ij_seqC (cj_F (pv 7))) (gj_name (i := 5) sc_told_rows.nd rfl (.inl rfl)) (bj_cons (sj_set (i := 6) sc_told_rows.nd rfl (.inr rfl) (ej_if (tj_gt (oj_cons (lj_ex (ej_sbs (oj_cons (lj_va (pv 5)) (oj_cons (lj_va (pv 4)) oj_nil)))) (oj_cons (lj_ex ej_int) oj_nil))) (ej_var (pv 5)) (ej_call (ok_turned T) (hr.mono (by first | decide | omega)) (by rfl) T.m_turned T.F_turned.kp T.b_turned (takes_of rfl rfl rfl rfl) (kj_cons (lj_va (pv 5)) kj_nil) rfl)))
    (bj_one (sj_set (i := 2) sc_told_rows.nd rfl (.inl rfl) (ej_add (oj_cons (lj_ex (ej_lc rfl sc_told_rows.nd (ij_seq (lj_va (pv 2))) (blkOk_by (own := [("one", 8)]) (by kernel_rfl)) (fun _ _ _ _ _ => (gj_name (i := 8) sc_told_rows.nd rfl (.inl rfl))) (fun _ _ _ _ _ => fj_nil) (fun _ _ _ _ _ => (ej_callK (sel := [.arg 0, .arg 1, .arg 2]) (inv := [0, 1, 2]) (ok_added T) (hr.mono (by first | decide | omega)) (by rfl) T.m_added T.F_added.kp T.kb_added_2_many takes0 (.cons rfl (.cons rfl .nil)) (kj_cons (lj_va (pv 8)) (kj_cons (lj_va (pv 6)) (kj_cons (lj_ex (ej_neg (oj_cons (lj_ex (ej_fdiv (oj_cons (lj_ex (ej_sbs (oj_cons (lj_va (pv 8)) (oj_cons (lj_va (pv 4)) oj_nil)))) (oj_cons (lj_ex (ej_sbs (oj_cons (lj_va (pv 6)) (oj_cons (lj_va (pv 4)) oj_nil)))) oj_nil)))) oj_nil))) kj_nil))) (by decide))) (by decide))) (oj_cons (lj_ex (ej_lst (mj_cons (ej_var (pv 6)) mj_nil))) oj_nil)))))))))))
    (bj_one (sj_retV (pv 2))))))
noncomputable def c_Rounds_init_0 : Sx := (xLc (con (.va 2)) (stN 4) bYes (xPrim [.ex (xPrim [.va 0] (pFld "Rounds" "columns")), .va 4] pIx) [4])
noncomputable def g_Rounds_init : Sn := (nSeq (sEx (xCall (permF [.arg 0, .arg 1, .arg 2] [0, 1, 2] f_check_picks) [.va 1, .va 2, .va 3]))
    (nSto "columns" (xCall (permF [.arg 0, .arg 1] [0, 1] f_flipped) [.va 1, .va 3])
    (nSto "chosen_ones" (xVar 2)
    (nSto "grid" (xCall f_grid_of [.va 1, .va 2])
    (nStoS "Rounds" "heavy" (xCall f_weight [.ex (xPrim [.va 0] (pFld "Rounds" "grid"))])
    (nIfS "Rounds" (bT (xPrim [.ex (xPrim [.ex (xPrim [.va 0] (pFld "Rounds" "heavy"))] pAbs), .ex (xC (.int 60))] pGt)) (sRaise1 "TooMany" "many" (xC (.int 60)))
    (nStoS "Rounds" "stairs" (xCall (permF [.arg 0, .arg 1] [0, 1] f_told_rows) [.ex c_Rounds_init_0, .ex (xPrim [.va 2] pLen)])
    nNil)))))))
noncomputable def f_Rounds_init : Fi := bodyN 5 g_Rounds_init
theorem ok_Rounds_init (T : Tx K mg base cl) : FnOk P w K mg base (L2.CX P w) 5 T.a_Rounds_init T.fd_Rounds_init ["self", "rows", "picks", "wide"] (spN (gk K cl) "Rounds" 3 f_Rounds_init) :=
  fn_okN (N := ["self", "rows", "picks", "wide", "pick"]) (k := 4) (g := g_Rounds_init) T.F_Rounds_init sc_Rounds_init rfl fun cdv A outer s H vs E hr => (nj_cons (sj_ex (ej_callK (sel := [.arg 0, .arg 1, .arg 2]) (inv := [0, 1, 2]) (ok_check_picks T) (hr.mono (by first | decide | omega)) (by rfl) T.m_check_picks T.F_check_picks.kp T.kb_check_picks_2_wide (takes_of rfl rfl rfl rfl) (.cons rfl (.cons rfl .nil)) (kj_cons (lj_va (pv 1)) (kj_cons (lj_va (pv 2)) (kj_cons (lj_va (pv 3)) kj_nil))) (by decide)))
    (nj_store (pv 0) T.cls_Rounds (T.na_Rounds _ (by decide)) (ej_callK (sel := [.arg 0, .arg 1]) (inv := [0, 1]) (ok_flipped T) (hr.mono (by first | decide | omega)) (by rfl) T.m_flipped T.F_flipped.kp T.kb_flipped_1_wide (takes_of rfl rfl rfl rfl) (.cons rfl .nil) (kj_cons (lj_va (pv 1)) (kj_cons (lj_va (pv 3)) kj_nil)) (by decide))
    (nj_store (pv 0) T.cls_Rounds (T.na_Rounds _ (by decide)) (ej_var (pv 2))
    (nj_store (pv 0) T.cls_Rounds (T.na_Rounds _ (by decide)) (ej_call (ok_grid_of T) (hr.mono (by first | decide | omega)) (by rfl) T.m_grid_of T.F_grid_of.kp T.b_grid_of (takes_of rfl rfl rfl rfl) (kj_cons (lj_va (pv 1)) (kj_cons (lj_va (pv 2)) kj_nil)) rfl)
    (nj_storeS (pv 0) T.cls_Rounds (T.na_Rounds _ (by decide)) (ej_call (ok_weight T) (hr.mono (by first | decide | omega)) (by rfl) T.m_weight T.F_weight.kp T.b_weight (takes_of rfl rfl rfl rfl) (kj_cons (lj_ex (ej_fld (c := "Rounds") T.cls_Rounds (T.na_Rounds _ (by decide)) (oj_cons (lj_va (pv 0)) oj_nil))) kj_nil) rfl)
    (nj_ifS (tj_gt (oj_cons (lj_ex (ej_callB call_abs pr_abs (by rfl) T.z_abs (by decide +kernel) (oj_cons (lj_ex (ej_fld (c := "Rounds") T.cls_Rounds (T.na_Rounds _ (by decide)) (oj_cons (lj_va (pv 0)) oj_nil))) oj_nil))) (oj_cons (lj_ex (ej_globI (by rfl) T.g_MOST_ELEMENTS)) oj_nil))) (bj_one (sj_raise1 rfl (takes_of rfl rfl rfl rfl) T.x_TooMany.oex (T.x_TooMany.nf _ (by decide)) T.x_TooMany.iC T.x_TooMany.tI (ok_TooMany_init T) (hr.mono (by first | decide | omega)) T.bi_TooMany (passF (takes_of rfl rfl rfl rfl)) (by rfl) T.x_TooMany.m (mj_cons (ej_globI (by rfl) T.g_MOST_ELEMENTS) mj_nil)))
    (nj_storeS (pv 0) T.cls_Rounds (T.na_Rounds _ (by decide)) (ej_callK (sel := [.arg 0, .arg 1]) (inv := [0, 1]) (ok_told_rows T) (hr.mono (by first | decide | omega)) (by rfl) T.m_told_rows T.F_told_rows.kp T.kb_told_rows_1_wide (takes_of rfl rfl rfl rfl) (.cons rfl .nil) (kj_cons (lj_ex (ej_lc rfl sc_Rounds_init.nd (ij_seq (lj_va (pv 2))) (blkOk_by (own := [("pick", 4)]) (by kernel_rfl)) (fun _ _ _ _ _ => (gj_name (i := 4) sc_Rounds_init.nd rfl (.inl rfl))) (fun _ _ _ _ _ => fj_nil) (fun _ _ _ _ _ => (ej_sbs (oj_cons (lj_ex (ej_fld (c := "Rounds") T.cls_Rounds (T.na_Rounds _ (by decide)) (oj_cons (lj_va (pv 0)) oj_nil))) (oj_cons (lj_va (pv 4)) oj_nil)))) (by decide))) (kj_cons (lj_ex (ej_callB call_len_seq pr_len (by rfl) T.z_len (by decide +kernel) (oj_cons (lj_va (pv 2)) oj_nil))) kj_nil)) (by decide))
    nj_nil)))))))
noncomputable def c_chosen_0 : Sx := (xLc2 (con (.va 2)) (stN 4) bYes (dRng1 [.va 0]) (stN 5) (bOr (bT (xPrim [.va 4, .ex (xTup [])] pEq)) (bT (xPrim [.va 5, .ex (xPrim [.va 4, .ex (xPrim [.ex (xC (.int 1))] pNeg)] pIx)] pGt))) (xPrim [.va 4, .ex (xTup [(xVar 5)])] pAdd) [4, 5] [5])
noncomputable def l_chosen_1 : Ss := (sSet 2 c_chosen_0)
noncomputable def g_chosen : Ss := (sSeq (sSet 2 (xLst [(xTup [])]))
    (sSeq (sFor (srcRng1 [.va 1]) (stN 3) l_chosen_1)
    (sRetV 2)))
noncomputable def f_chosen : Fn := bodyF 6 g_chosen
theorem ok_chosen (T : Tx K mg base cl) : FnOk P w K mg base (L2.CX P w) 1 T.a_chosen T.fd_chosen ["wide", "many"] (spF (gk K cl) 2 f_chosen) :=
  fn_ok (N := ["wide", "many", "found", "turn", "some", "one"]) (k := 0) (g := g_chosen) T.F_chosen sc_chosen fun cdv A outer s H vs E hr => (bj_cons (sj_set (i := 2) sc_chosen.nd rfl (.inl rfl) (ej_lst (mj_cons (ej_tup mj_nil) mj_nil)))
    (bj_cons (sj_for (passes_of rfl) rfl (ij_rng1 (by rfl) T.z_range (oj_cons (lj_va (pv 1)) oj_nil)) (gj_name (i := 3) sc_chosen.nd rfl (.inl rfl)) (bj_one (sj_setLc2 (i := 2) rfl sc_chosen.nd rfl rfl (sw_true rfl rfl rfl (by decide +kernel)) (ij_seq (lj_va (pv 2))) (blkOk_by (own := [("some", 4), ("one", 5)]) (by kernel_rfl)) (fun _ _ _ _ _ => (gj_name (i := 4) sc_chosen.nd rfl (.inl rfl))) (fun _ _ _ _ _ => fj_nil) (fun _ _ _ _ _ => (dj_rng1 (by rfl) T.z_range (oj_cons (lj_va (pv 0)) oj_nil))) (fun _ _ _ _ _ => (gj_name (i := 5) sc_chosen.nd rfl (.inl rfl))) (fun _ _ _ _ _ => (fj_one (WJ.tj (wj_or (tj_eq hr.units (oj_cons (lj_va (pv 4)) (oj_cons (lj_ex (ej_tup mj_nil)) oj_nil))) (wj_or1 (tj_gt (oj_cons (lj_va (pv 5)) (oj_cons (lj_ex (ej_sbs (oj_cons (lj_va (pv 4)) (oj_cons (lj_ex (ej_neg (oj_cons (lj_ex ej_int) oj_nil))) oj_nil)))) oj_nil)))))))) (fun _ _ _ _ _ => (ej_add (oj_cons (lj_va (pv 4)) (oj_cons (lj_ex (ej_tup (mj_cons (ej_var (pv 5)) mj_nil))) oj_nil)))) (by decide) (vs1 := [5]) (by decide) (by decide))))
    (bj_one (sj_retV (pv 2)))))
noncomputable def c_all_picks_0 : Sx := (xLc (con (.ex (xCall f_chosen [.va 1, .ex (xPrim [.va 0] pLen)]))) (stN 2) (bT (xPrim [.ex (xCall f_weight [.ex (xCall f_grid_of [.va 0, .va 2])]), .ex (xC (.int 0))] pNe)) (xVar 2) [2])
noncomputable def g_all_picks : Ss := (sSeq (sEx (xCall f_check_rows [.va 0, .va 1]))
    (sRet c_all_picks_0))
noncomputable def f_all_picks : Fn := bodyF 3 g_all_picks
theorem ok_all_picks (T : Tx K mg base cl) : FnOk P w K mg base (L2.CX P w) 4 T.a_all_picks T.fd_all_picks ["rows", "wide"] (spF (gk K cl) 2 f_all_picks) :=
  fn_ok (N := ["rows", "wide", "picks"]) (k := 3) (g := g_all_picks) T.F_all_picks sc_all_picks fun cdv A outer s H vs E hr => (bj_cons (sj_ex (ej_call (ok_check_rows T) (hr.mono (by first | decide | omega)) (by rfl) T.m_check_rows T.F_check_rows.kp T.b_check_rows (takes_of rfl rfl rfl rfl) (kj_cons (lj_va (pv 0)) (kj_cons (lj_va (pv 1)) kj_nil)) rfl))
    (bj_one (sj_ret (ej_lc rfl sc_all_picks.nd (ij_seq (lj_ex (ej_call (ok_chosen T) (hr.mono (by first | decide | omega)) (by rfl) T.m_chosen T.F_chosen.kp T.b_chosen (takes_of rfl rfl rfl rfl) (kj_cons (lj_va (pv 1)) (kj_cons (lj_ex (ej_callB call_len_seq pr_len (by rfl) T.z_len (by decide +kernel) (oj_cons (lj_va (pv 0)) oj_nil))) kj_nil)) rfl))) (blkOk_by (own := [("picks", 2)]) (by kernel_rfl)) (fun _ _ _ _ _ => (gj_name (i := 2) sc_all_picks.nd rfl (.inl rfl))) (fun _ _ _ _ _ => (fj_one (tj_ne hr.units (oj_cons (lj_ex (ej_call (ok_weight T) (hr.mono (by first | decide | omega)) (by rfl) T.m_weight T.F_weight.kp T.b_weight takes0 (kj_cons (lj_ex (ej_call (ok_grid_of T) (hr.mono (by first | decide | omega)) (by rfl) T.m_grid_of T.F_grid_of.kp T.b_grid_of takes0 (kj_cons (lj_va (pv 0)) (kj_cons (lj_va (pv 2)) kj_nil)) rfl)) kj_nil) rfl)) (oj_cons (lj_ex ej_int) oj_nil))))) (fun _ _ _ _ _ => (ej_var (pv 2))) (by decide)))))
noncomputable def m__law_asked_0 : Sx := (xCall (permF [.arg 0, .arg 1, .arg 2] [0, 1, 2] f_check_picks) [.va 0, .va 1, .va 2])
noncomputable def m__law_asked_1 : Sx := (xMake "Rounds" f_Rounds_init [.arg 1, .arg 2, .arg 3] [.ex (xVar 0), .ex (xVar 1), .ex (xVar 2)])
noncomputable def m__law_asked_2 : Sx := (xCall (permF [.arg 0, .arg 1] [0, 1] f_all_picks) [.va 0, .va 2])
noncomputable def b__law_asked_0 : Sb := (bAnd (bT (xPrim [.va 3, .ex (xC .non)] pNotN)) (bAnd (bTru [.ex (xPrim [.ex (xPrim [.va 3, .ex (xC (.int 0))] pIx), .ex (xC (.int 0))] pIx)]) (bT (xPrim [.ex (xLam [0, 2] 4 g__law_said m__law_asked_2), .va 3] pNe))))
noncomputable def g__law_asked : Ss := (sSeq (sSet 5 (xLam [0, 1, 2] 4 g__law_said m__law_asked_0))
    (sSeq (sSet 6 (xLam [0, 1, 2] 4 g__law_said m__law_asked_1))
    (sSeq (sIf b__law_asked_0 (sRet (xC (.bl false))) sNil)
    (sSeq (sIf (bT (xPrim [.va 3, .ex (xC .non)] pNotN)) (sRet (xAnd (xPrim [.va 5, .va 3] pEq) (xPrim [.va 6, .va 3] pEq))) sNil)
    (sSeq (sIf (bT (xPrim [.va 5, .ex (xTup [(xC (.str "told")), (xC (.bl true))])] pNe)) (sRet (xC (.bl false))) sNil)
    (sRet (xPrim [.va 6, .ex (xPrim [.ex (xLst [(xTup [(xC (.str "told")), (xC (.bl false))]), (xTup [(xLst [(xC (.bl false)), (xC (.bl false)), (xC (.bl true))]), (xC (.bl true)), (xC (.int 60))])]), .ex (xPrim [.ex (xPrim [.va 4, .ex (xC (.int 60))] pGt)] pInt)] pIx)] pEq)))))))
noncomputable def f__law_asked : Fn := bodyF 7 g__law_asked
theorem ok__law_asked (T : Tx K mg base cl) : FnOk P w K mg base (L2.CX P w) 9 T.a__law_asked T.fd__law_asked ["_law_rows", "_law_thing", "_law_size", "_law_due_here", "_law_heavy_here"] (spF (gk K cl) 5 f__law_asked) :=
  fn_okC (N := ["_law_rows", "_law_thing", "_law_size", "_law_due_here", "_law_heavy_here", "_law_first", "_law_second"]) (k := 8) (g := g__law_asked) T.FC__law_asked sc__law_asked fun A outer s H vs E hr => (bj_cons (sj_set (i := 5) sc__law_asked.nd rfl (.inl rfl) (ej_lam (is := [0, 1, 2]) (k := 4) (gA := g__law_said) (NZ := N__law_said) (by rfl) T.m__law_said T.F__law_said T.b__law_said sc__law_said rfl (.inl rfl) (fun cdv A outer s H f E tb ak hb hr hak => bj__law_said (T.re hb) cdv A outer s H f E ak hr hak) T.tab__law_asked rfl T.ht__law_asked T.hu__law_asked (hr.mono (by first | decide | omega)) (LamX.lamS_by (by kernel_rfl)) rfl (fun _ _ _ _ _ => rfl)
      (fun E A outer s H f c hr => (ej_callK (sel := [.arg 0, .arg 1, .arg 2]) (inv := [0, 1, 2]) (ok_check_picks T) (hr.mono (by first | decide | omega)) (by rfl) T.m_check_picks T.F_check_picks.kp T.kb_check_picks_2_wide (takes_of rfl rfl rfl rfl) (.cons rfl (.cons rfl .nil)) (kj_cons (lj_va (pv 0)) (kj_cons (lj_va (pv 1)) (kj_cons (lj_va (pv 2)) kj_nil))) (by decide)))))
    (bj_cons (sj_set (i := 6) sc__law_asked.nd rfl (.inl rfl) (ej_lam (is := [0, 1, 2]) (k := 6) (gA := g__law_said) (NZ := N__law_said) (by rfl) T.m__law_said T.F__law_said T.b__law_said sc__law_said rfl (.inl rfl) (fun cdv A outer s H f E tb ak hb hr hak => bj__law_said (T.re hb) cdv A outer s H f E ak hr hak) T.tab__law_asked rfl T.ht__law_asked T.hu__law_asked (hr.mono (by first | decide | omega)) (LamX.lamS_by (by kernel_rfl)) rfl (fun _ _ _ _ _ => rfl)
      (fun E A outer s H f c hr => (ej_make (c := "Rounds") (sel := [.arg 1, .arg 2, .arg 3]) T.mk_Rounds (ok_Rounds_init T) (hr.mono (by first | decide | omega)) (by rfl) T.mc_Rounds T.kb_Rounds_init_2_picks_wide (takes_of rfl rfl rfl rfl) (.cons rfl .nil) (kj_cons (lj_ex (ej_var (pv 0))) (kj_cons (lj_ex (ej_var (pv 1))) (kj_cons (lj_ex (ej_var (pv 2))) kj_nil))) (by decide)))))
    (bj_cons (sj_if (WJ.tj (wj_and (tj_notN (oj_cons (lj_va (pv 3)) (oj_cons (lj_ex ej_non) oj_nil))) (wj_and (tj_tru (oj_cons (lj_ex (ej_sbs (oj_cons (lj_ex (ej_sbs (oj_cons (lj_va (pv 3)) (oj_cons (lj_ex ej_int) oj_nil)))) (oj_cons (lj_ex ej_int) oj_nil)))) oj_nil)) (wj_and1 (tj_ne hr.units (oj_cons (lj_ex (ej_lam (is := [0, 2]) (k := 4) (gA := g__law_said) (NZ := N__law_said) (by rfl) T.m__law_said T.F__law_said T.b__law_said sc__law_said rfl (.inl rfl) (fun cdv A outer s H f E tb ak hb hr hak => bj__law_said (T.re hb) cdv A outer s H f E ak hr hak) T.tab__law_asked rfl T.ht__law_asked T.hu__law_asked (hr.mono (by first | decide | omega)) (LamX.lamS_by (by kernel_rfl)) rfl (fun _ _ _ _ _ => rfl)
      (fun E A outer s H f c hr => (ej_callK (sel := [.arg 0, .arg 1]) (inv := [0, 1]) (ok_all_picks T) (hr.mono (by first | decide | omega)) (by rfl) T.m_all_picks T.F_all_picks.kp T.kb_all_picks_1_wide (takes_of rfl rfl rfl rfl) (.cons rfl .nil) (kj_cons (lj_va (pv 0)) (kj_cons (lj_va (pv 2)) kj_nil)) (by decide))))) (oj_cons (lj_va (pv 3)) oj_nil))))))) (bj_one (sj_ret ej_bl)) bj_nil)
    (bj_cons (sj_if (tj_notN (oj_cons (lj_va (pv 3)) (oj_cons (lj_ex ej_non) oj_nil))) (bj_one (sj_ret (ej_and (ej_eq hr.units (oj_cons (lj_va (pv 5)) (oj_cons (lj_va (pv 3)) oj_nil))) (ej_one (ej_eq hr.units (oj_cons (lj_va (pv 6)) (oj_cons (lj_va (pv 3)) oj_nil))))))) bj_nil)
    (bj_cons (sj_if (tj_ne hr.units (oj_cons (lj_va (pv 5)) (oj_cons (lj_ex (ej_tup (mj_cons ej_str (mj_cons ej_bl mj_nil)))) oj_nil))) (bj_one (sj_ret ej_bl)) bj_nil)
    (bj_one (sj_ret (ej_eq hr.units (oj_cons (lj_va (pv 6)) (oj_cons (lj_ex (ej_sbs (oj_cons (lj_ex (ej_lst (mj_cons (ej_tup (mj_cons ej_str (mj_cons ej_bl mj_nil))) (mj_cons (ej_tup (mj_cons (ej_lst (mj_cons ej_bl (mj_cons ej_bl (mj_cons ej_bl mj_nil)))) (mj_cons ej_bl (mj_cons ej_int mj_nil)))) mj_nil)))) (oj_cons (lj_ex (ej_callTy call_int1 pr_int (by rfl) T.z_int (by decide +kernel) (oj_cons (lj_ex (ej_gt (oj_cons (lj_va (pv 4)) (oj_cons (lj_ex ej_int) oj_nil)))) oj_nil))) oj_nil)))) oj_nil))))))))))
noncomputable def g__law_draw : Ss := (sSeq (sIf (bT (xPrim [.ex (xPrim [.va 0, .ex (xC (.int 0))] pIx), .ex (xC (.int 0))] pGt)) (sSeq (sSet 3 (xPrim [.ex (xPrim [.va 0, .ex (xC (.int 0))] pIx), .va 1] pMod))
    (sSeq (sStore 0 (xPrim [.ex (xPrim [.va 0, .ex (xC (.int 0))] pIx), .va 1] pFdiv) (.ex (xC (.int 0))))
    (sRetV 3))) sNil)
    (sSeq (sStore 0 (xPrim [.ex (xPrim [.va 0, .ex (xC (.int 2))] pIx), .ex (xC (.int 1))] pAdd) (.ex (xC (.int 2))))
    (sSeq (sSet 2 (xPrim [.ex (xPrim [.ex (xPrim [.ex (xPrim [.ex (xPrim [.va 0, .ex (xC (.int 1))] pIx), .ex (xPrim [.ex (xC (.int 7907)), .ex (xPrim [.va 0, .ex (xC (.int 2))] pIx)] pMul)] pAdd), .ex (xC (.int 3))] pAdd), .ex (xC (.int 48271))] pMul), .ex (xC (.int 2147483647))] pMod))
    (sSeq (sSet 2 (xPrim [.ex (xPrim [.va 2, .ex (xPrim [.ex (xPrim [.va 2, .ex (xC (.int 1013))] pFdiv), .ex (xC (.int 69621))] pAdd)] pMul), .ex (xC (.int 2147483647))] pMod))
    (sRet (xPrim [.ex (xPrim [.ex (xPrim [.va 2, .ex (xPrim [.ex (xPrim [.va 2, .ex (xC (.int 2003))] pFdiv), .ex (xC (.int 40692))] pAdd)] pMul), .ex (xC (.int 2147483399))] pMod), .va 1] pMod))))))
noncomputable def f__law_draw : Fn := bodyF 4 g__law_draw
theorem ok__law_draw (T : Tx K mg base cl) : FnOk P w K mg base (L2.CX P w) 1 T.a__law_draw T.fd__law_draw ["_law_well", "_law_many"] (spF (gk K cl) 2 f__law_draw) :=
  fn_ok (N := ["_law_well", "_law_many", "_law_number", "_law_found"]) (k := 0) (g := g__law_draw) T.F__law_draw sc__law_draw fun cdv A outer s H vs E hr => (bj_cons (sj_if (tj_gt (oj_cons (lj_ex (ej_sbs (oj_cons (lj_va (pv 0)) (oj_cons (lj_ex ej_int) oj_nil)))) (oj_cons (lj_ex ej_int) oj_nil))) (bj_cons (sj_set (i := 3) sc__law_draw.nd rfl (.inl rfl) (ej_mod (oj_cons (lj_ex (ej_sbs (oj_cons (lj_va (pv 0)) (oj_cons (lj_ex ej_int) oj_nil)))) (oj_cons (lj_va (pv 1)) oj_nil))))
    (bj_cons (sj_store (pv 0) (oj_cons (lj_ex ej_int) oj_nil) (ej_fdiv (oj_cons (lj_ex (ej_sbs (oj_cons (lj_va (pv 0)) (oj_cons (lj_ex ej_int) oj_nil)))) (oj_cons (lj_va (pv 1)) oj_nil))))
    (bj_one (sj_retV (pv 3))))) bj_nil)
    (bj_cons (sj_store (pv 0) (oj_cons (lj_ex ej_int) oj_nil) (ej_add (oj_cons (lj_ex (ej_sbs (oj_cons (lj_va (pv 0)) (oj_cons (lj_ex ej_int) oj_nil)))) (oj_cons (lj_ex ej_int) oj_nil))))
    (bj_cons (sj_set (i := 2) sc__law_draw.nd rfl (.inl rfl) (ej_mod (oj_cons (lj_ex (ej_mul (oj_cons (lj_ex (ej_add (oj_cons (lj_ex (ej_add (oj_cons (lj_ex (ej_sbs (oj_cons (lj_va (pv 0)) (oj_cons (lj_ex ej_int) oj_nil)))) (oj_cons (lj_ex (ej_mul (oj_cons (lj_ex ej_int) (oj_cons (lj_ex (ej_sbs (oj_cons (lj_va (pv 0)) (oj_cons (lj_ex ej_int) oj_nil)))) oj_nil)))) oj_nil)))) (oj_cons (lj_ex ej_int) oj_nil)))) (oj_cons (lj_ex ej_int) oj_nil)))) (oj_cons (lj_ex ej_int) oj_nil))))
    (bj_cons (sj_set (i := 2) sc__law_draw.nd rfl (.inl rfl) (ej_mod (oj_cons (lj_ex (ej_mul (oj_cons (lj_va (pv 2)) (oj_cons (lj_ex (ej_add (oj_cons (lj_ex (ej_fdiv (oj_cons (lj_va (pv 2)) (oj_cons (lj_ex ej_int) oj_nil)))) (oj_cons (lj_ex ej_int) oj_nil)))) oj_nil)))) (oj_cons (lj_ex ej_int) oj_nil))))
    (bj_one (sj_ret (ej_mod (oj_cons (lj_ex (ej_mod (oj_cons (lj_ex (ej_mul (oj_cons (lj_va (pv 2)) (oj_cons (lj_ex (ej_add (oj_cons (lj_ex (ej_fdiv (oj_cons (lj_va (pv 2)) (oj_cons (lj_ex ej_int) oj_nil)))) (oj_cons (lj_ex ej_int) oj_nil)))) oj_nil)))) (oj_cons (lj_ex ej_int) oj_nil)))) (oj_cons (lj_va (pv 1)) oj_nil)))))))))
noncomputable def c__law_spoilt_0 : Sx := (xLc (con (.va 1)) (stN 6) bYes (xTup [(xVar 6), (xC (.bl true))]) [6])
noncomputable def g__law_spoilt : Ss := (sSeq (sSet 3 (xCall f__law_draw [.va 0, .ex (xPrim [.va 1] pLen)]))
    (sSeq (sSet 4 (xPrim [.ex (xLst [(xVar 2), (xPrim [.ex (xC (.int 1))] pNeg), (xC (.bl true)), (xC (.str "0")), (xC .non), (xPrim [.ex (xC (.int 10)), .ex (xC (.int 20))] pPow), (xTup [(xC (.int 0))]), (xC (.int 0))]), .ex (xCall f__law_draw [.va 0, .ex (xC (.int 8))])] pIx))
    (sSeq (sSet 5 (xCall f__law_draw [.va 0, .ex (xC (.int 9))]))
    (sSeq (sIf (bT (xPrim [.va 5, .ex (xC (.int 3))] pLt)) (sRet (xPrim [.ex (xPrim [.ex (xPrim [.va 1, .va 3] pSlHi), .ex (xTup [(xVar 4)])] pAdd), .ex (xPrim [.va 1, .ex (xPrim [.va 3, .ex (xC (.int 1))] pAdd)] pSlLo)] pAdd)) sNil)
    (sSeq (sIf (bT (xPrim [.va 5, .ex (xC (.int 3))] pEq)) (sRet (xPrim [.ex (xLst [(xPrim [.va 1] pList), (xC .non), (xC (.str "0")), (xPrim [.va 1] pLen), (xPrim [.ex c__law_spoilt_0] pDictP)]), .ex (xCall f__law_draw [.va 0, .ex (xC (.int 5))])] pIx)) sNil)
    (sSeq (sIf (bT (xPrim [.va 5, .ex (xC (.int 4))] pEq)) (sRet (xPrim [.va 1, .ex (xTup [(xPrim [.va 2, .ex (xC (.int 1))] pSub)])] pAdd)) sNil)
    (sSeq (sIf (bT (xPrim [.va 5, .ex (xC (.int 5))] pEq)) (sRet (xPrim [.ex (xPrim [.va 1, .va 3] pSlHi), .ex (xPrim [.va 1, .ex (xPrim [.va 3, .ex (xC (.int 1))] pAdd)] pSlLo)] pAdd)) sNil)
    (sSeq (sIf (bT (xPrim [.va 5, .ex (xC (.int 6))] pEq)) (sRet (xPrim [.va 1] pRevA)) sNil)
    (sSeq (sIf (bT (xPrim [.va 5, .ex (xC (.int 7))] pEq)) (sRet (xPrim [.ex (xTup [(xPrim [.va 1, .ex (xC (.int 0))] pIx)]), .ex (xPrim [.va 1] pLen)] pMul)) sNil)
    (sRetV 1))))))))))
noncomputable def f__law_spoilt : Fn := bodyF 7 g__law_spoilt
theorem ok__law_spoilt (T : Tx K mg base cl) : FnOk P w K mg base (L2.CX P w) 2 T.a__law_spoilt T.fd__law_spoilt ["_law_well", "_law_good", "_law_size"] (spF (gk K cl) 3 f__law_spoilt) :=
  fn_ok (N := ["_law_well", "_law_good", "_law_size", "_law_at", "_law_odd", "_law_way", "_law_one"]) (k := 1) (g := g__law_spoilt) T.F__law_spoilt sc__law_spoilt fun cdv A outer s H vs E hr => (bj_cons (sj_set (i := 3) sc__law_spoilt.nd rfl (.inl rfl) (ej_call (ok__law_draw T) (hr.mono (by first | decide | omega)) (by rfl) T.m__law_draw T.F__law_draw.kp T.b__law_draw (takes_of rfl rfl rfl rfl) (kj_cons (lj_va (pv 0)) (kj_cons (lj_ex (ej_callB call_len_seq pr_len (by rfl) T.z_len (by decide +kernel) (oj_cons (lj_va (pv 1)) oj_nil))) kj_nil)) rfl))
    (bj_cons (sj_set (i := 4) sc__law_spoilt.nd rfl (.inl rfl) (ej_sbs (oj_cons (lj_ex (ej_lst (mj_cons (ej_var (pv 2)) (mj_cons (ej_neg (oj_cons (lj_ex ej_int) oj_nil)) (mj_cons ej_bl (mj_cons ej_str (mj_cons ej_non (mj_cons (ej_pow (oj_cons (lj_ex ej_int) (oj_cons (lj_ex ej_int) oj_nil))) (mj_cons (ej_tup (mj_cons ej_int mj_nil)) (mj_cons ej_int mj_nil)))))))))) (oj_cons (lj_ex (ej_call (ok__law_draw T) (hr.mono (by first | decide | omega)) (by rfl) T.m__law_draw T.F__law_draw.kp T.b__law_draw (takes_of rfl rfl rfl rfl) (kj_cons (lj_va (pv 0)) (kj_cons (lj_ex ej_int) kj_nil)) rfl)) oj_nil))))
    (bj_cons (sj_set (i := 5) sc__law_spoilt.nd rfl (.inl rfl) (ej_call (ok__law_draw T) (hr.mono (by first | decide | omega)) (by rfl) T.m__law_draw T.F__law_draw.kp T.b__law_draw (takes_of rfl rfl rfl rfl) (kj_cons (lj_va (pv 0)) (kj_cons (lj_ex ej_int) kj_nil)) rfl))
    (bj_cons (sj_if (tj_lt (oj_cons (lj_va (pv 5)) (oj_cons (lj_ex ej_int) oj_nil))) (bj_one (sj_ret (ej_add (oj_cons (lj_ex (ej_add (oj_cons (lj_ex (ej_slHi (oj_cons (lj_va (pv 1)) (oj_cons (lj_va (pv 3)) oj_nil)))) (oj_cons (lj_ex (ej_tup (mj_cons (ej_var (pv 4)) mj_nil))) oj_nil)))) (oj_cons (lj_ex (ej_slLo (oj_cons (lj_va (pv 1)) (oj_cons (lj_ex (ej_add (oj_cons (lj_va (pv 3)) (oj_cons (lj_ex ej_int) oj_nil)))) oj_nil)))) oj_nil))))) bj_nil)
    (bj_cons (sj_if (tj_eq hr.units (oj_cons (lj_va (pv 5)) (oj_cons (lj_ex ej_int) oj_nil))) (bj_one (sj_ret (ej_sbs (oj_cons (lj_ex (ej_lst (mj_cons (ej_callTy call_list_of pr_list (by rfl) T.z_list (by decide +kernel) (oj_cons (lj_va (pv 1)) oj_nil)) (mj_cons ej_non (mj_cons ej_str (mj_cons (ej_callB call_len_seq pr_len (by rfl) T.z_len (by decide +kernel) (oj_cons (lj_va (pv 1)) oj_nil)) (mj_cons (ej_callTy (call_dictP rfl) pr_dictP (by rfl) T.z_dict (by decide +kernel) (oj_cons (lj_ex (ej_lc rfl sc__law_spoilt.nd (ij_seq (lj_va (pv 1))) (blkOk_by (own := [("_law_one", 6)]) (by kernel_rfl)) (fun _ _ _ _ _ => (gj_name (i := 6) sc__law_spoilt.nd rfl (.inl rfl))) (fun _ _ _ _ _ => fj_nil) (fun _ _ _ _ _ => (ej_tup (mj_cons (ej_var (pv 6)) (mj_cons ej_bl mj_nil)))) (by decide))) oj_nil)) mj_nil))))))) (oj_cons (lj_ex (ej_call (ok__law_draw T) (hr.mono (by first | decide | omega)) (by rfl) T.m__law_draw T.F__law_draw.kp T.b__law_draw (takes_of rfl rfl rfl rfl) (kj_cons (lj_va (pv 0)) (kj_cons (lj_ex ej_int) kj_nil)) rfl)) oj_nil))))) bj_nil)
    (bj_cons (sj_if (tj_eq hr.units (oj_cons (lj_va (pv 5)) (oj_cons (lj_ex ej_int) oj_nil))) (bj_one (sj_ret (ej_add (oj_cons (lj_va (pv 1)) (oj_cons (lj_ex (ej_tup (mj_cons (ej_sub (oj_cons (lj_va (pv 2)) (oj_cons (lj_ex ej_int) oj_nil))) mj_nil))) oj_nil))))) bj_nil)
    (bj_cons (sj_if (tj_eq hr.units (oj_cons (lj_va (pv 5)) (oj_cons (lj_ex ej_int) oj_nil))) (bj_one (sj_ret (ej_add (oj_cons (lj_ex (ej_slHi (oj_cons (lj_va (pv 1)) (oj_cons (lj_va (pv 3)) oj_nil)))) (oj_cons (lj_ex (ej_slLo (oj_cons (lj_va (pv 1)) (oj_cons (lj_ex (ej_add (oj_cons (lj_va (pv 3)) (oj_cons (lj_ex ej_int) oj_nil)))) oj_nil)))) oj_nil))))) bj_nil)
    (bj_cons (sj_if (tj_eq hr.units (oj_cons (lj_va (pv 5)) (oj_cons (lj_ex ej_int) oj_nil))) (bj_one (sj_ret (ej_revA (oj_cons (lj_va (pv 1)) oj_nil)))) bj_nil)
    (bj_cons (sj_if (tj_eq hr.units (oj_cons (lj_va (pv 5)) (oj_cons (lj_ex ej_int) oj_nil))) (bj_one (sj_ret (ej_mul (oj_cons (lj_ex (ej_tup (mj_cons (ej_sbs (oj_cons (lj_va (pv 1)) (oj_cons (lj_ex ej_int) oj_nil))) mj_nil))) (oj_cons (lj_ex (ej_callB call_len_seq pr_len (by rfl) T.z_len (by decide +kernel) (oj_cons (lj_va (pv 1)) oj_nil))) oj_nil))))) bj_nil)
    (bj_one (sj_retV (pv 1))))))))))))
noncomputable def c__law_heavy_0 : Sx := (xLc (con (.ex (xPrim [.ex (xPrim [.va 0, .va 2] pSlHi), .ex (xPrim [.va 0, .ex (xPrim [.va 2, .ex (xC (.int 1))] pAdd)] pSlLo)] pAdd))) (stN 5) bYes (xPrim [.va 5, .ex (xC (.int 1))] pSlLo) [5])
noncomputable def l__law_heavy_1 (F : Fn) : Ss := (sSeq (sSet 4 (xCall F [.ex c__law_heavy_0]))
    (sSet 1 (xPrim [.va 1, .ex (xPrim [.ex (xPrim [.ex (xLst [(xPrim [.va 3, .ex (xC (.int 0))] pIx), (xPrim [.ex (xPrim [.va 3, .ex (xC (.int 0))] pIx)] pNeg)]), .ex (xPrim [.va 2, .ex (xC (.int 2))] pMod)] pIx), .va 4] pMul)] pAdd)))
noncomputable def g__law_heavy (F : Fn) : Ss := (sSeq (sIf (bT (xPrim [.va 0, .ex (xLst [])] pEq)) (sRet (xC (.int 1))) sNil)
    (sSeq (sSet 1 (xC (.int 0)))
    (sSeq (sFor (enumS (conF 0)) (stT [2, 3]) (l__law_heavy_1 F))
    (sRetV 1))))
noncomputable def fr__law_heavy : Nat → Fn
  | 0 => fun _ => .bad
  | k + 1 => bodyF 6 (g__law_heavy (fr__law_heavy k))
theorem ok__law_heavy (T : Tx K mg base cl) : ∀ k, FnOk P w K mg base (L2.CX P w) (1 + k) T.a__law_heavy T.fd__law_heavy ["_law_grid"] (spF (gk K cl) 1 (fr__law_heavy k))
  | 0 => fn_bad rfl
  | k + 1 => by
    have hrec := ok__law_heavy T k
    exact fn_ok (N := ["_law_grid", "_law_found", "_law_k", "_law_row", "_law_rest", "_law_other"]) (k := 1 + k) (g := g__law_heavy (fr__law_heavy k)) T.F__law_heavy sc__law_heavy fun cdv A outer s H vs E hr => (bj_cons (sj_if (tj_eq hr.units (oj_cons (lj_va (pv 0)) (oj_cons (lj_ex (ej_lst mj_nil)) oj_nil))) (bj_one (sj_ret ej_int)) bj_nil)
    (bj_cons (sj_set (i := 1) sc__law_heavy.nd rfl (.inl rfl) ej_int)
    (bj_cons (sj_for (passes_of rfl) rfl (ij_enumC (by rfl) T.z_enumerate (cj_F (pv 0))) (gj_tup (is := [2, 3]) rfl (pgs_cons (pg_name (i := 2) sc__law_heavy.nd rfl (.inl rfl)) (pgs_cons (pg_name (i := 3) sc__law_heavy.nd rfl (.inl rfl)) pgs_nil)) rfl) (bj_cons (sj_set (i := 4) sc__law_heavy.nd rfl (.inl rfl) (ej_call hrec (hr.mono (by first | decide | omega)) (by rfl) T.m__law_heavy T.F__law_heavy.kp T.b__law_heavy (takes_of rfl rfl rfl rfl) (kj_cons (lj_ex (ej_lc rfl sc__law_heavy.nd (ij_seq (lj_ex (ej_add (oj_cons (lj_ex (ej_slHi (oj_cons (lj_va (pv 0)) (oj_cons (lj_va (pv 2)) oj_nil)))) (oj_cons (lj_ex (ej_slLo (oj_cons (lj_va (pv 0)) (oj_cons (lj_ex (ej_add (oj_cons (lj_va (pv 2)) (oj_cons (lj_ex ej_int) oj_nil)))) oj_nil)))) oj_nil))))) (blkOk_by (own := [("_law_other", 5)]) (by kernel_rfl)) (fun _ _ _ _ _ => (gj_name (i := 5) sc__law_heavy.nd rfl (.inl rfl))) (fun _ _ _ _ _ => fj_nil) (fun _ _ _ _ _ => (ej_slLo (oj_cons (lj_va (pv 5)) (oj_cons (lj_ex ej_int) oj_nil)))) (by decide))) kj_nil) rfl))
    (bj_one (sj_set (i := 1) sc__law_heavy.nd rfl (.inl rfl) (ej_add (oj_cons (lj_va (pv 1)) (oj_cons (lj_ex (ej_mul (oj_cons (lj_ex (ej_sbs (oj_cons (lj_ex (ej_lst (mj_cons (ej_sbs (oj_cons (lj_va (pv 3)) (oj_cons (lj_ex ej_int) oj_nil))) (mj_cons (ej_neg (oj_cons (lj_ex (ej_sbs (oj_cons (lj_va (pv 3)) (oj_cons (lj_ex ej_int) oj_nil)))) oj_nil)) mj_nil)))) (oj_cons (lj_ex (ej_mod (oj_cons (lj_va (pv 2)) (oj_cons (lj_ex ej_int) oj_nil)))) oj_nil)))) (oj_cons (lj_va (pv 4)) oj_nil)))) oj_nil)))))))
    (bj_one (sj_retV (pv 1))))))
noncomputable def b__law_due_0 : Sb := (bOr (bNot (bTru [.ex (xPrim [.va 1] (pIsi .tuple))])) (bT (xPrim [.ex (xPrim [.va 1] pLen), .ex (xPrim [.va 0] pLen)] pNe)))
noncomputable def b__law_due_1 : Sb := (bOr (bNot (bTru [.ex (xPrim [.va 5] (pIsi .int))])) (bOr (bTru [.ex (xPrim [.va 5] (pIsi .bool))]) (bOr (bT (xPrim [.va 5, .va 3] pLe)) (bT (xPrim [.va 5, .va 2] pGe)))))
noncomputable def l__law_due_0 : Ss := (sSeq (sIf b__law_due_1 (sRetV 4) sNil)
    (sSet 3 (xVar 5)))
noncomputable def c__law_due_1 : Sx := (xLc (con (.va 1)) (stN 5) bYes (xPrim [.va 6, .va 5] pIx) [5])
noncomputable def c__law_due_2 : Sx := (xLc (con (.va 0)) (stN 6) bYes (xPrim [.ex c__law_due_1] pTuple) [6])
noncomputable def g__law_due : Ss := (sSeq (sIf b__law_due_0 (sRet (xPrim [.ex (xC (.int 1))] pNeg)) sNil)
    (sSeq (sSet 3 (xPrim [.ex (xC (.int 1))] pNeg))
    (sSeq (sFor (enumS (conF 1)) (stT [4, 5]) l__law_due_0)
    (sSeq (sIf (bT (xPrim [.ex (xCall (fr__law_heavy 8) [.ex c__law_due_2]), .ex (xC (.int 0))] pEq)) (sRet (xPrim [.va 0] pLen)) sNil)
    (sRet (xC .non))))))
noncomputable def f__law_due : Fn := bodyF 7 g__law_due
theorem ok__law_due (T : Tx K mg base cl) : FnOk P w K mg base (L2.CX P w) 10 T.a__law_due T.fd__law_due ["_law_rows", "_law_thing", "_law_size"] (spF (gk K cl) 3 f__law_due) :=
  fn_ok (N := ["_law_rows", "_law_thing", "_law_size", "_law_ahead", "_law_at", "_law_one", "_law_row"]) (k := 9) (g := g__law_due) T.F__law_due sc__law_due fun cdv A outer s H vs E hr => (bj_cons (sj_if (WJ.tj (wj_or (tj_not (tj_tru (oj_cons (lj_ex (ej_isi (t := .tuple) T.z_isinstance (by rfl) (oj_cons (lj_va (pv 1)) oj_nil) (pe_bltn (v := .ty "tuple") (by rfl) T.z_tuple (by decide +kernel) rfl))) oj_nil))) (wj_or1 (tj_ne hr.units (oj_cons (lj_ex (ej_callB call_len_seq pr_len (by rfl) T.z_len (by decide +kernel) (oj_cons (lj_va (pv 1)) oj_nil))) (oj_cons (lj_ex (ej_callB call_len_seq pr_len (by rfl) T.z_len (by decide +kernel) (oj_cons (lj_va (pv 0)) oj_nil))) oj_nil)))))) (bj_one (sj_ret (ej_neg (oj_cons (lj_ex ej_int) oj_nil)))) bj_nil)
    (bj_cons (sj_set (i := 3) sc__law_due.nd rfl (.inl rfl) (ej_neg (oj_cons (lj_ex ej_int) oj_nil)))
    (bj_cons (sj_for (passes_of rfl) rfl (ij_enumC (by rfl) T.z_enumerate (cj_F (pv 1))) (gj_tup (is := [4, 5]) rfl (pgs_cons (pg_name (i := 4) sc__law_due.nd rfl (.inl rfl)) (pgs_cons (pg_name (i := 5) sc__law_due.nd rfl (.inl rfl)) pgs_nil)) rfl) (bj_cons (sj_if (WJ.tj (wj_or (tj_not (tj_tru (oj_cons (lj_ex (ej_isi (t := .int) T.z_isinstance (by rfl) (oj_cons (lj_va (pv 5)) oj_nil) (pe_bltn (v := .ty "int") (by rfl) T.z_int (by decide +kernel) rfl))) oj_nil))) (wj_or (tj_tru (oj_cons (lj_ex (ej_isi (t := .bool) T.z_isinstance (by rfl) (oj_cons (lj_va (pv 5)) oj_nil) (pe_bltn (v := .ty "bool") (by rfl) T.z_bool (by decide +kernel) rfl))) oj_nil)) (wj_or (tj_le (oj_cons (lj_va (pv 5)) (oj_cons (lj_va (pv 3)) oj_nil))) (wj_or1 (tj_ge (oj_cons (lj_va (pv 5)) (oj_cons (lj_va (pv 2)) oj_nil)))))))) (bj_one (sj_retV (pv 4))) bj_nil)
    (bj_one (sj_set (i := 3) sc__law_due.nd rfl (.inl rfl) (ej_var (pv 5))))))
    (bj_cons (sj_if (tj_eq hr.units (oj_cons (lj_ex (ej_call (ok__law_heavy T 8) (hr.mono (by first | decide | omega)) (by rfl) T.m__law_heavy T.F__law_heavy.kp T.b__law_heavy (takes_of rfl rfl rfl rfl) (kj_cons (lj_ex (ej_lc rfl sc__law_due.nd (ij_seq (lj_va (pv 0))) (blkOk_by (own := [("_law_row", 6)]) (by kernel_rfl)) (fun _ _ _ _ _ => (gj_name (i := 6) sc__law_due.nd rfl (.inr rfl))) (fun _ _ _ _ _ => fj_nil) (fun _ _ _ _ _ => (ej_callTy call_tuple_of pr_tuple (by rfl) T.z_tuple (by decide +kernel) (oj_cons (lj_ex (ej_lc rfl sc__law_due.nd (ij_seq (lj_va (pv 1))) (blkOk_by (own := [("_law_one", 5)]) (by kernel_rfl)) (fun _ _ _ _ _ => (gj_name (i := 5) sc__law_due.nd rfl (.inl rfl))) (fun _ _ _ _ _ => fj_nil) (fun _ _ _ _ _ => (ej_sbs (oj_cons (lj_va (pv 6)) (oj_cons (lj_va (pv 5)) oj_nil)))) (by decide))) oj_nil))) (by decide))) kj_nil) rfl)) (oj_cons (lj_ex ej_int) oj_nil))) (bj_one (sj_ret (ej_callB call_len_seq pr_len (by rfl) T.z_len (by decide +kernel) (oj_cons (lj_va (pv 0)) oj_nil)))) bj_nil)
    (bj_one (sj_ret ej_non))))))
noncomputable def c__law_right_0 : Sx := (xLc (srcRng1 [.va 2]) (stN 15) bYes (xPrim [.ex (xCall f__law_draw [.va 0, .ex (xPrim [.ex (xPrim [.ex (xC (.int 2)), .va 3] pMul), .ex (xC (.int 1))] pAdd)]), .va 3] pSub) [15])
noncomputable def c__law_right_1 : Sx := (xLc (srcRng1 [.va 1]) (stN 12) bYes (xPrim [.ex c__law_right_0] pTuple) [12])
noncomputable def c__law_right_2 : Sx := (xLc (con (.va 7)) (stN 17) bYes (xPrim [.va 16, .va 17] pIx) [17])
noncomputable def c__law_right_3 : Sx := (xLc (con (.va 4)) (stN 16) bYes (xPrim [.ex c__law_right_2] pTuple) [16])
noncomputable def b__law_right_0 : Sb := (bOr (bNot (bTru [.ex (xCall f__law_asked [.ex (xVar 9), .ex (xVar 7), .ex (xVar 2), .ex (xVar 13), .ex (xVar 14)])])) (bT (xPrim [.va 9, .va 4] pNe)))
noncomputable def b__law_right_1 : Sb := (bNot (bTru [.ex (xCall f__law_asked [.ex (xPrim [.ex (xPrim [.ex (xPrim [.va 4, .va 10] pSlHi), .ex (xLst [(xVar 11)])] pAdd), .ex (xPrim [.va 4, .va 10] pSlLo)] pAdd), .ex (xVar 7), .ex (xVar 2), .ex (xTup [(xLst [(xC (.bl true)), (xC (.bl false)), (xC (.bl false))]), (xC (.bl true)), (xVar 10)]), .ex (xC (.int 0))])]))
noncomputable def l__law_right_4 : Ss := (sSeq (sSet 7 (xCall f__law_spoilt [.va 0, .va 5, .va 2]))
    (sSeq (sSet 8 (xCall f__law_due [.va 4, .va 7, .va 2]))
    (sSeq (sTup [13, 14] (xTup [(xC .non), (xC (.int 0))]))
    (sSeq (sIf (bT (xPrim [.va 8, .ex (xC .non)] pNotN)) (sSet 13 (xTup [(xLst [(xC (.bl false)), (xC (.bl true)), (xC (.bl false))]), (xC (.bl true)), (xVar 8)])) (sSet 14 (xPrim [.ex (xCall (fr__law_heavy 8) [.ex c__law_right_3])] pAbs)))
    (sSeq (sSet 9 (xPrim [.va 4] pList))
    (sSeq (sIf b__law_right_0 (sRet (xC (.bl false))) sNil)
    (sSeq (sSet 10 (xCall f__law_draw [.va 0, .va 1]))
    (sSeq (sSet 11 (xPrim [.ex (xLst [(xC .non), (xPrim [.ex (xPrim [.va 4, .ex (xC (.int 0))] pIx)] pList), (xPrim [.ex (xPrim [.va 4, .ex (xC (.int 0))] pIx), .ex (xTup [(xC (.int 1))])] pAdd), (xPrim [.ex (xPrim [.va 4, .ex (xC (.int 0))] pIx), .ex (xC (.int 1))] pSlLo), (xPrim [.ex (xTup [(xC (.bl true))]), .va 2] pMul), (xPrim [.ex (xTup [(xC (.str "0"))]), .va 2] pMul), (xC (.int 5))]), .ex (xCall f__law_draw [.va 0, .ex (xC (.int 7))])] pIx))
    (sIf b__law_right_1 (sRet (xC (.bl false))) sNil)))))))))
noncomputable def g__law_right : Ss := (sSeq (sSet 1 (xPrim [.ex (xC (.int 1)), .ex (xCall f__law_draw [.va 0, .ex (xC (.int 3))])] pAdd))
    (sSeq (sSet 2 (xPrim [.va 1, .ex (xCall f__law_draw [.va 0, .ex (xPrim [.ex (xC (.int 6)), .va 1] pSub)])] pAdd))
    (sSeq (sSet 3 (xPrim [.ex (xLst [(xC (.int 1)), (xC (.int 2)), (xC (.int 3)), (xC (.int 9))]), .ex (xCall f__law_draw [.va 0, .ex (xC (.int 4))])] pIx))
    (sSeq (sSet 4 c__law_right_1)
    (sSeq (sSet 5 (xPrim [.ex (xPrim [.ex (xPrim [.va 2] pLrg1), .ex (xPrim [.va 2, .va 1] pSub)] pSlLo)] pTuple))
    (sSeq (sFor (srcRng1 [.ex (xC (.int 5))]) (stN 6) l__law_right_4)
    (sRet (xCall f__law_asked [.ex (xPrim [.va 4] pTuple), .ex (xVar 5), .ex (xVar 2), .ex (xTup [(xLst [(xC (.bl true)), (xC (.bl false)), (xC (.bl false))]), (xC (.bl true)), (xC (.int 0))]), .ex (xC (.int 0))]))))))))
noncomputable def f__law_right : Fn := bodyF 18 g__law_right
theorem ok__law_right (T : Tx K mg base cl) : FnOk P w K mg base (L2.CX P w) 11 T.a__law_right T.fd__law_right ["_law_well"] (spF (gk K cl) 1 f__law_right) :=
  fn_ok (N := ["_law_well", "_law_many", "_law_size", "_law_far", "_law_rows", "_law_good", "_law_turn", "_law_thing", "_law_at", "_law_handed", "_law_spot", "_law_odd", "_law_i", "_law_due_here", "_law_heavy_here", "_law_k", "_law_row", "_law_one"]) (k := 10) (g := g__law_right) T.F__law_right sc__law_right fun cdv A outer s H vs E hr => (bj_cons (sj_set (i := 1) sc__law_right.nd rfl (.inl rfl) (ej_add (oj_cons (lj_ex ej_int) (oj_cons (lj_ex (ej_call (ok__law_draw T) (hr.mono (by first | decide | omega)) (by rfl) T.m__law_draw T.F__law_draw.kp T.b__law_draw (takes_of rfl rfl rfl rfl) (kj_cons (lj_va (pv 0)) (kj_cons (lj_ex ej_int) kj_nil)) rfl)) oj_nil))))
    (bj_cons (sj_set (i := 2) sc__law_right.nd rfl (.inr rfl) (ej_add (oj_cons (lj_va (pv 1)) (oj_cons (lj_ex (ej_call (ok__law_draw T) (hr.mono (by first | decide | omega)) (by rfl) T.m__law_draw T.F__law_draw.kp T.b__law_draw (takes_of rfl rfl rfl rfl) (kj_cons (lj_va (pv 0)) (kj_cons (lj_ex (ej_sub (oj_cons (lj_ex ej_int) (oj_cons (lj_va (pv 1)) oj_nil)))) kj_nil)) rfl)) oj_nil))))
    (bj_cons (sj_set (i := 3) sc__law_right.nd rfl (.inr rfl) (ej_sbs (oj_cons (lj_ex (ej_lst (mj_cons ej_int (mj_cons ej_int (mj_cons ej_int (mj_cons ej_int mj_nil)))))) (oj_cons (lj_ex (ej_call (ok__law_draw T) (hr.mono (by first | decide | omega)) (by rfl) T.m__law_draw T.F__law_draw.kp T.b__law_draw (takes_of rfl rfl rfl rfl) (kj_cons (lj_va (pv 0)) (kj_cons (lj_ex ej_int) kj_nil)) rfl)) oj_nil))))
    (bj_cons (sj_setLc (i := 4) rfl sc__law_right.nd rfl rfl (sw_true rfl rfl rfl (by decide +kernel)) (ij_rng1 (by rfl) T.z_range (oj_cons (lj_va (pv 1)) oj_nil)) (blkOk_by (own := [("_law_i", 12)]) (by kernel_rfl)) (fun _ _ _ _ _ => (gj_name (i := 12) sc__law_right.nd rfl (.inl rfl))) (fun _ _ _ _ _ => fj_nil) (fun _ _ _ _ _ => (ej_callTy call_tuple_of pr_tuple (by rfl) T.z_tuple (by decide +kernel) (oj_cons (lj_ex (ej_lc rfl sc__law_right.nd (ij_rng1 (by rfl) T.z_range (oj_cons (lj_va (pv 2)) oj_nil)) (blkOk_by (own := [("_law_k", 15)]) (by kernel_rfl)) (fun _ _ _ _ _ => (gj_name (i := 15) sc__law_right.nd rfl (.inl rfl))) (fun _ _ _ _ _ => fj_nil) (fun _ _ _ _ _ => (ej_sub (oj_cons (lj_ex (ej_call (ok__law_draw T) (hr.mono (by first | decide | omega)) (by rfl) T.m__law_draw T.F__law_draw.kp T.b__law_draw takes0 (kj_cons (lj_va (pv 0)) (kj_cons (lj_ex (ej_add (oj_cons (lj_ex (ej_mul (oj_cons (lj_ex ej_int) (oj_cons (lj_va (pv 3)) oj_nil)))) (oj_cons (lj_ex ej_int) oj_nil)))) kj_nil)) rfl)) (oj_cons (lj_va (pv 3)) oj_nil)))) (by decide))) oj_nil))) (by decide))
    (bj_cons (sj_set (i := 5) sc__law_right.nd rfl (.inl rfl) (ej_callTy call_tuple_of pr_tuple (by rfl) T.z_tuple (by decide +kernel) (oj_cons (lj_ex (ej_slLo (oj_cons (lj_ex (ej_lrg1 rfl (by rfl) T.z_list (by rfl) T.z_range (oj_cons (lj_va (pv 2)) oj_nil))) (oj_cons (lj_ex (ej_sub (oj_cons (lj_va (pv 2)) (oj_cons (lj_va (pv 1)) oj_nil)))) oj_nil)))) oj_nil)))
    (bj_cons (sj_for (passes_of rfl) rfl (ij_rng1 (by rfl) T.z_range (oj_cons (lj_ex ej_int) oj_nil)) (gj_name (i := 6) sc__law_right.nd rfl (.inl rfl)) (bj_cons (sj_set (i := 7) sc__law_right.nd rfl (.inr rfl) (ej_call (ok__law_spoilt T) (hr.mono (by first | decide | omega)) (by rfl) T.m__law_spoilt T.F__law_spoilt.kp T.b__law_spoilt (takes_of rfl rfl rfl rfl) (kj_cons (lj_va (pv 0)) (kj_cons (lj_va (pv 5)) (kj_cons (lj_va (pv 2)) kj_nil))) rfl))
    (bj_cons (sj_set (i := 8) sc__law_right.nd rfl (.inl rfl) (ej_call (ok__law_due T) (hr.mono (by first | decide | omega)) (by rfl) T.m__law_due T.F__law_due.kp T.b__law_due (takes_of rfl rfl rfl rfl) (kj_cons (lj_va (pv 4)) (kj_cons (lj_va (pv 7)) (kj_cons (lj_va (pv 2)) kj_nil))) rfl))
    (bj_cons (sj_tup (is := [13, 14]) rfl (pgs_cons (pg_name (i := 13) sc__law_right.nd rfl (.inl rfl)) (pgs_cons (pg_name (i := 14) sc__law_right.nd rfl (.inl rfl)) pgs_nil)) (ej_tup (mj_cons ej_non (mj_cons ej_int mj_nil))) rfl)
    (bj_cons (sj_if (tj_notN (oj_cons (lj_va (pv 8)) (oj_cons (lj_ex ej_non) oj_nil))) (bj_one (sj_set (i := 13) sc__law_right.nd rfl (.inl rfl) (ej_tup (mj_cons (ej_lst (mj_cons ej_bl (mj_cons ej_bl (mj_cons ej_bl mj_nil)))) (mj_cons ej_bl (mj_cons (ej_var (pv 8)) mj_nil)))))) (bj_one (sj_set (i := 14) sc__law_right.nd rfl (.inl rfl) (ej_callB call_abs pr_abs (by rfl) T.z_abs (by decide +kernel) (oj_cons (lj_ex (ej_call (ok__law_heavy T 8) (hr.mono (by first | decide | omega)) (by rfl) T.m__law_heavy T.F__law_heavy.kp T.b__law_heavy (takes_of rfl rfl rfl rfl) (kj_cons (lj_ex (ej_lc rfl sc__law_right.nd (ij_seq (lj_va (pv 4))) (blkOk_by (own := [("_law_row", 16)]) (by kernel_rfl)) (fun _ _ _ _ _ => (gj_name (i := 16) sc__law_right.nd rfl (.inr rfl))) (fun _ _ _ _ _ => fj_nil) (fun _ _ _ _ _ => (ej_callTy call_tuple_of pr_tuple (by rfl) T.z_tuple (by decide +kernel) (oj_cons (lj_ex (ej_lc rfl sc__law_right.nd (ij_seq (lj_va (pv 7))) (blkOk_by (own := [("_law_one", 17)]) (by kernel_rfl)) (fun _ _ _ _ _ => (gj_name (i := 17) sc__law_right.nd rfl (.inl rfl))) (fun _ _ _ _ _ => fj_nil) (fun _ _ _ _ _ => (ej_sbs (oj_cons (lj_va (pv 16)) (oj_cons (lj_va (pv 17)) oj_nil)))) (by decide))) oj_nil))) (by decide))) kj_nil) rfl)) oj_nil)))))
    (bj_cons (sj_set (i := 9) sc__law_right.nd rfl (.inl rfl) (ej_callTy call_list_of pr_list (by rfl) T.z_list (by decide +kernel) (oj_cons (lj_va (pv 4)) oj_nil)))
    (bj_cons (sj_if (WJ.tj (wj_or (tj_not (tj_tru (oj_cons (lj_ex (ej_call (ok__law_asked T) (hr.mono (by first | decide | omega)) (by rfl) T.m__law_asked T.F__law_asked.kp T.b__law_asked (takes_of rfl rfl rfl rfl) (kj_cons (lj_ex (ej_var (pv 9))) (kj_cons (lj_ex (ej_var (pv 7))) (kj_cons (lj_ex (ej_var (pv 2))) (kj_cons (lj_ex (ej_var (pv 13))) (kj_cons (lj_ex (ej_var (pv 14))) kj_nil))))) rfl)) oj_nil))) (wj_or1 (tj_ne hr.units (oj_cons (lj_va (pv 9)) (oj_cons (lj_va (pv 4)) oj_nil)))))) (bj_one (sj_ret ej_bl)) bj_nil)
    (bj_cons (sj_set (i := 10) sc__law_right.nd rfl (.inl rfl) (ej_call (ok__law_draw T) (hr.mono (by first | decide | omega)) (by rfl) T.m__law_draw T.F__law_draw.kp T.b__law_draw (takes_of rfl rfl rfl rfl) (kj_cons (lj_va (pv 0)) (kj_cons (lj_va (pv 1)) kj_nil)) rfl))
    (bj_cons (sj_set (i := 11) sc__law_right.nd rfl (.inl rfl) (ej_sbs (oj_cons (lj_ex (ej_lst (mj_cons ej_non (mj_cons (ej_callTy call_list_of pr_list (by rfl) T.z_list (by decide +kernel) (oj_cons (lj_ex (ej_sbs (oj_cons (lj_va (pv 4)) (oj_cons (lj_ex ej_int) oj_nil)))) oj_nil)) (mj_cons (ej_add (oj_cons (lj_ex (ej_sbs (oj_cons (lj_va (pv 4)) (oj_cons (lj_ex ej_int) oj_nil)))) (oj_cons (lj_ex (ej_tup (mj_cons ej_int mj_nil))) oj_nil))) (mj_cons (ej_slLo (oj_cons (lj_ex (ej_sbs (oj_cons (lj_va (pv 4)) (oj_cons (lj_ex ej_int) oj_nil)))) (oj_cons (lj_ex ej_int) oj_nil))) (mj_cons (ej_mul (oj_cons (lj_ex (ej_tup (mj_cons ej_bl mj_nil))) (oj_cons (lj_va (pv 2)) oj_nil))) (mj_cons (ej_mul (oj_cons (lj_ex (ej_tup (mj_cons ej_str mj_nil))) (oj_cons (lj_va (pv 2)) oj_nil))) (mj_cons ej_int mj_nil))))))))) (oj_cons (lj_ex (ej_call (ok__law_draw T) (hr.mono (by first | decide | omega)) (by rfl) T.m__law_draw T.F__law_draw.kp T.b__law_draw (takes_of rfl rfl rfl rfl) (kj_cons (lj_va (pv 0)) (kj_cons (lj_ex ej_int) kj_nil)) rfl)) oj_nil))))
    (bj_one (sj_if (tj_not (tj_tru (oj_cons (lj_ex (ej_call (ok__law_asked T) (hr.mono (by first | decide | omega)) (by rfl) T.m__law_asked T.F__law_asked.kp T.b__law_asked (takes_of rfl rfl rfl rfl) (kj_cons (lj_ex (ej_add (oj_cons (lj_ex (ej_add (oj_cons (lj_ex (ej_slHi (oj_cons (lj_va (pv 4)) (oj_cons (lj_va (pv 10)) oj_nil)))) (oj_cons (lj_ex (ej_lst (mj_cons (ej_var (pv 11)) mj_nil))) oj_nil)))) (oj_cons (lj_ex (ej_slLo (oj_cons (lj_va (pv 4)) (oj_cons (lj_va (pv 10)) oj_nil)))) oj_nil)))) (kj_cons (lj_ex (ej_var (pv 7))) (kj_cons (lj_ex (ej_var (pv 2))) (kj_cons (lj_ex (ej_tup (mj_cons (ej_lst (mj_cons ej_bl (mj_cons ej_bl (mj_cons ej_bl mj_nil)))) (mj_cons ej_bl (mj_cons (ej_var (pv 10)) mj_nil))))) (kj_cons (lj_ex ej_int) kj_nil))))) rfl)) oj_nil))) (bj_one (sj_ret ej_bl)) bj_nil)))))))))))
    (bj_one (sj_ret (ej_call (ok__law_asked T) (hr.mono (by first | decide | omega)) (by rfl) T.m__law_asked T.F__law_asked.kp T.b__law_asked (takes_of rfl rfl rfl rfl) (kj_cons (lj_ex (ej_callTy call_tuple_of pr_tuple (by rfl) T.z_tuple (by decide +kernel) (oj_cons (lj_va (pv 4)) oj_nil))) (kj_cons (lj_ex (ej_var (pv 5))) (kj_cons (lj_ex (ej_var (pv 2))) (kj_cons (lj_ex (ej_tup (mj_cons (ej_lst (mj_cons ej_bl (mj_cons ej_bl (mj_cons ej_bl mj_nil)))) (mj_cons ej_bl (mj_cons ej_int mj_nil))))) (kj_cons (lj_ex ej_int) kj_nil))))) rfl)))))))))
noncomputable def b_law_0 : Sb := (bNot (bTru [.ex (xCallT f__law_right (xLst [(xPrim [.va 2, .ex (xPrim [.ex (xPrim [.va 2, .ex (xPrim [.ex (xC (.int 10)), .ex (xC (.int 18))] pPow)] pGe)] pInt)] pMul), (xPrim [.ex (xPrim [.va 2, .ex (xC (.int 2147483647))] pMod), .ex (xPrim [.ex (xC (.int 7919)), .va 1] pMul)] pAdd), (xC (.int 0))]))]))
noncomputable def l_law_0 : Ss := (sIf b_law_0 (sRet (xC (.bl false))) sNil)
noncomputable def g_law : Ss := (sSeq (sFor (srcEnum (.ex (xPrim [.ex (xPrim [.va 0, .ex (xLst [(xC (.int 0))])] pAdd), .ex (xC (.int 6))] pSlHi))) (stT [1, 2]) l_law_0)
    (sRet (xPrim [.ex (xCall (permF [.arg 0] [0] f_Rounds_size) (.ex (chkM "Rounds" "size" (xMake "Rounds" f_Rounds_init [.arg 1, .arg 2, .arg 3] [.ex (xLst [(xTup [(xC (.int 8)), (xC (.int 0))]), (xTup [(xC (.int 0)), (xPrim [.ex (xC (.int 7))] pNeg)])]), .ex (xTup [(xC (.int 0)), (xC (.int 1))]), .ex (xC (.int 2))])) :: [])), .ex (xC (.int 56))] pEq)))
noncomputable def f_law : Fn := bodyF 3 g_law
theorem ok_law (T : Tx K mg base cl) : FnOk P w K mg base (L2.CX P w) 12 T.a_law T.fd_law ["_law_script"] (spF (gk K cl) 1 f_law) :=
  fn_ok (N := ["_law_script", "_law_k", "_law_cell"]) (k := 11) (g := g_law) T.F_law sc_law fun cdv A outer s H vs E hr => (bj_cons (sj_for (passes_of rfl) rfl (ij_enum (by rfl) T.z_enumerate (lj_ex (ej_slHi (oj_cons (lj_ex (ej_add (oj_cons (lj_va (pv 0)) (oj_cons (lj_ex (ej_lst (mj_cons ej_int mj_nil))) oj_nil)))) (oj_cons (lj_ex ej_int) oj_nil))))) (gj_tup (is := [1, 2]) rfl (pgs_cons (pg_name (i := 1) sc_law.nd rfl (.inl rfl)) (pgs_cons (pg_name (i := 2) sc_law.nd rfl (.inl rfl)) pgs_nil)) rfl) (bj_one (sj_if (tj_not (tj_tru (oj_cons (lj_ex (ej_callT (ok__law_right T) (hr.mono (by decide)) (by rfl) T.m__law_right T.F__law_right.kp T.b__law_right (takes_of rfl rfl rfl rfl) (ej_lst (mj_cons (ej_mul (oj_cons (lj_va (pv 2)) (oj_cons (lj_ex (ej_callTy call_int1 pr_int (by rfl) T.z_int (by decide +kernel) (oj_cons (lj_ex (ej_ge (oj_cons (lj_va (pv 2)) (oj_cons (lj_ex (ej_pow (oj_cons (lj_ex ej_int) (oj_cons (lj_ex ej_int) oj_nil)))) oj_nil)))) oj_nil))) oj_nil))) (mj_cons (ej_add (oj_cons (lj_ex (ej_mod (oj_cons (lj_va (pv 2)) (oj_cons (lj_ex ej_int) oj_nil)))) (oj_cons (lj_ex (ej_mul (oj_cons (lj_ex ej_int) (oj_cons (lj_va (pv 1)) oj_nil)))) oj_nil))) (mj_cons ej_int mj_nil)))))) oj_nil))) (bj_one (sj_ret ej_bl)) bj_nil)))
    (bj_one (sj_ret (ej_eq hr.units (oj_cons (lj_ex (ej_methE0 (c := "Rounds") (sel := [.arg 0]) (inv := [0]) (ej_make (c := "Rounds") (sel := [.arg 1, .arg 2, .arg 3]) T.mk_Rounds (ok_Rounds_init T) (hr.mono (by first | decide | omega)) (by rfl) T.mc_Rounds T.kb_Rounds_init_2_picks_wide (takes_of rfl rfl rfl rfl) (.cons rfl .nil) (kj_cons (lj_ex (ej_lst (mj_cons (ej_tup (mj_cons ej_int (mj_cons ej_int mj_nil))) (mj_cons (ej_tup (mj_cons ej_int (mj_cons (ej_neg (oj_cons (lj_ex ej_int) oj_nil)) mj_nil))) mj_nil)))) (kj_cons (lj_ex (ej_tup (mj_cons ej_int (mj_cons ej_int mj_nil)))) (kj_cons (lj_ex ej_int) kj_nil))) (by decide)) T.cls_Rounds T.mt_Rounds_size (ok_Rounds_size T) (hr.mono (by first | decide | omega)) T.kb_Rounds_size_1_ (takes_of rfl rfl rfl rfl) kj_nil (by decide))) (oj_cons (lj_ex ej_int) oj_nil))))))
end
end Lw
end

section
namespace Lw
open PySem PySem.Spec PyProof.Rows L2 Wm
structure Wl where
  a : Int
  b : Int
  c : Int
def wl (w : Wl) : List D := [.int w.a, .int w.b, .int w.c]
def n1 (w : Wl) : Int := ((w.b + 7907 * (w.c + 1) + 3) * 48271).fmod 2147483647
def n2 (w : Wl) : Int := (n1 w * ((n1 w).fdiv 1013 + 69621)).fmod 2147483647
def dr (w : Wl) (m : Int) : Int := if 0 < w.a then w.a.fmod m else ((n2 w * ((n2 w).fdiv 2003 + 40692)).fmod 2147483399).fmod m
def dw (w : Wl) (m : Int) : Wl := if 0 < w.a then ⟨w.a.fdiv m, w.b, w.c⟩ else ⟨w.a, w.b, w.c + 1⟩
theorem fmod_bd (x m : Int) (h : 0 < m) : 0 ≤ x.fmod m ∧ x.fmod m < m := ⟨Int.fmod_nonneg_of_pos x h, Int.fmod_lt_of_pos x h⟩
theorem dr_bd (w : Wl) (m : Int) (h : 0 < m) : 0 ≤ dr w m ∧ dr w m < m := by
  unfold dr
  split
  · exact fmod_bd _ _ h
  · exact fmod_bd _ _ h
theorem draw_ev (w : Wl) (m : Int) (hm : 0 < m) (hm2 : m ≤ 4000000000) : f__law_draw [.byr (wl w), .sh (.int m)] = .ok (.sh (.int (dr w m)), [.byr (wl (dw w m)), .no]) := by
  obtain ⟨a, b, c⟩ := w
  have h0 : m ≠ 0 := by omega
  have hd : ∀ i, CDv i m := fun i => cdv_small h0 (by omega)
  by_cases ha : 0 < a
  · simp [f__law_draw, g__law_draw, wl, dr, dw, ha, h0, hd]
  · have k1 : ∀ x, IntMulOk 7907 x := fun x => mul_okL (by decide)
    have k2 : ∀ x, IntMulOk x 48271 := fun x => mul_okR (by decide)
    have k3 : ∀ x : Int, IntMulOk (x.fmod 2147483647) ((x.fmod 2147483647).fdiv 1013 + 69621) := fun x => mul_okL (by have := fmod_bd x 2147483647 (by decide); omega)
    have k4 : ∀ x : Int, IntMulOk (x.fmod 2147483647) ((x.fmod 2147483647).fdiv 2003 + 40692) := fun x => mul_okL (by have := fmod_bd x 2147483647 (by decide); omega)
    have k5 : ∀ x, CDv x 1013 := fun x => cdv_small (by decide) (by decide)
    have k6 : ∀ x, CDv x 2003 := fun x => cdv_small (by decide) (by decide)
    simp [f__law_draw, g__law_draw, wl, dr, dw, ha, h0, pMul_int, k1, k2, k3, k4, k5, k6, n1, n2]
/-! ### rows -/
abbrev tI (r : List Int) : D := .tup (r.map D.int)
theorem sz {m : Nat} (h : m ≤ 100000) : m ≤ sizeLine := by rw [szl]; omega
theorem szlt {m : Nat} (h : m ≤ 100000) : m < sizeLine := by rw [szl]; omega
theorem rgk {m : Nat} (h : m ≤ 100000) : rngOk (m : Int) := rngOk_nat m (by omega)
theorem okNs_ints (n : Nat) : ∀ r : List Int, okNs n (r.map D.int) = true
  | [] => by simp
  | x :: r => by simp [okNs_ints n r]
theorem eqDs_ints : ∀ r s : List Int, eqDs (r.map D.int) (s.map D.int) = (r == s)
  | [], [] => rfl
  | [], y :: s => rfl
  | x :: r, [] => rfl
  | x :: r, y :: s => by
    simp only [List.map_cons, eqDs_cons, eqD_int, eqDs_ints r s]
    rfl
def isWh : D → Bool
  | .int _ => true
  | _ => false
/-- of a kind that isinstance tells of -/
def okT : D → Bool
  | .ins _ _ => false
  | .scr _ => false
  | _ => true
theorem whole_ev (d : D) (h : okT d = true) : f_is_whole [.sh d] = .ok (.sh (.bl (isWh d)), [.no]) := by
  cases d <;> first | (cases h; done) | simp [f_is_whole, g_is_whole, isB, isWh]
def isRow (d : D) (n : Int) : Bool := match d with
  | .tup ds => decide ((ds.length : Int) = n) && ds.all isWh
  | _ => false
def okR (d : D) : Bool := match d with
  | .tup ds => ds.all okT
  | d => okT d
theorem isRow_tI {d : D} {n : Int} (h : isRow d n = true) : ∃ r, d = tI r ∧ (r.length : Int) = n := by
  cases d with
  | tup ds =>
    simp only [isRow, Bool.and_eq_true, decide_eq_true_eq] at h
    refine ⟨ds.map fun | .int i => i | _ => 0, ?_, by rw [List.length_map]; exact h.1⟩
    congr 1
    have h2 := h.2
    clear h
    induction ds with
    | nil => rfl
    | cons d ds ih =>
      simp only [List.all_cons, Bool.and_eq_true] at h2
      rw [List.map_cons, List.map_cons, ← ih h2.2]
      cases d with
      | int i => rfl
      | _ => cases h2.1
  | _ => cases h
theorem isRow_of (r : List Int) : isRow (tI r) r.length = true := by
  simp only [isRow, List.length_map, decide_true, Bool.true_and]
  rw [List.all_map, List.all_eq_true]
  intro x _
  rfl
theorem row_ev (d : D) (n : Int) (h : okR d = true) : f_is_row [.sh d, .sh (.int n)] = .ok (.sh (.bl (isRow d n)), [.no, .no]) := by
  cases d with
  | tup ds =>
    by_cases hn : (ds.length : Int) = n
    · simp [f_is_row, g_is_row, isB, hn, isRow, c_is_row_0]
      rw [lc_map (f := fun d => D.bl (isWh d))]
      · have e1 : (ds.map fun d => D.bl (isWh d)).all okB = true := by
          rw [List.all_map, List.all_eq_true]; intro x _; rfl
        have e2 : ((ds.map fun d => D.bl (isWh d)).map trB).all id = ds.all isWh := by
          rw [List.map_map, List.all_map]; rfl
        simp only [lcBack_ok, bind_ok, frz_own, ops_nil, pAnyK_lst, e1, e2, if_true]
        simp
      · intro d hd k
        simp [whole_ev d (List.all_eq_true.mp h d hd)]
    · simp [f_is_row, g_is_row, isB, hn, isRow]
  | ins c fs => cases h
  | scr ns => cases h
  | _ => simp [f_is_row, g_is_row, isB, isRow]
section
variable {S : Type} {m : Itm} {st : Tg} {test : Sb} {elt : Sx} {vs : List Nat}
/-- each turn gives a number and goes on -/
theorem lc_ints {P : Int → Prop} (R : S → List SD) : ∀ {ds : List D}, (∀ s, ∀ d ∈ ds, ∃ x s', P x ∧ ∀ k, lcTg m test elt vs k (st d (R s)) = (k (R s')).bind fun q => .ok (D.int x :: q.1, q.2)) → ∀ s, ∃ (r : List Int) (s' : S), lcL m st test elt vs ds (R s) = .ok (r.map D.int, R s') ∧ r.length = ds.length ∧ ∀ x ∈ r, P x
  | [], _, s => ⟨[], s, rfl, rfl, fun x hx => by cases hx⟩
  | d :: ds, h, s => by
    obtain ⟨x, s1, hp, e⟩ := h s d (by simp)
    obtain ⟨r, s2, e2, hl, hr⟩ := lc_ints R (ds := ds) (fun s d hd => h s d (List.mem_cons_of_mem _ hd)) s1
    refine ⟨x :: r, s2, ?_, by simp [hl], fun y hy => ?_⟩
    · rw [lcL_cons, e, e2]
      rfl
    · rcases List.mem_cons.mp hy with rfl | hy
      · exact hp
      · exact hr y hy
/-- each turn gives a row -/
theorem lc_rows {P : List Int → Prop} (R : S → List SD) : ∀ {ds : List D}, (∀ s, ∀ d ∈ ds, ∃ x s', P x ∧ ∀ k, lcTg m test elt vs k (st d (R s)) = (k (R s')).bind fun q => .ok (tI x :: q.1, q.2)) → ∀ s, ∃ (r : List (List Int)) (s' : S), lcL m st test elt vs ds (R s) = .ok (r.map tI, R s') ∧ r.length = ds.length ∧ ∀ x ∈ r, P x
  | [], _, s => ⟨[], s, rfl, rfl, fun x hx => by cases hx⟩
  | d :: ds, h, s => by
    obtain ⟨x, s1, hp, e⟩ := h s d (by simp)
    obtain ⟨r, s2, e2, hl, hr⟩ := lc_rows R (ds := ds) (fun s d hd => h s d (List.mem_cons_of_mem _ hd)) s1
    refine ⟨x :: r, s2, ?_, by simp [hl], fun y hy => ?_⟩
    · rw [lcL_cons, e, e2]
      rfl
    · rcases List.mem_cons.mp hy with rfl | hy
      · exact hp
      · exact hr y hy
end
end Lw
end

section
namespace Lw
open PySem PySem.Spec PyProof.Rows L2 Wm
theorem all_bl {f : D → Bool} (xs : List D) : pAll [.lst (xs.map fun d => D.bl (f d))] = .ok (.sh (.bl (xs.all f))) := by
  have e1 : (xs.map fun d => D.bl (f d)).all okB = true := by
    rw [List.all_map, List.all_eq_true]; intro x _; rfl
  have e2 : ((xs.map fun d => D.bl (f d)).map trB).all id = xs.all f := by
    rw [List.map_map, List.all_map]; rfl
  simp only [pAnyK_lst, e1, e2, if_true]
@[simp] theorem pList_tup (xs : List D) : pList [.tup xs] = .ok (.own xs) := (rfl)
theorem at_mem (xs : List D) (i : Int) (h0 : 0 ≤ i) (h1 : i < xs.length) : ∃ x ∈ xs, atI xs i = some x := by
  have hl : i.toNat < xs.length := by omega
  refine ⟨xs[i.toNat], List.getElem_mem hl, ?_⟩
  exact atI_at _ _ _ h0 (List.getElem?_eq_getElem hl)
theorem seq_nx {g h : Ss} {ρ ρ' : List SD} (e : g ρ = .ok (.nx ρ')) : sSeq g h ρ = h ρ' := by rw [sSeq_ap, e]; rfl
theorem okR_tup {ds : List D} (h : ∀ d ∈ ds, okT d = true) : okR (.tup ds) = true := List.all_eq_true.mpr h
theorem ints_okT (r : List Int) : ∀ d ∈ r.map D.int, okT d = true := fun d hd => by
  obtain ⟨i, _, rfl⟩ := List.mem_map.mp hd; rfl
end Lw
end

section
namespace Lw
open PySem PySem.Spec PyProof.Rows L2 Wm
/-- a list handed in: lent, or shared -/
def lsl (b : Bool) (xs : List D) : SD := bif b then .byr xs else .sh (.lst xs)
def lso (b : Bool) (xs : List D) : SD := bif b then .byr xs else .no
theorem lsl_t (xs : List D) : lsl true xs = .byr xs := rfl
theorem lsl_f (xs : List D) : lsl false xs = .sh (.lst xs) := rfl
theorem lso_t (xs : List D) : lso true xs = .byr xs := rfl
theorem lso_f (xs : List D) : lso false xs = .no := rfl
theorem row_tI (r : List Int) (n : Nat) (h : r.length = n) : f_is_row [.sh (tI r), .sh (.int n)] = .ok (.sh (.bl true), [.no, .no]) := by
  rw [row_ev _ _ (okR_tup (ints_okT r)), ← h, isRow_of]
theorem checkr_ok (b : Bool) (rs : List (List Int)) (n : Nat) (h : ∀ r ∈ rs, r.length = n) : f_check_rows [lsl b (rs.map tI), .sh (.int n)] = .ok (.sh .non, [lso b (rs.map tI), .no]) := by
  have turn : ∀ (s0 : SD), ∀ x ∈ rs.zipIdx, ∀ ρ, (∃ x3 x4, ρ = [s0, .sh (.int n), x3, x4]) → ∃ ρ', (∃ x3 x4, ρ' = [s0, .sh (.int n), x3, x4]) ∧ ∀ k, forT l_check_rows_0 k (stT [2, 3] (D.tup [.int (x.2 : Nat), tI x.1]) ρ) = k ρ' := by
    rintro s0 ⟨d, i⟩ hx _ ⟨x3, x4, rfl⟩
    have hd := h d (List.fst_mem_of_mem_zipIdx hx)
    exact ⟨_, ⟨.sh (.int (i : Nat)), .sh (tI d), rfl⟩, fun k => by simp [l_check_rows_0, row_tI d n hd]⟩
  have e0 := enum_map (g := tI) rs
  cases b with
  | false =>
    obtain ⟨ρ', ⟨x3, x4, rfl⟩, e⟩ := for_thru _ (turn (.sh (.lst (rs.map tI)))) ⟨.no, .no, rfl⟩
    simp [lsl, lso, f_check_rows, g_check_rows, isB, e0, e]
  | true =>
    obtain ⟨ρ', ⟨x3, x4, rfl⟩, e⟩ := forK_thru (m := ⟨rs.zipIdx.map fun p => D.tup [.int (p.2 : Nat), tI p.1], [(0, .byr (rs.map tI))]⟩) _ (by rintro ρ ⟨x3, x4, rfl⟩; simp) (turn (.byr (rs.map tI))) ⟨.no, .no, rfl⟩
    simp [lsl, lso, f_check_rows, g_check_rows, isB, e0, e]
/-! ### grids -/
def at0 (r : List Int) (p : Nat) : Int := r.getD p 0
def gridL (rs : List (List Int)) (ps : List Nat) : List (List Int) := rs.map fun r => ps.map fun p => at0 r p
def tN (ps : List Nat) : D := .tup (ps.map fun (p : Nat) => D.int p)
theorem at0_get (r : List Int) (p : Nat) (h : p < r.length) : atI (r.map D.int) (p : Int) = some (.int (at0 r p)) := by
  apply atI_nth
  rw [List.getElem?_map, at0, List.getElem?_eq_getElem h, List.getD_eq_getElem?_getD, List.getElem?_eq_getElem h]
  rfl
theorem grow_ev (ps : List Nat) (r : List Int) (hp : ∀ p ∈ ps, p < r.length) (s0 : SD) : c_grid_of_0 [s0, .sh (tN ps), .sh (tI r), .no] = .ok (.own ((ps.map fun p => at0 r p).map D.int), [s0, .sh (tN ps), .sh (tI r), .no]) := by
  have key : lcL ⟨ps.map fun (p : Nat) => D.int p, []⟩ (stN 3) bYes (xPrim [.va 2, .va 3] pIx) [3] (ps.map fun (p : Nat) => D.int p) [s0, .sh (tN ps), .sh (tI r), .no] = .ok (ps.map fun p => D.int (at0 r p), [s0, .sh (tN ps), .sh (tI r), .no]) := lc_mapL fun p hp' k => by
    simp [at0_get r p (hp p hp')]
  simp [c_grid_of_0, tN] at key ⊢
  rw [key]
  simp [Function.comp_def]
theorem grid_ev (b : Bool) (rs : List (List Int)) (ps : List Nat) (n : Nat) (hr : ∀ r ∈ rs, r.length = n) (hp : ∀ p ∈ ps, p < n) : f_grid_of [lsl b (rs.map tI), .sh (tN ps)] = .ok (.own ((gridL rs ps).map tI), [lso b (rs.map tI), .no]) := by
  have key : ∀ (m : Itm) (s0 : SD), m.keep [s0, .sh (tN ps), .no, .no] → lcL m (stN 2) bYes (xPrim [.ex c_grid_of_0] pTuple) [2] (rs.map tI) [s0, .sh (tN ps), .no, .no] = .ok (rs.map fun r => tI (ps.map fun p => at0 r p), [s0, .sh (tN ps), .no, .no]) := fun m s0 hm => lc_mapL fun r hr' k => by
    simp [grow_ev ps r (fun p hp' => by rw [hr r hr']; exact hp p hp') s0, hm, tI, Function.comp_def]
  cases b with
  | false =>
    have := key ⟨rs.map tI, []⟩ (.sh (.lst (rs.map tI))) (by simp)
    simp [lsl, lso, f_grid_of, g_grid_of, c_grid_of_1, this, gridL, tI, Function.comp_def]
  | true =>
    have := key ⟨rs.map tI, [(0, .byr (rs.map tI))]⟩ (.byr (rs.map tI)) (by simp)
    simp [lsl, lso, f_grid_of, g_grid_of, c_grid_of_1, this, gridL, tI, Function.comp_def]
end Lw
end

section
namespace Lw
open PySem PySem.Spec PyProof.Rows L2 Wm
/-! ### weights -/
def mx (g : List (List Int)) (i j : Nat) : Int := at0 (g.getD i []) j
def dt (g : List (List Int)) : Int := Dt.det g.length (mx g)
def Sq (g : List (List Int)) : Prop := ∀ r ∈ g, r.length = g.length
def Sm (b : Nat) (g : List (List Int)) : Prop := ∀ r ∈ g, ∀ x ∈ r, x.natAbs < 2 ^ b
theorem getD_mem {α : Type} {xs : List α} {i : Nat} {d : α} (h : i < xs.length) : xs.getD i d ∈ xs := by
  rw [List.getD_eq_getElem?_getD, List.getElem?_eq_getElem h]
  exact List.getElem_mem h
theorem at0_small {b : Nat} {r : List Int} (h : ∀ x ∈ r, x.natAbs < 2 ^ b) (j : Nat) : (at0 r j).natAbs < 2 ^ b := by
  unfold at0
  by_cases hj : j < r.length
  · exact h _ (getD_mem hj)
  · rw [List.getD_eq_getElem?_getD, List.getElem?_eq_none (by omega)]
    exact Nat.pow_pos (by decide)
theorem entry_mx (g : List (List Int)) (hs : Sq g) {i j : Nat} (hi : i < g.length) (hj : j < g.length) : Ww.entry (g.map tI) i j = mx g i j := by
  unfold Ww.entry mx at0
  rw [List.getElem?_map, List.getElem?_eq_getElem hi, List.getD_eq_getElem?_getD (l := g), List.getElem?_eq_getElem hi]
  have hl : j < g[i].length := by rw [hs _ (List.getElem_mem hi)]; exact hj
  simp only [Option.map_some, Option.getD_some]
  rw [List.getElem?_map, List.getElem?_eq_getElem hl, List.getD_eq_getElem?_getD, List.getElem?_eq_getElem hl]
  rfl
theorem ok_w (g : List (List Int)) (hs : Sq g) (hn : g.length ≤ 3) (hb : Sm 1000 g) : Ww.okG (g.map tI) := by
  refine ⟨by rw [List.length_map]; omega, fun i hi => ?_, 1000, by omega, ?_, fun i j hi hj => ?_⟩
  · rw [List.length_map] at hi ⊢
    rw [List.getElem?_map, List.getElem?_eq_getElem hi]
    show some (D.tup (g[i].map D.int)) = _
    congr 2
    refine rg_of (by rw [List.length_map]; exact hs _ (List.getElem_mem hi)) fun j hj => ?_
    rw [entry_mx g hs hi hj]
    unfold mx at0
    have hl : j < g[i].length := by rw [hs _ (List.getElem_mem hi)]; exact hj
    rw [List.getElem?_map, List.getElem?_eq_getElem hl, List.getD_eq_getElem?_getD (l := g), List.getElem?_eq_getElem hi]
    simp only [Option.map_some, Option.getD_some]
    rw [List.getD_eq_getElem?_getD, List.getElem?_eq_getElem hl]
    rfl
  · rw [List.length_map]
    have := Ww.bd_mono (b := 1000) hn
    exact Nat.le_trans this (by decide)
  · rw [List.length_map] at hi hj
    rw [entry_mx g hs hi hj]
    exact intBits_le_iff.mpr (at0_small (hb _ (getD_mem hi)) j)
theorem weight_ev (b : Bool) (g : List (List Int)) (hs : Sq g) (hn : g.length ≤ 3) (hb : Sm 1000 g) : f_weight [lsl b (g.map tI)] = .ok (.sh (.int (dt g)), [lso b (g.map tI)]) := by
  have e : Dt.det (g.map tI).length (Ww.entry (g.map tI)) = dt g := by
    rw [List.length_map]
    exact Dt.det_congr fun i j hi hj => entry_mx g hs hi hj
  have e' : Dt.det g.length (Ww.entry (g.map tI)) = dt g := by
    rw [← e, List.length_map]
  have ok := ok_w g hs hn hb
  cases b with
  | false => simp [lsl, lso, f_weight, Ww.gW, Ww.lstOf, ok, e, e']
  | true => simp [lsl, lso, f_weight, Ww.gW, Ww.lstOf, ok, e, e']
/-! ### by the first row -/
def dropC (k : Nat) (r : List Int) : List Int := r.take k ++ r.drop (k + 1)
def minor (k : Nat) (rs : List (List Int)) : List (List Int) := rs.map (dropC k)
theorem at0_drop (k j : Nat) (r : List Int) : at0 (dropC k r) j = at0 r (Dt.sk k j) := by
  unfold at0 dropC Dt.sk
  rw [List.getD_eq_getElem?_getD, List.getD_eq_getElem?_getD]
  congr 1
  by_cases h : j < k
  · rw [if_pos h]
    by_cases hl : j < r.length
    · rw [List.getElem?_append_left (by simp; omega), List.getElem?_take, if_pos h]
    · rw [List.getElem?_eq_none (by simp; omega), List.getElem?_eq_none (by omega)]
  · rw [if_neg h]
    by_cases hl : k ≤ r.length
    · rw [List.getElem?_append_right (by simp; omega), List.getElem?_drop]
      congr 1
      simp
      omega
    · rw [List.getElem?_eq_none (by simp; omega), List.getElem?_eq_none (by omega)]
theorem dropC_len {k : Nat} {r : List Int} (h : k < r.length) : (dropC k r).length = r.length - 1 := by
  unfold dropC; simp; omega
theorem dropC_mem {k : Nat} {r : List Int} {x : Int} (h : x ∈ dropC k r) : x ∈ r := by
  rcases List.mem_append.mp h with z | z
  · exact List.mem_of_mem_take z
  · exact List.mem_of_mem_drop z
theorem mx_minor (k : Nat) (r : List Int) (rs : List (List Int)) (i j : Nat) (hi : i < rs.length) : mx (minor k rs) i j = Dt.mi k (mx (r :: rs)) i j := by
  unfold mx minor Dt.mi
  rw [List.getD_eq_getElem?_getD, List.getElem?_map, List.getElem?_eq_getElem hi]
  simp only [Option.map_some, Option.getD_some]
  rw [at0_drop]
  simp [List.getD_eq_getElem?_getD, List.getElem?_eq_getElem hi]
theorem sq_minor {k : Nat} {r : List Int} {rs : List (List Int)} (h : Sq (r :: rs)) (hk : k < rs.length + 1) : Sq (minor k rs) := by
  intro x hx
  obtain ⟨y, hy, rfl⟩ := List.mem_map.mp hx
  have := h y (by simp [hy])
  rw [dropC_len (by rw [this]; exact hk), this]
  simp [minor]
theorem sm_minor {b k : Nat} {r : List Int} {rs : List (List Int)} (h : Sm b (r :: rs)) : Sm b (minor k rs) := by
  intro x hx y hy
  obtain ⟨z, hz, rfl⟩ := List.mem_map.mp hx
  exact h z (by simp [hz]) y (dropC_mem hy)
theorem fold_sm (f : Int → Nat → Int) : ∀ (r : List Int) (k : Nat) (s : Int), ((r.zipIdx k).foldl (fun s p => s + f p.1 p.2) s) = s + Dt.sm r.length (fun i => f (at0 r i) (k + i))
  | [], k, s => by simp [Dt.sm]
  | x :: r, k, s => by
    rw [List.zipIdx_cons, List.foldl_cons, fold_sm f r (k + 1), List.length_cons, Dt.sm_first]
    simp only [at0, List.getD_eq_getElem?_getD, List.getElem?_cons_zero, Option.getD_some, Nat.add_zero, List.getElem?_cons_succ]
    rw [Int.add_assoc]
    congr 3
    funext i
    rw [show k + 1 + i = k + (i + 1) by omega]
theorem dt_cons (r : List Int) (rs : List (List Int)) (h : Sq (r :: rs)) : (r.zipIdx.foldl (fun s p => s + p.1 * dt (minor p.2 rs) * (if p.2 % 2 = 0 then 1 else -1)) 0) = dt (r :: rs) := by
  have hl : r.length = rs.length + 1 := h r (by simp)
  rw [fold_sm (fun x k => x * dt (minor k rs) * (if k % 2 = 0 then 1 else -1)) r 0 0, hl]
  unfold dt
  rw [List.length_cons, Dt.det, Int.zero_add]
  refine Dt.sm_congr fun i hi => ?_
  have e : Dt.det (minor (0 + i) rs).length (mx (minor (0 + i) rs)) = Dt.det rs.length (Dt.mi i (mx (r :: rs))) := by
    rw [Nat.zero_add]
    have : (minor i rs).length = rs.length := by simp [minor]
    rw [this]
    exact Dt.det_congr fun a b ha hb => mx_minor i r rs a b ha
  rw [e, Nat.zero_add]
  unfold Dt.sg
  have : mx (r :: rs) 0 i = at0 r i := by simp [mx]
  rw [this]
  split <;> grind
end Lw
end

section
namespace Lw
open PySem PySem.Spec PyProof.Rows L2 Wm
theorem mul_okB {x y : Int} (hx : x.natAbs < 2 ^ 100000) (hy : y.natAbs < 2 ^ 100000) : IntMulOk x y := IntMulOk.of_le (m := 100000) (n := 100000) (intBits_le_iff.mpr hx) (intBits_le_iff.mpr hy) (by omega)
theorem at0_rd (r : List Int) (c : Nat) : Rd.at0 r c = at0 r c := rfl
theorem zip_ints2 (xs ys : List Int) (g : Int → Int → Int) : (xs.zip ys).map (fun p => g p.1 p.2) = List.zipWith g xs ys := by
  rw [List.zip, List.map_zipWith]
theorem added_ev (r s : List Int) (m : Int) (h : ∀ b ∈ s, IntMulOk m b) : f_added [.sh (tI r), .sh (tI s), .sh (.int m)] = .ok (.sh (tI (Rd.addL r s m)), [.no, .no, .no]) := by
  have e0 := zip_ints r s
  have k0 : lcL ⟨(r.zip s).map fun p => D.tup [.int p.1, .int p.2], []⟩ (stT [3, 4]) bYes (xPrim [.va 3, .ex (xPrim [.va 2, .va 4] pMul)] pAdd) [3, 4] ((r.zip s).map fun p => D.tup [.int p.1, .int p.2]) [.sh (tI r), .sh (tI s), .sh (.int m), .no, .no] = .ok ((r.zip s).map fun p => D.int (p.1 + m * p.2), [.sh (tI r), .sh (tI s), .sh (.int m), .no, .no]) := lc_mapL fun p hp k => by
    have m1 : IntMulOk m p.2 := h _ (List.of_mem_zip hp).2
    simp [pMul_int, m1]
  have e1 : ((r.zip s).map fun p => D.int (p.1 + m * p.2)) = (Rd.addL r s m).map D.int := by
    unfold Rd.addL
    rw [← zip_ints2 r s (fun a b => a + m * b), List.map_map]
    rfl
  rw [e1] at k0
  simp [f_added, g_added, c_added_0, e0, k0]
end Lw
end

section
namespace Lw
open PySem PySem.Spec PyProof.Rows L2 Wm
theorem ok_tI (n : Nat) (r : List Int) : okN (n + 1) (tI r) = true := okNs_ints n r
theorem okNs_rows (n : Nat) : ∀ rs : List (List Int), okNs (n + 1) (rs.map tI) = true
  | [] => by simp
  | r :: rs => by
    rw [List.map_cons, okNs_cons, okNs_rows n rs, ok_tI]
    rfl
theorem eqD_tI (r s : List Int) : eqD (tI r) (tI s) = (r == s) := eqDs_ints r s
theorem rem_find (f : List Int) : ∀ S : List (List Int), f ∈ S → remK (S.map tI) ((S.map tI).findIdx? fun y => eqD y (tI f)) = .ok (.non, (S.erase f).map tI)
  | [], h => by cases h
  | r :: S, h => by
    rw [List.map_cons, List.findIdx?_cons, eqD_tI]
    by_cases e : r = f
    · subst e
      simp [remK]
    · have hS : f ∈ S := by
        rcases List.mem_cons.mp h with z | z
        · exact absurd z.symm e
        · exact z
      have e' : (r == f) = false := by simpa using e
      have ih := rem_find f S hS
      rw [e', if_neg (by simp)]
      cases hq : (S.map tI).findIdx? fun y => eqD y (tI f) with
      | none => rw [hq] at ih; cases ih
      | some j =>
        rw [hq] at ih
        have ih : (.ok (.non, (S.map tI).eraseIdx j) : Rs (D × List D)) = .ok (.non, (S.erase f).map tI) := ih
        injection ih with ih
        injection ih with _ ih
        show (.ok (.non, (tI r :: S.map tI).eraseIdx (j + 1)) : Rs (D × List D)) = _
        rw [List.eraseIdx_cons_succ, ih, List.erase_cons_tail (by simpa using e)]
        rfl
theorem rem_ev (f : List Int) (S : List (List Int)) (h : f ∈ S) : mRem (S.map tI) (tI f) = .ok (.non, (S.erase f).map tI) := by
  unfold mRem
  rw [if_pos ⟨ok_tI 59 f, okNs_rows 58 S⟩]
  exact rem_find f S h
abbrev rst2 (x0 : SD) (c : Nat) (S O : List (List Int)) (x4 x5 x6 : SD) : List SD := [x0, .sh (.int c), .own (S.map tI), .own (O.map tI), x4, x5, x6, .no]
theorem log_lt {j : Int} {b : Nat} (hb : b ≤ 9000) (h : j.natAbs < 2 ^ b) (h0 : j ≠ 0) : j.natAbs.log2 < 9000 := (Nat.log2_lt (by omega)).mpr (Nat.lt_of_lt_of_le h (Nat.pow_le_pow_right (by omega) hb))
theorem body_ev (x0 : SD) (c n X : Nat) (S O : List (List Int)) (x4 x5 x6 : SD) (hc : c < n) (w : Rd.Wd n X S) (h0 : ∀ r ∈ S, at0 r c ≠ 0) (hX : X < 2 ^ 8000) (hS : S ≠ []) (hl : S.length + O.length ≤ 1000) :
    ∃ f, f ∈ S ∧ (∀ r ∈ S, (at0 f c).natAbs ≤ (at0 r c).natAbs) ∧ ∃ y4 y5 y6, w_reduced_7 (rst2 x0 c S O x4 x5 x6) = .ok (.nx (rst2 x0 c (f :: (Rd.led c f S).filter (Rd.nz c)) (O ++ (Rd.led c f S).filter (Rd.zr c)) y4 y5 y6)) := by
  have gt : ∀ r ∈ S, atI (r.map D.int) (c : Int) = some (.int (at0 r c)) := fun r hr => at0_get r c (by rw [(w r hr).1]; exact hc)
  have e2 : c_reduced_2 (rst2 x0 c S O x4 x5 x6) = .ok (.own ((S.map fun r => ((at0 r c).natAbs : Int)).map D.int), rst2 x0 c S O x4 x5 x6) := by
    have k0 : lcL ⟨S.map tI, [(2, .own (S.map tI))]⟩ (stN 7) bYes (xPrim [.ex (xPrim [.va 7, .va 1] pIx)] pAbs) [7] (S.map tI) (rst2 x0 c S O x4 x5 x6) = .ok (S.map fun r => D.int ((at0 r c).natAbs : Int), rst2 x0 c S O x4 x5 x6) := lc_mapL fun r hr k => by
      simp [gt r hr]
    rw [List.map_map]
    simp [c_reduced_2, k0, Function.comp_def]
  generalize hls : (S.map fun r => ((at0 r c).natAbs : Int)) = ls at e2
  have hln : 0 < ls.length := by rw [← hls, List.length_map]; exact List.length_pos_iff.mpr hS
  obtain ⟨m1, m2⟩ := minL_spec ls hln
  have em : pMin [.lst (ls.map D.int)] = .ok (.sh (.int (minL ls))) := by
    show (match asInts (ls.map D.int) with | some ns => if 0 < ns.length then Rs.ok (SD.sh (D.int (minL ns))) else .bad | none => .bad) = _
    rw [asInts_map]
    show (if 0 < ls.length then _ else _) = _
    rw [if_pos hln]
  generalize minL ls = lm at m1 m2 em
  have e3 : c_reduced_3 (rst2 x0 c S O (.sh (.int lm)) x5 x6) = .ok (.own ((S.filter fun r => decide (((at0 r c).natAbs : Int) = lm)).map tI), rst2 x0 c S O (.sh (.int lm)) x5 x6) := by
    have k0 : lcL ⟨S.map tI, [(2, .own (S.map tI))]⟩ (stN 7) (bT (xPrim [.ex (xPrim [.ex (xPrim [.va 7, .va 1] pIx)] pAbs), .va 4] pEq)) (xVar 7) [7] (S.map tI) (rst2 x0 c S O (.sh (.int lm)) x5 x6) = .ok ((S.filter fun r => decide (((at0 r c).natAbs : Int) = lm)).map tI, rst2 x0 c S O (.sh (.int lm)) x5 x6) := lc_filterL fun r hr k => by
      by_cases q : ((at0 r c).natAbs : Int) = lm
      · simp [gt r hr, q]
      · have q' : ((((at0 r c).natAbs : Nat) : Int) == lm) = false := by simpa using q
        simp [gt r hr, q, q']
    simp [c_reduced_3, k0]
  obtain ⟨f, ft, ef⟩ : ∃ f ft, (S.filter fun r => decide (((at0 r c).natAbs : Int) = lm)) = f :: ft := by
    rw [← hls] at m1
    obtain ⟨r, hr, er⟩ := List.mem_map.mp m1
    cases hq : (S.filter fun r => decide (((at0 r c).natAbs : Int) = lm)) with
    | nil =>
      have : r ∈ (S.filter fun r => decide (((at0 r c).natAbs : Int) = lm)) := List.mem_filter.mpr ⟨hr, by simpa using er⟩
      rw [hq] at this
      cases this
    | cons f ft => exact ⟨f, ft, rfl⟩
  have hf : f ∈ S ∧ ((at0 f c).natAbs : Int) = lm := by
    have : f ∈ (S.filter fun r => decide (((at0 r c).natAbs : Int) = lm)) := by rw [ef]; simp
    have := List.mem_filter.mp this
    exact ⟨this.1, by simpa using this.2⟩
  have hmin : ∀ r ∈ S, (at0 f c).natAbs ≤ (at0 r c).natAbs := fun r hr => by
    have := m2 ((at0 r c).natAbs : Int) (by rw [← hls]; exact List.mem_map.mpr ⟨r, hr, rfl⟩)
    omega
  rw [ef] at e3
  have er := rem_ev f S hf.1
  have f0 := h0 f hf.1
  have wf := w f hf.1
  have fb : ∀ b ∈ f, b.natAbs < 2 ^ 8000 := fun b hb => Nat.lt_of_le_of_lt (wf.2 b hb) hX
  have fc : (at0 f c).natAbs < 2 ^ 8000 := Nat.lt_of_le_of_lt (wf.2.at (by omega)) hX
  have e4 : c_reduced_4 (rst2 x0 c (S.erase f) O (.sh (.int lm)) (.sh (tI f)) x6) = .ok (.own ((Rd.led c f S).map tI), rst2 x0 c (S.erase f) O (.sh (.int lm)) (.sh (tI f)) x6) := by
    have k0 : lcL ⟨(S.erase f).map tI, [(2, .own ((S.erase f).map tI))]⟩ (stN 7) bYes (xCall (permF [.arg 0, .arg 1, .arg 2] [0, 1, 2] f_added) [.va 7, .va 5, .ex (xPrim [.ex (xPrim [.ex (xPrim [.va 7, .va 1] pIx), .ex (xPrim [.va 5, .va 1] pIx)] pFdiv)] pNeg)]) [7] ((S.erase f).map tI) (rst2 x0 c (S.erase f) O (.sh (.int lm)) (.sh (tI f)) x6) = .ok ((S.erase f).map fun r => tI (Rd.cut c f r), rst2 x0 c (S.erase f) O (.sh (.int lm)) (.sh (tI f)) x6) := lc_mapL fun r hr k => by
      have hr := List.mem_of_mem_erase hr
      have cd : CDv (at0 r c) (at0 f c) := ⟨f0, log_lt (by omega) fc f0⟩
      have rc : (at0 r c).natAbs < 2 ^ 8000 := Nat.lt_of_le_of_lt ((w r hr).2.at (by rw [(w r hr).1]; exact hc)) hX
      have qb : (-((at0 r c).fdiv (at0 f c))).natAbs < 2 ^ 100000 := by
        rw [Int.natAbs_neg]
        have h1 := Rd.fdiv_le (at0 r c) (at0 f c) f0
        have h2 : 2 ^ 8000 + 1 ≤ 2 ^ 100000 := by
          have : 2 ^ 8000 * 2 ≤ 2 ^ 100000 := by rw [← Nat.pow_succ]; exact Nat.pow_le_pow_right (by omega) (by omega)
          have : 1 ≤ 2 ^ 8000 := Nat.one_le_two_pow
          omega
        omega
      have ad := added_ev r f (-((at0 r c).fdiv (at0 f c))) fun b hb => mul_okB qb (Nat.lt_of_lt_of_le (fb b hb) (Nat.pow_le_pow_right (by omega) (by omega)))
      simp [gt r hr, gt f hf.1, cd, ad, Rd.cut, at0_rd]
    simp [c_reduced_4, k0, Rd.led, Function.comp_def]
  generalize hL : Rd.led c f S = L at e4
  have hLn : ∀ r ∈ L, c < r.length := fun r hr => by
    rw [← hL] at hr
    obtain ⟨s, hs, rfl⟩ := Rd.mem_led hr
    have hs := List.mem_of_mem_erase hs
    rw [Rd.cut_len (by rw [(w s hs).1, wf.1]), (w s hs).1]
    exact hc
  have gl : ∀ r ∈ L, atI (r.map D.int) (c : Int) = some (.int (at0 r c)) := fun r hr => at0_get r c (hLn r hr)
  have e5 : ∀ x2 x3 : SD, c_reduced_5 [x0, .sh (.int c), x2, x3, .sh (.int lm), .sh (tI f), .own (L.map tI), .no] = .ok (.own ((L.filter (Rd.zr c)).map tI), [x0, .sh (.int c), x2, x3, .sh (.int lm), .sh (tI f), .own (L.map tI), .no]) := fun x2 x3 => by
    have k0 : lcL ⟨L.map tI, [(6, .own (L.map tI))]⟩ (stN 7) (bT (xPrim [.ex (xPrim [.va 7, .va 1] pIx), .ex (xC (.int 0))] pEq)) (xVar 7) [7] (L.map tI) [x0, .sh (.int c), x2, x3, .sh (.int lm), .sh (tI f), .own (L.map tI), .no] = .ok ((L.filter (Rd.zr c)).map tI, [x0, .sh (.int c), x2, x3, .sh (.int lm), .sh (tI f), .own (L.map tI), .no]) := lc_filterL fun r hr k => by
      by_cases q : at0 r c = 0
      · simp [gl r hr, q, Rd.zr, at0_rd]
      · have q' : (at0 r c == 0) = false := by simpa using q
        simp [gl r hr, q, q', Rd.zr, at0_rd]
    simp [c_reduced_5, k0]
  have e6 : ∀ x2 x3 : SD, c_reduced_6 [x0, .sh (.int c), x2, x3, .sh (.int lm), .sh (tI f), .own (L.map tI), .no] = .ok (.own ((L.filter (Rd.nz c)).map tI), [x0, .sh (.int c), x2, x3, .sh (.int lm), .sh (tI f), .own (L.map tI), .no]) := fun x2 x3 => by
    have k0 : lcL ⟨L.map tI, [(6, .own (L.map tI))]⟩ (stN 7) (bT (xPrim [.ex (xPrim [.va 7, .va 1] pIx), .ex (xC (.int 0))] pNe)) (xVar 7) [7] (L.map tI) [x0, .sh (.int c), x2, x3, .sh (.int lm), .sh (tI f), .own (L.map tI), .no] = .ok ((L.filter (Rd.nz c)).map tI, [x0, .sh (.int c), x2, x3, .sh (.int lm), .sh (tI f), .own (L.map tI), .no]) := lc_filterL fun r hr k => by
      by_cases q : at0 r c = 0
      · simp [gl r hr, q, Rd.nz, at0_rd]
      · have q' : (at0 r c == 0) = false := by simpa using q
        simp [gl r hr, q, q', Rd.nz, at0_rd]
    simp [c_reduced_6, k0]
  have hLl : L.length ≤ S.length := by
    rw [← hL]
    unfold Rd.led
    rw [List.length_map]
    exact List.length_erase_le
  have s1 : (L.filter (Rd.zr c)).length ≤ L.length := List.length_filter_le ..
  have s2 : (L.filter (Rd.nz c)).length ≤ L.length := List.length_filter_le ..
  have z1 : O.length + (L.filter (Rd.zr c)).length ≤ sizeLine := sz (by omega)
  have z2 : (L.filter (Rd.nz c)).length + 1 ≤ sizeLine := sz (by omega)
  have z2' : 1 + (L.filter (Rd.nz c)).length ≤ sizeLine := sz (by omega)
  have z3 : (1 : Nat) ≤ sizeLine := by decide
  refine ⟨f, hf.1, hmin, .sh (.int lm), .sh (tI f), .own (L.map tI), ?_⟩
  rw [hL]
  unfold w_reduced_7
  rw [seq_nx (ρ' := rst2 x0 c S O (.sh (.int lm)) x5 x6) (by simp [e2, em]), seq_nx (ρ' := rst2 x0 c S O (.sh (.int lm)) (.sh (tI f)) x6) (by simp [e3]), seq_nx (ρ' := rst2 x0 c (S.erase f) O (.sh (.int lm)) (.sh (tI f)) x6) (by simp [er]),
    seq_nx (ρ' := rst2 x0 c (S.erase f) O (.sh (.int lm)) (.sh (tI f)) (.own (L.map tI))) (by simp [e4]), seq_nx (ρ' := rst2 x0 c (S.erase f) (O ++ L.filter (Rd.zr c)) (.sh (.int lm)) (.sh (tI f)) (.own (L.map tI))) (by simp [e5, mExt, z1])]
  simp [e6, z2, z2', z3]
end Lw
end

section
namespace Lw
open PySem PySem.Spec PyProof.Rows L2 Wm
theorem led_count (c : Nat) (f : List Int) (S : List (List Int)) (hf : f ∈ S) : (f :: (Rd.led c f S).filter (Rd.nz c)).length + ((Rd.led c f S).filter (Rd.zr c)).length = S.length := by
  have e1 : (Rd.led c f S).length = S.length - 1 := by unfold Rd.led; rw [List.length_map, List.length_erase_of_mem hf]
  have e2 : ∀ L : List (List Int), (L.filter (Rd.nz c)).length + (L.filter (Rd.zr c)).length = L.length := fun L => by
    induction L with
    | nil => rfl
    | cons r L ih =>
      by_cases q : Rd.at0 r c = 0
      · have a1 : Rd.nz c r = false := by simp [Rd.nz, q]
        have a2 : Rd.zr c r = true := by simp [Rd.zr, q]
        simp [a1, a2]; omega
      · have a1 : Rd.nz c r = true := by simp [Rd.nz, q]
        have a2 : Rd.zr c r = false := by simp [Rd.zr, q]
        simp [a1, a2]; omega
  have := e2 (Rd.led c f S)
  have : 0 < S.length := List.length_pos_of_mem hf
  rw [List.length_cons]
  omega
abbrev tstR : Sb := (bT (xPrim [.ex (xPrim [.va 2] pLen), .ex (xC (.int 1))] pGt))
theorem tst_ev (x0 : SD) (c : Nat) (S O : List (List Int)) (x4 x5 x6 : SD) : tstR (rst2 x0 c S O x4 x5 x6) = .ok (decide (1 < S.length), rst2 x0 c S O x4 x5 x6) := by
  by_cases h : 1 < S.length
  · have h' : (1 : Int) < S.length := by omega
    simp [h, h']
  · have h' : ¬ (1 : Int) < S.length := by omega
    simp [h, h']
/-- what a leading down ends with -/
structure Done (c n N : Nat) (S O S' O' : List (List Int)) : Prop where
  red : Rd.Red c S O S' O'
  one : S'.length ≤ 1
  w : Rd.Wd n N S'
  o : Rd.Wd n N O'
  nz : ∀ r ∈ S', at0 r c ≠ 0
  zr : ∀ r ∈ O', at0 r c = 0
  cnt : S'.length + O'.length = S.length + O.length
theorem loop2 (x0 : SD) (c n M : Nat) (hc : c < n) (hM : 2 * M < 2 ^ 8000) : ∀ (fuel : Nat) (S O : List (List Int)) (a X : Nat) (x4 x5 x6 : SD), Rd.Ph c n M S O a X → (∀ r ∈ O, at0 r c = 0) → a < fuel → S.length + O.length ≤ 1000 →
    ∃ S' O' y4 y5 y6, whl tstR w_reduced_7 fuel (rst2 x0 c S O x4 x5 x6) = .ok (.nx (rst2 x0 c S' O' y4 y5 y6)) ∧ Done c n (2 * M) S O S' O'
  | 0, S, O, a, X, x4, x5, x6, h, _, hf, _ => absurd hf (by omega)
  | fuel + 1, S, O, a, X, x4, x5, x6, h, hz, hf, hl => by
    have h0 : ∀ r ∈ S, at0 r c ≠ 0 := fun r hr => by
      obtain ⟨p, rest, rfl, ha, h1, _⟩ := h.ex
      rcases List.mem_cons.mp hr with rfl | hr
      · have := h.a0
        rw [← ha] at this
        intro z
        rw [at0_rd, z] at this
        cases this
      · exact (h1 r hr).2.1
    have hne : S ≠ [] := by
      obtain ⟨p, rest, rfl, _⟩ := h.ex
      simp
    rw [whl_succ, tst_ev]
    by_cases h2 : 1 < S.length
    · obtain ⟨f, hf1, hm, y4, y5, y6, eb⟩ := body_ev x0 c n X S O x4 x5 x6 hc h.w h0 (Nat.lt_of_le_of_lt h.x hM) hne hl
      obtain ⟨X', hp, ha⟩ := h.next hc h2 hf1 hm
      have ct := led_count c f S hf1
      obtain ⟨S', O', z4, z5, z6, e, d⟩ := loop2 x0 c n M hc hM fuel _ _ _ X' y4 y5 y6 hp (fun r hr => by
        rcases List.mem_append.mp hr with hr | hr
        · exact hz r hr
        · have := (List.mem_filter.mp hr).2
          simpa [Rd.zr, at0_rd] using this) (by omega) (by rw [List.length_append]; omega)
      refine ⟨S', O', z4, z5, z6, ?_, ⟨.step f hf1 hm d.red, d.one, d.w, d.o, d.nz, d.zr, ?_⟩⟩
      · simp only [bind_ok, h2, decide_true, if_true, eb, turn_nx]
        exact e
      · rw [d.cnt, List.length_append]; omega
    · refine ⟨S, O, x4, x5, x6, by simp [h2], ⟨.done S O, by omega, h.w.le h.x, h.o, h0, hz, rfl⟩⟩
theorem fuel_ge (x0 : SD) (c : Nat) (S O : List (List Int)) (x4 x5 x6 : SD) (f : List Int) (hf : f ∈ S) (hc : c < f.length) : (at0 f c).natAbs + 2 ≤ szS (rst2 x0 c S O x4 x5 x6) := by
  have h1 : (SD.own (S.map tI)).sz + 2 ≤ szS (rst2 x0 c S O x4 x5 x6) := szS_mem (by simp)
  have h2 : (tI f).sz ≤ szs (S.map tI) := szs_mem (List.mem_map.mpr ⟨f, hf, rfl⟩)
  have h3 : (D.int (at0 f c)).sz ≤ szs (f.map D.int) := szs_mem (List.mem_map.mpr ⟨_, Rd.at0_mem hc, rfl⟩)
  have e1 : (SD.own (S.map tI)).sz = szs (S.map tI) := rfl
  have e2 : (tI f).sz = szs (f.map D.int) := by simp [tI, D.sz]
  have e3 : (D.int (at0 f c)).sz = (at0 f c).natAbs := by simp [D.sz]
  omega
/-- the greatest number behind it -/
def grow (X : Nat) : Nat := 2 * ((X + (X + 1) * X) * X * X * X)
theorem reduced_ev (b : Bool) (rs : List (List Int)) (c n X : Nat) (hc : c < n) (w : Rd.Wd n X rs) (hX : X < 2 ^ 8000) (hg : grow X < 2 ^ 8000) (hl : rs.length ≤ 1000) :
    ∃ S' O', f_reduced [lsl b (rs.map tI), .sh (.int c)] = .ok (.sh (.tup [.lst (S'.map tI), .lst (O'.map tI)]), [lso b (rs.map tI), .no]) ∧ Done c n (max X (grow X)) (rs.filter (Rd.nz c)) (rs.filter (Rd.zr c)) S' O' := by
  have gt : ∀ r ∈ rs, atI (r.map D.int) (c : Int) = some (.int (at0 r c)) := fun r hr => at0_get r c (by rw [(w r hr).1]; exact hc)
  have k0 : ∀ (m : Itm) (x0 : SD), m.keep [x0, .sh (.int c), .no, .no, .no, .no, .no, .no] → lcL m (stN 7) (bT (xPrim [.ex (xPrim [.va 7, .va 1] pIx), .ex (xC (.int 0))] pNe)) (xVar 7) [7] (rs.map tI) [x0, .sh (.int c), .no, .no, .no, .no, .no, .no] = .ok ((rs.filter (Rd.nz c)).map tI, [x0, .sh (.int c), .no, .no, .no, .no, .no, .no]) := fun m x0 hm => lc_filterL fun r hr k => by
    by_cases q : at0 r c = 0
    · simp [gt r hr, q, Rd.nz, at0_rd, hm]
    · have q' : (at0 r c == 0) = false := by simpa using q
      simp [gt r hr, q, q', Rd.nz, at0_rd, hm]
  have k1 : ∀ (m : Itm) (x0 x2 : SD), m.keep [x0, .sh (.int c), x2, .no, .no, .no, .no, .no] → lcL m (stN 7) (bT (xPrim [.ex (xPrim [.va 7, .va 1] pIx), .ex (xC (.int 0))] pEq)) (xVar 7) [7] (rs.map tI) [x0, .sh (.int c), x2, .no, .no, .no, .no, .no] = .ok ((rs.filter (Rd.zr c)).map tI, [x0, .sh (.int c), x2, .no, .no, .no, .no, .no]) := fun m x0 x2 hm => lc_filterL fun r hr k => by
    by_cases q : at0 r c = 0
    · simp [gt r hr, q, Rd.zr, at0_rd, hm]
    · have q' : (at0 r c == 0) = false := by simpa using q
      simp [gt r hr, q, q', Rd.zr, at0_rd, hm]
  have h0 : ∀ r ∈ rs.filter (Rd.nz c), at0 r c ≠ 0 := fun r hr => by
    have := (List.mem_filter.mp hr).2
    simpa [Rd.nz, at0_rd] using this
  have hz : ∀ r ∈ rs.filter (Rd.zr c), at0 r c = 0 := fun r hr => by
    have := (List.mem_filter.mp hr).2
    simpa [Rd.zr, at0_rd] using this
  have wS : Rd.Wd n X (rs.filter (Rd.nz c)) := w.filter
  have wO : Rd.Wd n X (rs.filter (Rd.zr c)) := w.filter
  have l1 : (rs.filter (Rd.nz c)).length + (rs.filter (Rd.zr c)).length ≤ 1000 := by
    have e2 : ∀ L : List (List Int), (L.filter (Rd.nz c)).length + (L.filter (Rd.zr c)).length = L.length := fun L => by
      induction L with
      | nil => rfl
      | cons r L ih =>
        by_cases q : Rd.at0 r c = 0
        · have a1 : Rd.nz c r = false := by simp [Rd.nz, q]
          have a2 : Rd.zr c r = true := by simp [Rd.zr, q]
          simp [a1, a2]; omega
        · have a1 : Rd.nz c r = true := by simp [Rd.nz, q]
          have a2 : Rd.zr c r = false := by simp [Rd.zr, q]
          simp [a1, a2]; omega
    rw [e2]; exact hl
  generalize rs.filter (Rd.nz c) = S at k0 h0 wS l1
  generalize rs.filter (Rd.zr c) = O at k1 hz wO l1
  have s2 : (2 : Nat) ≤ sizeLine := by decide
  have main : ∀ x0 : SD, ∃ S' O' y4 y5 y6, whl tstR w_reduced_7 (szS (rst2 x0 c S O .no .no .no)) (rst2 x0 c S O .no .no .no) = .ok (.nx (rst2 x0 c S' O' y4 y5 y6)) ∧ Done c n (max X (grow X)) S O S' O' := fun x0 => by
    by_cases h2 : 1 < S.length
    · have hne : S ≠ [] := fun z => by subst z; simp at h2
      obtain ⟨f, hf1, hm, y4, y5, y6, eb⟩ := body_ev x0 c n X S O .no .no .no hc wS h0 hX hne l1
      have fg := fuel_ge x0 c S O .no .no .no f hf1 (by rw [(wS f hf1).1]; exact hc)
      obtain ⟨k, ek⟩ : ∃ k, szS (rst2 x0 c S O .no .no .no) = k + 1 := ⟨szS (rst2 x0 c S O .no .no .no) - 1, by omega⟩
      have ct := led_count c f S hf1
      have hp := Rd.Ph.first hc wS wO h0 hf1 hm
      obtain ⟨S', O', z4, z5, z6, e, d⟩ := loop2 x0 c n _ hc hg k _ _ _ _ y4 y5 y6 hp (fun r hr => by
        rcases List.mem_append.mp hr with hr | hr
        · exact hz r hr
        · have := (List.mem_filter.mp hr).2
          simpa [Rd.zr, at0_rd] using this) (by rw [at0_rd]; omega) (by rw [List.length_append]; omega)
      refine ⟨S', O', z4, z5, z6, ?_, ⟨.step f hf1 hm d.red, d.one, d.w.le (Nat.le_max_right ..), d.o.le (Nat.le_max_right ..), d.nz, d.zr, ?_⟩⟩
      · rw [ek, whl_succ, tst_ev]
        simp only [bind_ok, h2, decide_true, if_true, eb, turn_nx]
        exact e
      · rw [d.cnt, List.length_append]; omega
    · obtain ⟨k, ek⟩ : ∃ k, szS (rst2 x0 c S O .no .no .no) = k + 1 := by
        have : (SD.own (S.map tI)).sz + 2 ≤ szS (rst2 x0 c S O .no .no .no) := szS_mem (by simp)
        exact ⟨szS (rst2 x0 c S O .no .no .no) - 1, by omega⟩
      refine ⟨S, O, .no, .no, .no, ?_, ⟨.done S O, by omega, wS.le (Nat.le_max_left ..), wO.le (Nat.le_max_left ..), h0, hz, rfl⟩⟩
      rw [ek, whl_succ, tst_ev]
      simp [h2]
  cases b with
  | false =>
    obtain ⟨S', O', y4, y5, y6, e, d⟩ := main (.sh (.lst (rs.map tI)))
    refine ⟨S', O', ?_, d⟩
    have q0 := k0 ⟨rs.map tI, []⟩ (.sh (.lst (rs.map tI))) (by simp)
    have q1 := k1 ⟨rs.map tI, []⟩ (.sh (.lst (rs.map tI))) (.own (S.map tI)) (by simp)
    simp [lsl, lso, f_reduced, g_reduced, c_reduced_0, c_reduced_1, q0, q1, e, s2]
  | true =>
    obtain ⟨S', O', y4, y5, y6, e, d⟩ := main (.byr (rs.map tI))
    refine ⟨S', O', ?_, d⟩
    have q0 := k0 ⟨rs.map tI, [(0, .byr (rs.map tI))]⟩ (.byr (rs.map tI)) (by simp)
    have q1 := k1 ⟨rs.map tI, [(0, .byr (rs.map tI))]⟩ (.byr (rs.map tI)) (.own (S.map tI)) (by simp)
    simp [lsl, lso, f_reduced, g_reduced, c_reduced_0, c_reduced_1, q0, q1, e, s2]
end Lw
end

section
namespace Lw
open PySem PySem.Spec PyProof.Rows L2 Wm
def nought (r : List Int) : Bool := !((r.map D.int).map trB).any id
theorem nought_ev (r : List Int) : f_is_nought [.sh (tI r)] = .ok (.sh (.bl (nought r)), [.no]) := by
  have h : ∀ x : Int, okB (D.int x) = true := fun x => rfl
  simp [f_is_nought, g_is_nought, nought, h]
theorem turned_ev (r : List Int) : f_turned [.sh (tI r)] = .ok (.sh (tI (r.map fun x => -x)), [.no]) := by
  have k0 : lcL ⟨r.map D.int, []⟩ (stN 1) bYes (xPrim [.va 1] pNeg) [1] (r.map D.int) [.sh (tI r), .no] = .ok (r.map fun x => D.int (-x), [.sh (tI r), .no]) := lc_mapL fun x hx k => by simp
  simp [f_turned, g_turned, c_turned_0, k0, Function.comp_def]
/-- a row with its head above 0 -/
def upR (c : Nat) (f : List Int) : List Int := if 0 < at0 f c then f else f.map fun x => -x
theorem at0_neg (f : List Int) (c : Nat) : at0 (f.map fun x => -x) c = -(at0 f c) := by
  unfold at0
  simp only [List.getD_eq_getElem?_getD, List.getElem?_map]
  cases f[c]? <;> simp
theorem upR_len (c : Nat) (f : List Int) : (upR c f).length = f.length := by
  unfold upR
  split <;> simp
theorem upR_bn {c N : Nat} {f : List Int} (h : Rd.Bn N f) : Rd.Bn N (upR c f) := by
  unfold upR
  split
  · exact h
  · intro x hx
    obtain ⟨y, hy, rfl⟩ := List.mem_map.mp hx
    rw [Int.natAbs_neg]
    exact h y hy
theorem upR_pos {c : Nat} {f : List Int} (h : at0 f c ≠ 0) : 0 < at0 (upR c f) c := by
  unfold upR
  split
  · assumption
  · rw [at0_neg]; omega
abbrev tst2 (x0 : SD) (n : Nat) (F : List (List Int)) (x3 x4 x5 x6 x7 : SD) : List SD := [x0, .sh (.int n), .own (F.map tI), x3, x4, x5, x6, x7, .no]
theorem head_ev (x0 : SD) (c n X : Nat) (F : List (List Int)) (f : List Int) (x3 x6 x7 : SD) (hc : c < n) (w : Rd.Wd n X F) (hf : f.length = n ∧ Rd.Bn X f) (f0 : at0 f c ≠ 0) (hX : X < 2 ^ 8000) (hl : F.length ≤ 1000) :
    l_told_rows_3 (tst2 x0 n F x3 (.sh (.int c)) (.sh (tI f)) x6 x7) = .ok (.nx (tst2 x0 n (F.map (Rd.cut c (upR c f)) ++ [upR c f]) x3 (.sh (.int c)) (.sh (tI f)) (.sh (tI (upR c f))) x7)) := by
  have gf := at0_get f c (by rw [hf.1]; exact hc)
  have e1 : sSet 6 (xIf (bT (xPrim [.ex (xPrim [.va 5, .va 4] pIx), .ex (xC (.int 0))] pGt)) (xVar 5) (xCall f_turned [.va 5])) (tst2 x0 n F x3 (.sh (.int c)) (.sh (tI f)) x6 x7) = .ok (.nx (tst2 x0 n F x3 (.sh (.int c)) (.sh (tI f)) (.sh (tI (upR c f))) x7)) := by
    by_cases q : 0 < at0 f c
    · simp [gf, q, upR]
    · have t := turned_ev f
      simp only [tI] at t
      simp [gf, q, upR, t]
  have ul : (upR c f).length = n := by rw [upR_len, hf.1]
  have ub := upR_bn (c := c) hf.2
  have up := upR_pos f0
  have gu := at0_get (upR c f) c (by rw [ul]; exact hc)
  generalize upR c f = u at ul ub up gu e1
  have u0 : at0 u c ≠ 0 := by omega
  have ubb : ∀ b ∈ u, b.natAbs < 2 ^ 8000 := fun b hb => Nat.lt_of_le_of_lt (ub b hb) hX
  have uc : (at0 u c).natAbs < 2 ^ 8000 := Nat.lt_of_le_of_lt (ub.at (by omega)) hX
  have e2 : c_told_rows_2 (tst2 x0 n F x3 (.sh (.int c)) (.sh (tI f)) (.sh (tI u)) x7) = .ok (.own ((F.map (Rd.cut c u)).map tI), tst2 x0 n F x3 (.sh (.int c)) (.sh (tI f)) (.sh (tI u)) x7) := by
    have k0 : lcL ⟨F.map tI, [(2, .own (F.map tI))]⟩ (stN 8) bYes (xCall (permF [.arg 0, .arg 1, .arg 2] [0, 1, 2] f_added) [.va 8, .va 6, .ex (xPrim [.ex (xPrim [.ex (xPrim [.va 8, .va 4] pIx), .ex (xPrim [.va 6, .va 4] pIx)] pFdiv)] pNeg)]) [8] (F.map tI) (tst2 x0 n F x3 (.sh (.int c)) (.sh (tI f)) (.sh (tI u)) x7) = .ok (F.map fun r => tI (Rd.cut c u r), tst2 x0 n F x3 (.sh (.int c)) (.sh (tI f)) (.sh (tI u)) x7) := lc_mapL fun r hr k => by
      have gr := at0_get r c (by rw [(w r hr).1]; exact hc)
      have cd : CDv (at0 r c) (at0 u c) := ⟨u0, log_lt (by omega) uc u0⟩
      have rc : (at0 r c).natAbs < 2 ^ 8000 := Nat.lt_of_le_of_lt ((w r hr).2.at (by rw [(w r hr).1]; exact hc)) hX
      have qb : (-((at0 r c).fdiv (at0 u c))).natAbs < 2 ^ 100000 := by
        rw [Int.natAbs_neg]
        have h1 := Rd.fdiv_le (at0 r c) (at0 u c) u0
        have h2 : 2 ^ 8000 + 1 ≤ 2 ^ 100000 := by
          have : 2 ^ 8000 * 2 ≤ 2 ^ 100000 := by rw [← Nat.pow_succ]; exact Nat.pow_le_pow_right (by omega) (by omega)
          have : 1 ≤ 2 ^ 8000 := Nat.one_le_two_pow
          omega
        omega
      have ad := added_ev r u (-((at0 r c).fdiv (at0 u c))) fun b hb => mul_okB qb (Nat.lt_of_lt_of_le (ubb b hb) (Nat.pow_le_pow_right (by omega) (by omega)))
      simp [gr, gu, cd, ad, Rd.cut, at0_rd]
    simp [c_told_rows_2, k0, Function.comp_def]
  have z1 : F.length + 1 ≤ sizeLine := sz (by omega)
  have z3 : (1 : Nat) ≤ sizeLine := by decide
  unfold l_told_rows_3
  rw [seq_nx e1]
  simp [e2, z1, z3]
/-- how great the numbers of what is left, and of what is found, may be behind a column -/
def gX (X : Nat) : Nat := max X (grow X)
def gY (X Y : Nat) : Nat := max (gX X) Y + (max (gX X) Y + 1) * max (gX X) Y
theorem cut_wd {c n N : Nat} {u : List Int} {F : List (List Int)} (hc : c < n) (w : Rd.Wd n N F) (hu : u.length = n ∧ Rd.Bn N u) (u0 : at0 u c ≠ 0) : Rd.Wd n (N + (N + 1) * N) (F.map (Rd.cut c u)) := fun r hr => by
  obtain ⟨s, hs, rfl⟩ := List.mem_map.mp hr
  have ws := w s hs
  refine ⟨?_, Rd.addL_bn ws.2 hu.2 ?_⟩
  · rw [Rd.cut_len (by rw [ws.1, hu.1]), ws.1]
  · rw [Int.natAbs_neg]
    have h1 := Rd.fdiv_le (Rd.at0 s c) (Rd.at0 u c) u0
    have h2 := ws.2.at (c := c) (by rw [ws.1]; exact hc)
    omega
theorem col_ev (x0 : SD) (c n X Y : Nat) (F L : List (List Int)) (x4 x5 x6 x7 : SD) (hc : c < n) (wF : Rd.Wd n Y F) (wL : Rd.Wd n X L) (h1 : gX X < 2 ^ 8000) (h2 : Y < 2 ^ 8000) (hl : F.length + L.length ≤ 1000) (h6 : keptSD (some x6) = x6) :
    ∃ F' L' y5 y6 y7, l_told_rows_4 (tst2 x0 n F (.own (L.map tI)) (.sh (.int c)) x5 x6 x7) = .ok (.nx (tst2 x0 n F' (.own (L'.map tI)) (.sh (.int c)) y5 y6 y7)) ∧ Rd.Wd n (gY X Y) F' ∧ Rd.Wd n (gX X) L' ∧ F'.length + L'.length ≤ F.length + L.length ∧ keptSD (some y6) = y6 := by
  have hX : X < 2 ^ 8000 := Nat.lt_of_le_of_lt (Nat.le_max_left ..) h1
  obtain ⟨S', O', er, d⟩ := reduced_ev true L c n X hc wL hX (Nat.lt_of_le_of_lt (Nat.le_max_right ..) h1) (by omega)
  simp only [lsl, lso, cond_true] at er
  have e1 : sTup [7, 3] (xCall f_reduced [.va 3, .va 4]) (tst2 x0 n F (.own (L.map tI)) (.sh (.int c)) x5 x6 x7) = .ok (.nx (tst2 x0 n F (.sh (.lst (O'.map tI))) (.sh (.int c)) x5 x6 (.sh (.lst (S'.map tI))))) := by
    simp [er]
  generalize hL : (O'.filter fun r => !nought r) = L'
  have e2 : c_told_rows_1 (tst2 x0 n F (.sh (.lst (O'.map tI))) (.sh (.int c)) x5 x6 (.sh (.lst (S'.map tI)))) = .ok (.own (L'.map tI), tst2 x0 n F (.sh (.lst (O'.map tI))) (.sh (.int c)) x5 x6 (.sh (.lst (S'.map tI)))) := by
    have k0 : lcL ⟨O'.map tI, []⟩ (stN 6) (bNot (bTru [.ex (xCall f_is_nought [.va 6])])) (xVar 6) [6] (O'.map tI) (tst2 x0 n F (.sh (.lst (O'.map tI))) (.sh (.int c)) x5 .no (.sh (.lst (S'.map tI)))) = .ok ((O'.filter fun r => !nought r).map tI, tst2 x0 n F (.sh (.lst (O'.map tI))) (.sh (.int c)) x5 .no (.sh (.lst (S'.map tI)))) := lc_filterL fun r hr k => by
      have e := nought_ev r
      cases hn : nought r with
      | true => rw [hn] at e; simp [e, hn]
      | false => rw [hn] at e; simp [e, hn]
    rw [hL] at k0
    simp [c_told_rows_1, k0, h6]
  have hLo : L'.length ≤ O'.length := by rw [← hL]; exact List.length_filter_le ..
  have wL' : Rd.Wd n (gX X) L' := by rw [← hL]; exact d.o.filter
  have cnt : S'.length + O'.length = L.length := by
    have := d.cnt
    have e2 : ∀ L : List (List Int), (L.filter (Rd.nz c)).length + (L.filter (Rd.zr c)).length = L.length := fun L => by
      induction L with
      | nil => rfl
      | cons r L ih =>
        by_cases q : Rd.at0 r c = 0
        · have a1 : Rd.nz c r = false := by simp [Rd.nz, q]
          have a2 : Rd.zr c r = true := by simp [Rd.zr, q]
          simp [a1, a2]; omega
        · have a1 : Rd.nz c r = true := by simp [Rd.nz, q]
          have a2 : Rd.zr c r = false := by simp [Rd.zr, q]
          simp [a1, a2]; omega
    rw [this, e2]
  have hN : max (gX X) Y < 2 ^ 8000 := Nat.max_lt.mpr ⟨h1, h2⟩
  have wF' : Rd.Wd n (max (gX X) Y) F := wF.le (Nat.le_max_right ..)
  have hYN : max (gX X) Y ≤ gY X Y := Nat.le_add_right ..
  unfold l_told_rows_4
  rw [seq_nx e1, seq_nx (ρ' := tst2 x0 n F (.own (L'.map tI)) (.sh (.int c)) x5 x6 (.sh (.lst (S'.map tI)))) (by simp [e2])]
  have hone := d.one
  have hw := d.w
  have hnz := d.nz
  cases S' with
  | nil => exact ⟨F, L', x5, x6, .sh (.lst []), by simp, wF'.le hYN, wL', by simp at cnt; omega, h6⟩
  | cons f rest =>
    have : rest = [] := by
      cases rest with
      | nil => rfl
      | cons a b => simp at hone
    subst this
    obtain ⟨f1, f2⟩ := hw f (by simp)
    have f0 := hnz f (by simp)
    have f2 : Rd.Bn (max (gX X) Y) f := f2.le (Nat.le_max_left ..)
    have eh := head_ev x0 c n (max (gX X) Y) F f (.own (L'.map tI)) x6 (.sh (.lst ([f].map tI))) hc wF' ⟨f1, f2⟩ f0 hN (by omega)
    refine ⟨F.map (Rd.cut c (upR c f)) ++ [upR c f], L', .sh (tI f), .sh (tI (upR c f)), .sh (.lst ([f].map tI)), ?_, ?_, wL', by simp at cnt ⊢; omega, rfl⟩
    · simp only [List.map_cons, List.map_nil] at eh ⊢
      simp [eh]
    · have u1 : (upR c f).length = n := by rw [upR_len, f1]
      have u2 : Rd.Bn (max (gX X) Y) (upR c f) := upR_bn f2
      have u0 := upR_pos f0
      exact (cut_wd hc wF' ⟨u1, u2⟩ (by omega)).app fun r hr => by
        have : r = upR c f := by simpa using hr
        subst this
        exact ⟨u1, u2.le (Nat.le_add_right ..)⟩
end Lw
end

section
namespace Lw
open PySem PySem.Spec PyProof.Rows L2 Wm
def bX (X : Nat) : Nat → Nat
  | 0 => X
  | k + 1 => gX (bX X k)
def bY (X : Nat) : Nat → Nat
  | 0 => 0
  | k + 1 => gY (bX X k) (bY X k)
theorem told_ev (rs : List (List Int)) (n X : Nat) (hn : n ≤ 1000) (w : Rd.Wd n X rs) (hl : rs.length ≤ 1000) (hb : ∀ k, k < n → gX (bX X k) < 2 ^ 8000 ∧ bY X k < 2 ^ 8000) : ∃ F, f_told_rows [.sh (.lst (rs.map tI)), .sh (.int n)] = .ok (.own (F.map tI), [.no, .no]) ∧ Rd.Wd n (bY X n) F ∧ F.length ≤ rs.length := by
  have hr : rngOk (n : Int) := rgk (by omega)
  have hs : n ≤ sizeLine := sz (by omega)
  have e0 : c_told_rows_0 [.sh (.lst (rs.map tI)), .sh (.int n), .own [], .no, .no, .no, .no, .no, .no] = .ok (.own ((rs.filter fun r => !nought r).map tI), [.sh (.lst (rs.map tI)), .sh (.int n), .own [], .no, .no, .no, .no, .no, .no]) := by
    have k0 : lcL ⟨rs.map tI, []⟩ (stN 6) (bNot (bTru [.ex (xCall f_is_nought [.va 6])])) (xVar 6) [6] (rs.map tI) [.sh (.lst (rs.map tI)), .sh (.int n), .own [], .no, .no, .no, .no, .no, .no] = .ok ((rs.filter fun r => !nought r).map tI, [.sh (.lst (rs.map tI)), .sh (.int n), .own [], .no, .no, .no, .no, .no, .no]) := lc_filterL fun r hr k => by
      have e := nought_ev r
      cases hn : nought r with
      | true => rw [hn] at e; simp [e, hn]
      | false => rw [hn] at e; simp [e, hn]
    simp [c_told_rows_0, k0]
  have hL0 : (rs.filter fun r => !nought r).length ≤ rs.length := List.length_filter_le ..
  have wL : Rd.Wd n X (rs.filter fun r => !nought r) := w.filter
  generalize (rs.filter fun r => !nought r) = L0 at e0 hL0 wL
  obtain ⟨ρ', ⟨F, L, x4, x5, x6, x7, rfl, wF, _, hc, _⟩, e⟩ := for_rgx (st := stN 4) (body := l_told_rows_4) (n := n) (g := fun (k : Nat) => D.int k) (ρ := tst2 (.sh (.lst (rs.map tI))) n [] (.own (L0.map tI)) .no .no .no .no)
    (fun k ρ => ∃ F L x4 x5 x6 x7, ρ = tst2 (.sh (.lst (rs.map tI))) n F (.own (L.map tI)) x4 x5 x6 x7 ∧ Rd.Wd n (bY X k) F ∧ Rd.Wd n (bX X k) L ∧ F.length + L.length ≤ rs.length ∧ keptSD (some x6) = x6) (by
      rintro k _ hk ⟨F, L, x4, x5, x6, x7, rfl, wF, wL, hc, h6⟩
      obtain ⟨F', L', y5, y6, y7, e, q1, q2, q3, q4⟩ := col_ev (.sh (.lst (rs.map tI))) k n (bX X k) (bY X k) F L x4 x5 x6 x7 hk wF wL (hb k hk).1 (hb k hk).2 (by omega) h6
      refine ⟨_, ⟨F', L', .sh (.int k), y5, y6, y7, rfl, q1, q2, by omega, q4⟩, fun kk => ?_⟩
      simp [e]) ⟨[], L0, .no, .no, .no, .no, rfl, (fun r hr => absurd hr (by simp)), wL, by simpa using hL0, rfl⟩
  refine ⟨F, ?_, wF, by omega⟩
  simp only [tst2, List.map_nil] at e
  simp [f_told_rows, g_told_rows, e0, hr, hs, e]
theorem bnd9 : ∀ k, k < 3 → gX (bX 9 k) < 2 ^ 8000 ∧ bY 9 k < 2 ^ 8000 := by decide +kernel
end Lw
end

section
namespace Lw
open PySem PySem.Spec PyProof.Rows L2 Wm
theorem sm_abs (M : Nat) (f : Nat → Int) : ∀ (n : Nat), (∀ i, i < n → (f i).natAbs ≤ M) → (Dt.sm n f).natAbs ≤ n * M
  | 0, _ => by simp [Dt.sm]
  | n + 1, h => by
    have ih := sm_abs M f n fun i hi => h i (by omega)
    have h1 := h n (by omega)
    show (Dt.sm n f + f n).natAbs ≤ _
    have := Int.natAbs_add_le (Dt.sm n f) (f n)
    rw [Nat.add_mul, Nat.one_mul]
    omega
theorem det_abs (B : Nat) : ∀ (n : Nat) (A : Nat → Nat → Int), (∀ i j, i < n → j < n → (A i j).natAbs ≤ B) → (Dt.det n A).natAbs ≤ (n * B) ^ n
  | 0, A, _ => by simp [Dt.det]
  | n + 1, A, h => by
    have key : ∀ k, k < n + 1 → (Dt.sg k * A 0 k * Dt.det n (Dt.mi k A)).natAbs ≤ B * ((n + 1) * B) ^ n := fun k hk => by
      have ih := det_abs B n (Dt.mi k A) fun i j hi hj => h (i + 1) (Dt.sk k j) (by omega) (by unfold Dt.sk; split <;> omega)
      have h0 := h 0 k (by omega) hk
      have hs : (Dt.sg k).natAbs = 1 := by unfold Dt.sg; split <;> rfl
      rw [Int.natAbs_mul, Int.natAbs_mul, hs, Nat.one_mul]
      exact Nat.mul_le_mul h0 (Nat.le_trans ih (Nat.pow_le_pow_left (Nat.mul_le_mul_right _ (by omega)) _))
    have := sm_abs _ _ (n + 1) key
    show (Dt.sm (n + 1) fun k => Dt.sg k * A 0 k * Dt.det n (Dt.mi k A)).natAbs ≤ _
    refine Nat.le_trans this ?_
    rw [Nat.pow_succ, ← Nat.mul_assoc, Nat.mul_comm ((n + 1) * B)]
    exact Nat.le_refl _
theorem dt_abs {g : List (List Int)} (hn : g.length ≤ 3) (hb : Sm 200 g) : (dt g).natAbs < 2 ^ 900 := by
  have h := det_abs (2 ^ 200) g.length (mx g) (fun i j hi hj => Nat.le_of_lt (at0_small (hb _ (getD_mem hi)) j))
  unfold dt
  refine Nat.lt_of_le_of_lt h ?_
  have h1 : (g.length * 2 ^ 200) ^ g.length ≤ (4 * 2 ^ 200) ^ 3 := by
    have ha : g.length * 2 ^ 200 ≤ 4 * 2 ^ 200 := Nat.mul_le_mul_right _ (by omega)
    have hp : 0 < 4 * 2 ^ 200 := by decide
    exact Nat.le_trans (Nat.pow_le_pow_left ha _) (Nat.pow_le_pow_right hp hn)
  have h2 : (4 * 2 ^ 200) ^ 3 = 2 ^ 606 := by
    rw [show 4 * 2 ^ 200 = 2 ^ 202 from by decide, ← Nat.pow_mul]
  rw [h2] at h1
  exact Nat.lt_of_le_of_lt h1 (Nat.pow_lt_pow_right (by decide) (by decide))
end Lw
end

section
namespace Lw
open PySem PySem.Spec PyProof.Rows L2 Wm
theorem tN_enum (ps : List Nat) : enumD (ps.map fun (p : Nat) => D.int p) = ps.zipIdx.map fun p => D.tup [.int (p.2 : Nat), .int (p.1 : Nat)] := enum_map ps
theorem pick_turn (ps : List Nat) (n : Nat) (hu : ps.Pairwise (· < ·)) (hp : ∀ p ∈ ps, p < n) (s0 : SD) : ∀ x ∈ ps.zipIdx, ∀ ρ, (∃ x3 x4, ρ = [s0, .sh (tN ps), .sh (.int n), x3, x4]) → ∃ ρ', (∃ x3 x4, ρ' = [s0, .sh (tN ps), .sh (.int n), x3, x4]) ∧ ∀ k, forT l_check_picks_0 k (stT [3, 4] (D.tup [.int (x.2 : Nat), .int (x.1 : Nat)]) ρ) = k ρ' := by
  rintro ⟨p, i⟩ hx _ ⟨x3, x4, rfl⟩
  have hg : ps[i]? = some p := List.mem_zipIdx_iff_getElem?.mp hx
  obtain ⟨hi, hpe⟩ := List.getElem?_eq_some_iff.mp hg
  have hpn : p < n := hp p (List.fst_mem_of_mem_zipIdx hx)
  have hw := whole_ev (.int (p : Nat)) rfl
  have c1 : (0 : Int) ≤ (p : Int) := by omega
  have c2 : (p : Int) < (n : Int) := by omega
  refine ⟨_, ⟨.sh (.int (i : Nat)), .sh (.int (p : Nat)), rfl⟩, fun k => ?_⟩
  by_cases h0 : i = 0
  · subst h0
    simp [l_check_picks_0, b_check_picks_1, hw, isWh, c1, c2]
  · have i0 : (0 : Int) < (i : Int) := by omega
    have hj : i - 1 < ps.length := by omega
    have e1 : atI (ps.map fun (p : Nat) => D.int p) ((i : Int) - 1) = some (.int (ps[i - 1] : Nat)) := by
      rw [show ((i : Int) - 1) = ((i - 1 : Nat) : Int) by omega]
      apply atI_nth
      rw [List.getElem?_map, List.getElem?_eq_getElem hj]
      rfl
    have lt : ps[i - 1] < p := by
      rw [← hpe]
      exact List.pairwise_iff_getElem.mp hu (i - 1) i hj hi (by omega)
    have c3 : ¬ ((p : Int) ≤ (ps[i - 1] : Nat)) := by omega
    simp [l_check_picks_0, b_check_picks_1, hw, isWh, c1, c2, i0, tN, e1, c3]
theorem gridL_sq {rs : List (List Int)} {ps : List Nat} (h : ps.length = rs.length) : Sq (gridL rs ps) := by
  intro r hr
  obtain ⟨x, hx, rfl⟩ := List.mem_map.mp hr
  simp [gridL, h]
theorem gridL_len (rs : List (List Int)) (ps : List Nat) : (gridL rs ps).length = rs.length := by simp [gridL]
theorem gridL_sm {b : Nat} {rs : List (List Int)} {ps : List Nat} (h : Sm b rs) : Sm b (gridL rs ps) := by
  intro r hr x hx
  obtain ⟨y, hy, rfl⟩ := List.mem_map.mp hr
  obtain ⟨p, hp, rfl⟩ := List.mem_map.mp hx
  exact at0_small (h y hy) p
theorem Sm.mono {b c : Nat} {g : List (List Int)} (h : Sm b g) (hb : b ≤ c) : Sm c g := fun r hr x hx => Nat.lt_of_lt_of_le (h r hr x hx) (Nat.pow_le_pow_right (by decide) hb)
structure Pk (rs : List (List Int)) (n : Nat) (ps : List Nat) : Prop where
  hr : ∀ r ∈ rs, r.length = n
  hl : rs.length ≤ 3
  hs : Sm 200 rs
  hu : ps.Pairwise (· < ·)
  hp : ∀ p ∈ ps, p < n
  he : ps.length = rs.length
theorem check_ev (b : Bool) (rs : List (List Int)) (ps : List Nat) (n : Nat) (h : Pk rs n ps) : f_check_picks [lsl b (rs.map tI), .sh (tN ps), .sh (.int n)] = if dt (gridL rs ps) = 0 then .exc "NoPicks" [("at", .int (ps.length : Nat))] [lso b (rs.map tI), .no, .no] else .ok (.sh .non, [lso b (rs.map tI), .no, .no]) := by
  have e1 := checkr_ok b rs n h.hr
  have e2 := grid_ev b rs ps n h.hr h.hp
  have e3 := weight_ev false (gridL rs ps) (gridL_sq h.he) (by rw [gridL_len]; exact h.hl) ((gridL_sm h.hs).mono (by omega))
  have hle : (ps.length : Int) = rs.length := by rw [h.he]
  have en := tN_enum ps
  by_cases hd : dt (gridL rs ps) = 0
  · rw [if_pos hd]
    cases b with
    | false =>
      obtain ⟨ρ', ⟨x3, x4, rfl⟩, e⟩ := for_thru _ (pick_turn ps n h.hu h.hp (.sh (.lst (rs.map tI)))) ⟨.no, .no, rfl⟩
      simp only [lsl, lso, cond_false, tN] at *
      simp [f_check_picks, g_check_picks, b_check_picks_0, e1, isB, hle, en, e, e2, e3, hd, h.he]
    | true =>
      obtain ⟨ρ', ⟨x3, x4, rfl⟩, e⟩ := for_thru _ (pick_turn ps n h.hu h.hp (.byr (rs.map tI))) ⟨.no, .no, rfl⟩
      simp only [lsl, lso, cond_true, cond_false, tN] at *
      simp [f_check_picks, g_check_picks, b_check_picks_0, e1, isB, hle, en, e, e2, e3, hd, h.he]
  · rw [if_neg hd]
    cases b with
    | false =>
      obtain ⟨ρ', ⟨x3, x4, rfl⟩, e⟩ := for_thru _ (pick_turn ps n h.hu h.hp (.sh (.lst (rs.map tI)))) ⟨.no, .no, rfl⟩
      simp only [lsl, lso, cond_false, tN] at *
      simp [f_check_picks, g_check_picks, b_check_picks_0, e1, isB, hle, en, e, e2, e3, hd, h.he]
    | true =>
      obtain ⟨ρ', ⟨x3, x4, rfl⟩, e⟩ := for_thru _ (pick_turn ps n h.hu h.hp (.byr (rs.map tI))) ⟨.no, .no, rfl⟩
      simp only [lsl, lso, cond_true, cond_false, tN] at *
      simp [f_check_picks, g_check_picks, b_check_picks_0, e1, isB, hle, en, e, e2, e3, hd, h.he]
/-- what are no picks at all -/
def noTup (d : D) (n : Nat) : Prop := (isB .tuple d = some false) ∨ ∃ ds, d = .tup ds ∧ ds.length ≠ n
theorem check_no (b : Bool) (rs : List (List Int)) (d : D) (n : Nat) (hr : ∀ r ∈ rs, r.length = n) (h : noTup d rs.length) : f_check_picks [lsl b (rs.map tI), .sh d, .sh (.int n)] = .exc "NoPicks" [("at", .int (-1))] [lso b (rs.map tI), .no, .no] := by
  have e1 := checkr_ok b rs n hr
  rcases h with h | ⟨ds, rfl, h⟩
  · cases b with
    | false =>
      simp only [lsl, lso, cond_false] at *
      simp [f_check_picks, g_check_picks, b_check_picks_0, e1, h]
    | true =>
      simp only [lsl, lso, cond_true] at *
      simp [f_check_picks, g_check_picks, b_check_picks_0, e1, h]
  · have h' : ¬ ((ds.length : Int) = rs.length) := by omega
    cases b with
    | false =>
      simp only [lsl, lso, cond_false] at *
      simp [f_check_picks, g_check_picks, b_check_picks_0, e1, isB, h']
    | true =>
      simp only [lsl, lso, cond_true] at *
      simp [f_check_picks, g_check_picks, b_check_picks_0, e1, isB, h']
end Lw
end

section
namespace Lw
open PySem PySem.Spec PyProof.Rows L2 Wm
/-- the first place that can't stand there -/
def badP (n : Int) : Int → List D → Nat → Option Nat
  | _, [], _ => none
  | prev, .int p :: ds, i => if prev < p ∧ p < n then badP n p ds (i + 1) else some i
  | _, _ :: _, i => some i
abbrev ckst (s0 : SD) (ds : List D) (n : Int) (x3 x4 : SD) : List SD := [s0, .sh (.tup ds), .sh (.int n), x3, x4]
theorem picks_loop (s0 : SD) (n : Int) : ∀ (ds pre : List D) (prev : Int) (x3 x4 : SD), (∀ d ∈ ds, okT d = true) → ((pre = [] ∧ prev = -1) ∨ (0 ≤ prev ∧ pre ≠ [] ∧ pre[pre.length - 1]? = some (.int prev))) →
    (badP n prev ds pre.length = none → ∃ y3 y4, forL (stT [3, 4]) l_check_picks_0 ((ds.zipIdx pre.length).map fun x => D.tup [.int (x.2 : Nat), x.1]) (ckst s0 (pre ++ ds) n x3 x4) = .ok (.nx (ckst s0 (pre ++ ds) n y3 y4))) ∧
    (∀ j, badP n prev ds pre.length = some j → ∃ y3 y4, forL (stT [3, 4]) l_check_picks_0 ((ds.zipIdx pre.length).map fun x => D.tup [.int (x.2 : Nat), x.1]) (ckst s0 (pre ++ ds) n x3 x4) = .exc "NoPicks" [("at", .int (j : Nat))] (ckst s0 (pre ++ ds) n y3 y4))
  | [], pre, prev, x3, x4, ho, hp => ⟨fun _ => ⟨x3, x4, by simp⟩, fun j h => by simp [badP] at h⟩
  | d :: ds, pre, prev, x3, x4, ho, hp => by
    have hd := ho d (by simp)
    have hw := whole_ev d hd
    have ez : ((d :: ds).zipIdx pre.length).map (fun x => D.tup [.int (x.2 : Nat), x.1]) = D.tup [.int (pre.length : Nat), d] :: ((ds.zipIdx (pre.length + 1)).map fun x => D.tup [.int (x.2 : Nat), x.1]) := by simp
    rw [ez, forL_cons]
    have ea : pre ++ d :: ds = (pre ++ [d]) ++ ds := by simp
    have bad : (∀ b, f_is_whole [.sh d] = .ok (.sh (.bl b), [.no]) → b = false) → ∀ kk, forT l_check_picks_0 kk (stT [3, 4] (D.tup [.int (pre.length : Nat), d]) (ckst s0 (pre ++ d :: ds) n x3 x4)) = .exc "NoPicks" [("at", .int (pre.length : Nat))] (ckst s0 (pre ++ d :: ds) n (.sh (.int (pre.length : Nat))) (.sh d)) := fun hb kk => by
      have := hb _ hw
      rw [this] at hw
      simp [l_check_picks_0, b_check_picks_1, hw]
    cases d with
    | int p =>
      have hw : f_is_whole [.sh (.int p)] = .ok (.sh (.bl true), [.no]) := hw
      by_cases c : prev < p ∧ p < n
      · have c0 : 0 ≤ p := by
          rcases hp with ⟨_, rfl⟩ | ⟨h, _⟩ <;> omega
        have turn : ∀ kk, forT l_check_picks_0 kk (stT [3, 4] (D.tup [.int (pre.length : Nat), .int p]) (ckst s0 (pre ++ .int p :: ds) n x3 x4)) = kk (ckst s0 (pre ++ .int p :: ds) n (.sh (.int (pre.length : Nat))) (.sh (.int p))) := fun kk => by
          rcases hp with ⟨rfl, rfl⟩ | ⟨h0, hne, hl⟩
          · simp [l_check_picks_0, b_check_picks_1, hw, c0, c.2]
          · have i0 : (0 : Int) < (pre.length : Int) := by have := List.length_pos_iff.mpr hne; omega
            have i1 : 0 < pre.length := List.length_pos_iff.mpr hne
            have e1 : atI (pre ++ .int p :: ds) ((pre.length : Int) - 1) = some (.int prev) := by
              have := List.length_pos_iff.mpr hne
              rw [show ((pre.length : Int) - 1) = ((pre.length - 1 : Nat) : Int) by omega]
              apply atI_nth
              rw [List.getElem?_append_left (by omega)]
              exact hl
            have c3 : ¬ p ≤ prev := by omega
            simp [l_check_picks_0, b_check_picks_1, hw, c0, c.2, i0, i1, e1, c3]
        rw [turn]
        have ih := picks_loop s0 n ds (pre ++ [.int p]) p (.sh (.int (pre.length : Nat))) (.sh (.int p)) (fun d hd => ho d (List.mem_cons_of_mem _ hd)) (.inr ⟨c0, by simp, by simp⟩)
        rw [show (pre ++ [D.int p]).length = pre.length + 1 by simp, ← ea] at ih
        have eb : badP n prev (.int p :: ds) pre.length = badP n p ds (pre.length + 1) := by
          show (if prev < p ∧ p < n then _ else _) = _
          rw [if_pos c]
        rw [eb]
        exact ih
      · have eb : badP n prev (.int p :: ds) pre.length = some pre.length := by
          show (if prev < p ∧ p < n then _ else _) = _
          rw [if_neg c]
        rw [eb]
        refine ⟨fun h => absurd h (by simp [badP]), fun j h => ?_⟩
        cases h
        refine ⟨.sh (.int (pre.length : Nat)), .sh (.int p), ?_⟩
        by_cases c0 : 0 ≤ p
        · by_cases c2 : p < n
          · rcases hp with ⟨rfl, rfl⟩ | ⟨h0, hne, hl⟩
            · exact absurd ⟨by omega, c2⟩ c
            · have i0 : (0 : Int) < (pre.length : Int) := by have := List.length_pos_iff.mpr hne; omega
              have i1 : 0 < pre.length := List.length_pos_iff.mpr hne
              have e1 : atI (pre ++ .int p :: ds) ((pre.length : Int) - 1) = some (.int prev) := by
                have := List.length_pos_iff.mpr hne
                rw [show ((pre.length : Int) - 1) = ((pre.length - 1 : Nat) : Int) by omega]
                apply atI_nth
                rw [List.getElem?_append_left (by omega)]
                exact hl
              have c3 : p ≤ prev := by omega
              simp [l_check_picks_0, b_check_picks_1, hw, c0, c2, i0, i1, e1, c3]
          · simp [l_check_picks_0, b_check_picks_1, hw, c0, c2]
        · simp [l_check_picks_0, b_check_picks_1, hw, c0]
    | ins c fs => cases hd
    | scr ns => cases hd
    | _ =>
      refine ⟨fun h => absurd h (by simp [badP]), fun j h => ?_⟩
      cases h
      exact ⟨_, _, bad (fun b hb => by rw [hw] at hb; injection hb with hb; injection hb with hb; injection hb with hb; injection hb with hb; exact hb.symm) _⟩
end Lw
end

section
namespace Lw
open PySem PySem.Spec PyProof.Rows L2 Wm
def colL (rs : List (List Int)) (k : Nat) : List Int := rs.map fun r => at0 r k
theorem flipped_ev (b : Bool) (rs : List (List Int)) (n : Nat) (hr : ∀ r ∈ rs, r.length = n) (hn : n ≤ 1000) : f_flipped [lsl b (rs.map tI), .sh (.int n)] = .ok (.own ((List.range n).map fun k => tI (colL rs k)), [lso b (rs.map tI), .no]) := by
  have hr1 : rngOk (n : Int) := rgk (by omega)
  have hs : n ≤ sizeLine := sz (by omega)
  have inner : ∀ (b : Bool) (k : Nat), k < n → c_flipped_0 [lsl b (rs.map tI), .sh (.int n), .sh (.int k), .no] = .ok (.own ((colL rs k).map D.int), [lsl b (rs.map tI), .sh (.int n), .sh (.int k), .no]) := fun b k hk => by
    have key : ∀ (m : Itm) (s0 : SD), m.keep [s0, .sh (.int n), .sh (.int k), .no] → lcL m (stN 3) bYes (xPrim [.va 3, .va 2] pIx) [3] (rs.map tI) [s0, .sh (.int n), .sh (.int k), .no] = .ok (rs.map fun r => D.int (at0 r k), [s0, .sh (.int n), .sh (.int k), .no]) := fun m s0 hm => lc_mapL fun r hr' kk => by
      simp [at0_get r k (by rw [hr r hr']; exact hk), hm]
    cases b with
    | false =>
      have := key ⟨rs.map tI, []⟩ (.sh (.lst (rs.map tI))) (by simp)
      simp [lsl, c_flipped_0, this, colL, Function.comp_def]
    | true =>
      have := key ⟨rs.map tI, [(0, .byr (rs.map tI))]⟩ (.byr (rs.map tI)) (by simp)
      simp [lsl, c_flipped_0, this, colL, Function.comp_def]
  have key : lcL ⟨(List.range n).map fun (k : Nat) => D.int k, []⟩ (stN 2) bYes (xPrim [.ex c_flipped_0] pTuple) [2] ((List.range n).map fun (k : Nat) => D.int k) [lsl b (rs.map tI), .sh (.int n), .no, .no] = .ok ((List.range n).map fun k => tI (colL rs k), [lsl b (rs.map tI), .sh (.int n), .no, .no]) := lc_mapL fun k hk kk => by
    simp [inner b k (List.mem_range.mp hk)]
  cases b with
  | false =>
    simp only [lsl, cond_false] at key
    simp [lsl, lso, f_flipped, g_flipped, c_flipped_1, hr1, hs, key]
  | true =>
    simp only [lsl, cond_true] at key
    simp [lsl, lso, f_flipped, g_flipped, c_flipped_1, hr1, hs, key]
theorem checkr_ev (ms : List D) (n : Int) (hm : ∀ d ∈ ms, okR d = true) : f_check_rows [.sh (.lst ms), .sh (.int n)] = match ms.zipIdx.find? (fun x => !isRow x.1 n) with
    | none => .ok (.sh .non, [.no, .no])
    | some x => .exc "NoRow" [("at", .int (x.2 : Nat))] [.no, .no] := by
  have e0 : enumD ms = ms.zipIdx.map fun p => D.tup [.int (p.2 : Nat), p.1] := by
    have := enum_map (g := id) ms
    simpa using this
  have turn : ∀ x ∈ ms.zipIdx, ∀ x3 x4 : SD, ∀ k, forT l_check_rows_0 k (stT [2, 3] (D.tup [.int (x.2 : Nat), x.1]) [.sh (.lst ms), .sh (.int n), x3, x4]) = if isRow x.1 n then k [.sh (.lst ms), .sh (.int n), .sh (.int (x.2 : Nat)), .sh x.1] else .exc "NoRow" [("at", .int (x.2 : Nat))] [.sh (.lst ms), .sh (.int n), .sh (.int (x.2 : Nat)), .sh x.1] := by
    rintro ⟨d, i⟩ hx x3 x4 k
    have hd := hm d (List.fst_mem_of_mem_zipIdx hx)
    cases h : isRow d n <;> simp [l_check_rows_0, row_ev d n hd, h]
  simp [f_check_rows, g_check_rows, isB, e0]
  generalize hL : forL _ _ _ _ = L
  obtain ⟨ρ', ⟨x3, x4, rfl⟩, rfl⟩ := for_stop_use (p := fun x : D × Nat => isRow x.1 n) (r := fun x ρ => .exc "NoRow" [("at", .int (x.2 : Nat))] ρ) hL (fun ρ => ∃ x3 x4, ρ = [.sh (.lst ms), .sh (.int n), x3, x4]) ⟨.no, .no, rfl⟩ (by
    rintro x hx ρ ⟨x3, x4, rfl⟩
    exact ⟨_, ⟨_, _, rfl⟩, turn x hx x3 x4⟩)
  cases ms.zipIdx.find? (fun x => !isRow x.1 n) <;> simp
def Rf (d : D) (n k : Int) : Prop := f_check_rows [.sh d, .sh (.int n)] = .exc "NoRow" [("at", .int k)] [.no, .no]
theorem rf_no (d : D) (n : Int) (hd : isB .list d = some false) : Rf d n 0 := by
  unfold Rf
  simp [f_check_rows, g_check_rows, hd]
theorem badP_none (n : Int) : ∀ (ds : List D) (prev : Int) (i : Nat), -1 ≤ prev → badP n prev ds i = none → ∃ ps : List Nat, ds = ps.map (fun (p : Nat) => D.int p) ∧ ps.Pairwise (· < ·) ∧ ∀ p ∈ ps, prev < (p : Int) ∧ (p : Int) < n
  | [], prev, i, _, _ => ⟨[], rfl, .nil, fun p hp => by cases hp⟩
  | .int p :: ds, prev, i, hp, h => by
    have h : (if prev < p ∧ p < n then badP n p ds (i + 1) else some i) = none := h
    by_cases c : prev < p ∧ p < n
    · rw [if_pos c] at h
      obtain ⟨ps, e, h1, h2⟩ := badP_none n ds p (i + 1) (by omega) h
      refine ⟨p.toNat :: ps, ?_, List.pairwise_cons.mpr ⟨fun q hq => by have := (h2 q hq).1; omega, h1⟩, fun q hq => ?_⟩
      · rw [e, List.map_cons, show ((p.toNat : Nat) : Int) = p by omega]
      · rcases List.mem_cons.mp hq with rfl | hq
        · omega
        · have := h2 q hq; omega
    · rw [if_neg c] at h; cases h
  | .non :: ds, _, _, _, h => by cases h
  | .bl _ :: ds, _, _, _, h => by cases h
  | .str _ :: ds, _, _, _, h => by cases h
  | .tup _ :: ds, _, _, _, h => by cases h
  | .lst _ :: ds, _, _, _, h => by cases h
  | .ins _ _ :: ds, _, _, _, h => by cases h
  | .scr _ :: ds, _, _, _, h => by cases h
  | .dct _ :: ds, _, _, _, h => by cases h
theorem check_bad (rs : List (List Int)) (ds : List D) (n j : Nat) (hr : ∀ r ∈ rs, r.length = n) (hd : ∀ d ∈ ds, okT d = true) (hl : ds.length = rs.length) (h : badP n (-1) ds 0 = some j) : f_check_picks [.sh (.lst (rs.map tI)), .sh (.tup ds), .sh (.int n)] = .exc "NoPicks" [("at", .int (j : Nat))] [.no, .no, .no] := by
  have e1 := checkr_ok false rs n hr
  have hle : (ds.length : Int) = rs.length := by rw [hl]
  have en : enumD ds = ds.zipIdx.map fun p => D.tup [.int (p.2 : Nat), p.1] := by
    have := enum_map (g := id) ds
    simpa using this
  obtain ⟨y3, y4, e⟩ := (picks_loop (.sh (.lst (rs.map tI))) n ds [] (-1) .no .no hd (.inl ⟨rfl, rfl⟩)).2 j h
  simp only [List.nil_append, List.length_nil] at e
  simp only [lsl, lso, cond_false] at e1
  simp [f_check_picks, g_check_picks, b_check_picks_0, e1, isB, hle, en, e]
theorem check_rf (d t : D) (n k : Int) (h : Rf d n k) : f_check_picks [.sh d, .sh t, .sh (.int n)] = .exc "NoRow" [("at", .int k)] [.no, .no, .no] := by
  unfold Rf at h
  simp [f_check_picks, g_check_picks, h]
theorem all_rf (d : D) (n k : Int) (h : Rf d n k) : f_all_picks [.sh d, .sh (.int n)] = .exc "NoRow" [("at", .int k)] [.no, .no] := by
  unfold Rf at h
  simp [f_all_picks, g_all_picks, h]
theorem rounds_exc (d t : D) (n : Int) (c : Str) (x : D) (h : f_check_picks [.sh d, .sh t, .sh (.int n)] = .exc c [("at", x)] [.no, .no, .no]) : ∃ ρ, f_Rounds_init [d, t, .int n] = .exc c [("at", x)] ρ := by
  exact ⟨_, by simp [f_Rounds_init, g_Rounds_init, h]; rfl⟩
end Lw
end

section
namespace Lw
open PySem PySem.Spec PyProof.Rows L2 Wm
theorem noIs_ints : ∀ r : List Int, noIs (r.map D.int) = true
  | [] => by simp [noIs]
  | x :: r => by simp [noIs, noI, noIs_ints r]
theorem noIs_nats : ∀ r : List Nat, noIs (r.map fun (p : Nat) => D.int p) = true
  | [] => by simp [noIs]
  | x :: r => by simp [noIs, noI, noIs_nats r]
theorem noIs_rows : ∀ rs : List (List Int), noIs (rs.map tI) = true
  | [] => by simp [noIs]
  | r :: rs => by
    simp only [List.map_cons, noIs, noIs_rows rs, Bool.and_true]
    simp only [tI, noI]
    exact noIs_ints r
theorem noIS_st (rs : List (List Int)) (ps : List Nat) (n : Int) : ([.sh (.lst (rs.map tI)), .sh (tN ps), .sh (.int n), .no] : List SD).all noIS = true := by
  simp only [List.all_cons, List.all_nil, noIS, noI, noIs_rows, tN, noIs_nats, Bool.and_self]
theorem gridD_noI (rs : List (List Int)) (ps : List Nat) : True := trivial
abbrev rnF (rs : List (List Int)) (ps : List Nat) (n : Nat) : List (Str × D) := [("columns", .lst ((List.range n).map fun k => tI (colL rs k))), ("chosen_ones", tN ps), ("grid", .lst ((gridL rs ps).map tI)), ("heavy", .int (dt (gridL rs ps)))]
theorem cols_ev (rs : List (List Int)) (ps : List Nat) (n : Nat) (hp : ∀ p ∈ ps, p < n) : c_Rounds_init_0 [.sh (.ins "Rounds" (rnF rs ps n)), .sh (.lst (rs.map tI)), .sh (tN ps), .sh (.int n), .no] = .ok (.own ((ps.map fun p => colL rs p).map tI), [.sh (.ins "Rounds" (rnF rs ps n)), .sh (.lst (rs.map tI)), .sh (tN ps), .sh (.int n), .no]) := by
  have k0 : lcL ⟨ps.map fun (p : Nat) => D.int p, []⟩ (stN 4) bYes (xPrim [.ex (xPrim [.va 0] (pFld "Rounds" "columns")), .va 4] pIx) [4] (ps.map fun (p : Nat) => D.int p) [.sh (.ins "Rounds" (rnF rs ps n)), .sh (.lst (rs.map tI)), .sh (tN ps), .sh (.int n), .no] = .ok (ps.map fun p => tI (colL rs p), [.sh (.ins "Rounds" (rnF rs ps n)), .sh (.lst (rs.map tI)), .sh (tN ps), .sh (.int n), .no]) := lc_mapL fun p hp' k => by
    have e1 : atI ((List.range n).map fun k => tI (colL rs k)) (p : Int) = some (tI (colL rs p)) := by
      apply atI_nth
      rw [List.getElem?_map, List.getElem?_range (hp p hp')]
      rfl
    simp [e1]
  simp only [tN] at *
  simp [c_Rounds_init_0, k0, Function.comp_def]
theorem rounds_many (rs : List (List Int)) (ps : List Nat) (n : Nat) (h : Pk rs n ps) (hn : n ≤ 1000) (hd : dt (gridL rs ps) ≠ 0) (h6 : 60 < (dt (gridL rs ps)).natAbs) : ∃ ρ, f_Rounds_init [.lst (rs.map tI), tN ps, .int n] = .exc "TooMany" [("many", .int 60)] ρ := by
  have e1 := check_ev false rs ps n h
  rw [if_neg hd] at e1
  have e2 := flipped_ev false rs n h.hr hn
  have e3 := grid_ev false rs ps n h.hr h.hp
  have e4 := weight_ev false (gridL rs ps) (gridL_sq h.he) (by rw [gridL_len]; exact h.hl) ((gridL_sm h.hs).mono (by omega))
  simp only [lsl, lso, cond_false] at e1 e2 e3 e4
  have ns := noIS_st rs ps n
  have h6' : (60 : Int) < ((dt (gridL rs ps)).natAbs : Int) := by omega
  have hni : ∀ x : Int, noI (D.int x) = true := fun x => by simp [noI]
  exact ⟨_, by simp [-List.all_cons, f_Rounds_init, g_Rounds_init, e1, e2, e3, e4, ns, hni, h6', putD]; rfl⟩
end Lw
end

section
namespace Lw
open PySem PySem.Spec PyProof.Rows L2 Wm
theorem rounds_ok (rs : List (List Int)) (ps : List Nat) (n : Nat) (h : Pk rs n ps) (hn : n ≤ 1000) (hb : ∀ r ∈ rs, Rd.Bn 9 r) (hd : dt (gridL rs ps) ≠ 0) (h6 : (dt (gridL rs ps)).natAbs ≤ 60) : ∃ (F : List (List Int)) (ρ : List SD), f_Rounds_init [.lst (rs.map tI), tN ps, .int n] = .ok (rnF rs ps n ++ [((("stairs" : Str), D.lst (F.map tI)) : Str × D)], ρ) := by
  have e1 := check_ev false rs ps n h
  rw [if_neg hd] at e1
  have e2 := flipped_ev false rs n h.hr hn
  have e3 := grid_ev false rs ps n h.hr h.hp
  have e4 := weight_ev false (gridL rs ps) (gridL_sq h.he) (by rw [gridL_len]; exact h.hl) ((gridL_sm h.hs).mono (by omega))
  simp only [lsl, lso, cond_false] at e1 e2 e3 e4
  have ns := noIS_st rs ps n
  have h6' : ¬ (60 : Int) < ((dt (gridL rs ps)).natAbs : Int) := by omega
  have hni : ∀ x : Int, noI (D.int x) = true := fun x => by simp [noI]
  have wc : Rd.Wd rs.length 9 (ps.map fun p => colL rs p) := fun r hr => by
    obtain ⟨p, hp, rfl⟩ := List.mem_map.mp hr
    refine ⟨by simp [colL], fun x hx => ?_⟩
    obtain ⟨q, hq, rfl⟩ := List.mem_map.mp hx
    exact (hb q hq).at (c := p) (by rw [h.hr q hq]; exact h.hp p hp)
  have hl := h.hl
  obtain ⟨F, e5, _, _⟩ := told_ev (ps.map fun p => colL rs p) rs.length 9 (by omega) wc (by rw [List.length_map, h.he]; omega) (fun k hk => bnd9 k (by omega))
  have ec := cols_ev rs ps n h.hp
  have nF : noI (.lst (F.map tI)) = true := by simp only [noI]; exact noIs_rows F
  have elen : (ps.length : Int) = (rs.length : Nat) := by rw [h.he]
  refine ⟨F, [.gv, .sh (.lst (rs.map tI)), .sh (tN ps), .sh (.int n), .no], ?_⟩
  simp only [rnF] at ec
  simp only [tN] at *
  simp [-List.all_cons, -List.map_map, f_Rounds_init, g_Rounds_init, e1, e2, e3, e4, ns, hni, h6', putD, ec, e5, nF, elen, tN]
end Lw
end

section
namespace Lw
open PySem PySem.Spec PyProof.Rows L2 Wm
theorem hi_n (xs : List D) (k : Nat) : pSlHi [.lst xs, .int (k : Int)] = .ok (.own (xs.take k)) := by
  rw [slHi_lst _ _ (by omega)]
  simp
theorem lo_n (xs : List D) (k : Nat) : pSlLo [.lst xs, .int (k : Int)] = .ok (.own (xs.drop k)) := by
  rw [slLo_lst _ _ (by omega)]
  simp
theorem lo_t (xs : List D) : pSlLo [.tup xs, .int 1] = .ok (.sh (.tup (xs.drop 1))) := by
  rw [slLo_tup _ _ (by omega)]
  simp
theorem heavy0 (k : Nat) : fr__law_heavy (k + 1) [.sh (.lst [])] = .ok (.sh (.int 1), [.no]) := by
  have s0 : (0 : Nat) ≤ sizeLine := by decide
  simp [fr__law_heavy, g__law_heavy, s0, okD]
theorem heavy1 (k : Nat) (a : Int) (ha : a.natAbs < 2 ^ 64) : fr__law_heavy (k + 2) [.sh (.lst [tI [a]])] = .ok (.sh (.int a), [.no]) := by
  have s0 : (0 : Nat) ≤ sizeLine := by decide
  have s2 : (2 : Nat) ≤ sizeLine := by decide
  have h0 := heavy0 k
  have m1 : ∀ y, IntMulOk a y := fun y => mul_okL ha
  have h00 := fun xs => hi_n xs 0
  have l1 := fun xs => lo_n xs 1
  simp only [Int.natCast_zero, Int.natCast_one] at h00 l1
  rw [fr__law_heavy]
  simp [g__law_heavy, l__law_heavy_1, c__law_heavy_0, s0, s2, h0, okD, tI, m1, pMul_int, enumD, h00, l1, lo_t]
theorem heavy2 (k : Nat) (a b c d : Int) (ha : a.natAbs < 2 ^ 64) (hb : b.natAbs < 2 ^ 64) (hc : c.natAbs < 2 ^ 64) (hd : d.natAbs < 2 ^ 64) : fr__law_heavy (k + 3) [.sh (.lst [tI [a, b], tI [c, d]])] = .ok (.sh (.int (a * d + -c * b)), [.no]) := by
  have s0 : (0 : Nat) ≤ sizeLine := by decide
  have s1 : (1 : Nat) ≤ sizeLine := by decide
  have s2 : (2 : Nat) ≤ sizeLine := by decide
  have h1 := heavy1 k b hb
  have h2 := heavy1 k d hd
  have m1 : ∀ y, IntMulOk a y := fun y => mul_okL ha
  have m2 : ∀ y, IntMulOk (-c) y := fun y => mul_okL (by rw [Int.natAbs_neg]; exact hc)
  have h00 := fun xs => hi_n xs 0
  have h01 := fun xs => hi_n xs 1
  have l1 := fun xs => lo_n xs 1
  have l2 : ∀ xs : List D, pSlLo [.lst xs, .int 2] = .ok (.own (xs.drop 2)) := fun xs => lo_n xs 2
  simp only [Int.natCast_zero, Int.natCast_one] at h00 h01 l1
  rw [fr__law_heavy]
  simp only [tI, List.map_cons, List.map_nil] at h1 h2
  simp [g__law_heavy, l__law_heavy_1, c__law_heavy_0, s0, s1, s2, h1, h2, okD, tI, m1, m2, pMul_int, enumD, h00, h01, l1, l2, lo_t]
theorem heavy3 (k : Nat) (a b c d e f g h i : Int) (ha : a.natAbs < 2 ^ 62) (hb : b.natAbs < 2 ^ 62) (hc : c.natAbs < 2 ^ 62) (hd : d.natAbs < 2 ^ 62) (he : e.natAbs < 2 ^ 62) (hf : f.natAbs < 2 ^ 62) (hg : g.natAbs < 2 ^ 62) (hh : h.natAbs < 2 ^ 62) (hi : i.natAbs < 2 ^ 62) :
    fr__law_heavy (k + 4) [.sh (.lst [tI [a, b, c], tI [d, e, f], tI [g, h, i]])] = .ok (.sh (.int (a * (e * i + -h * f) + -d * (b * i + -h * c) + g * (b * f + -e * c))), [.no]) := by
  have s0 : (0 : Nat) ≤ sizeLine := by decide
  have s1 : (1 : Nat) ≤ sizeLine := by decide
  have s2 : (2 : Nat) ≤ sizeLine := by decide
  have h1 := heavy2 k e f h i (by omega) (by omega) (by omega) (by omega)
  have h2 := heavy2 k b c h i (by omega) (by omega) (by omega) (by omega)
  have h3 := heavy2 k b c e f (by omega) (by omega) (by omega) (by omega)
  have m1 : ∀ y, IntMulOk a y := fun y => mul_okL (by omega)
  have m2 : ∀ y, IntMulOk (-d) y := fun y => mul_okL (by rw [Int.natAbs_neg]; omega)
  have m3 : ∀ y, IntMulOk g y := fun y => mul_okL (by omega)
  have h00 := fun xs => hi_n xs 0
  have h01 := fun xs => hi_n xs 1
  have h02 : ∀ xs : List D, pSlHi [.lst xs, .int 2] = .ok (.own (xs.take 2)) := fun xs => hi_n xs 2
  have l1 := fun xs => lo_n xs 1
  have l2 : ∀ xs : List D, pSlLo [.lst xs, .int 2] = .ok (.own (xs.drop 2)) := fun xs => lo_n xs 2
  have l3 : ∀ xs : List D, pSlLo [.lst xs, .int 3] = .ok (.own (xs.drop 3)) := fun xs => lo_n xs 3
  simp only [Int.natCast_zero, Int.natCast_one] at h00 h01 l1
  rw [fr__law_heavy]
  simp only [tI, List.map_cons, List.map_nil] at h1 h2 h3
  simp [g__law_heavy, l__law_heavy_1, c__law_heavy_0, s0, s1, s2, h1, h2, h3, okD, tI, m1, m2, m3, pMul_int, enumD, h00, h01, h02, l1, l2, l3, lo_t]
theorem heavy_ev (k : Nat) (g : List (List Int)) (hq : Sq g) (hl : g.length ≤ 3) (hs : Sm 60 g) : fr__law_heavy (k + 4) [.sh (.lst (g.map tI))] = .ok (.sh (.int (dt g)), [.no]) := by
  have sm : ∀ (r : List Int) (x : Int), r ∈ g → x ∈ r → x.natAbs < 2 ^ 60 := fun _ _ hr hx => hs _ hr _ hx
  match g, hq, hl, hs, sm with
  | [], _, _, _, _ => rw [show k + 4 = (k + 3) + 1 from rfl]; simpa [dt, Dt.det] using heavy0 (k + 3)
  | [r], hq, _, hs, sm =>
    obtain ⟨a, rfl⟩ : ∃ a, r = [a] := by
      have : r.length = 1 := hq r (by simp)
      match r, this with
      | [a], _ => exact ⟨a, rfl⟩
    have e := heavy1 (k + 2) a (by have := sm [a] a (by simp) (by simp); omega)
    have ed : dt [[a]] = a := by simp [dt, Dt.det_one, mx, at0]
    rw [ed]
    exact e
  | [r, s], hq, _, hs, sm =>
    obtain ⟨a, b, rfl⟩ : ∃ a b, r = [a, b] := by
      have : r.length = 2 := hq r (by simp)
      match r, this with
      | [a, b], _ => exact ⟨a, b, rfl⟩
    obtain ⟨c, d, rfl⟩ : ∃ c d, s = [c, d] := by
      have : s.length = 2 := hq s (by simp)
      match s, this with
      | [a, b], _ => exact ⟨a, b, rfl⟩
    have z : ∀ x ∈ [a, b, c, d], x.natAbs < 2 ^ 64 := fun x hx => by
      have : x.natAbs < 2 ^ 60 := by
        simp only [List.mem_cons, List.not_mem_nil, or_false] at hx
        rcases hx with rfl | rfl | rfl | rfl
        · exact sm [x, b] _ (by simp) (by simp)
        · exact sm [a, x] _ (by simp) (by simp)
        · exact sm [x, d] _ (by simp) (by simp)
        · exact sm [c, x] _ (by simp) (by simp)
      omega
    have e := heavy2 (k + 1) a b c d (z a (by simp)) (z b (by simp)) (z c (by simp)) (z d (by simp))
    have ed : dt [[a, b], [c, d]] = a * d + -c * b := by
      simp [dt, Dt.det_two_two, mx, at0]
      grind
    rw [ed]
    exact e
  | [r, s, t], hq, _, hs, sm =>
    obtain ⟨a, b, c, rfl⟩ : ∃ a b c, r = [a, b, c] := by
      have : r.length = 3 := hq r (by simp)
      match r, this with
      | [a, b, c], _ => exact ⟨a, b, c, rfl⟩
    obtain ⟨d, e, f, rfl⟩ : ∃ a b c, s = [a, b, c] := by
      have : s.length = 3 := hq s (by simp)
      match s, this with
      | [a, b, c], _ => exact ⟨a, b, c, rfl⟩
    obtain ⟨p, q, i, rfl⟩ : ∃ a b c, t = [a, b, c] := by
      have : t.length = 3 := hq t (by simp)
      match t, this with
      | [a, b, c], _ => exact ⟨a, b, c, rfl⟩
    have z1 : ∀ x ∈ [a, b, c], x.natAbs < 2 ^ 62 := fun x hx => by have := sm [a, b, c] _ (by simp) hx; omega
    have z2 : ∀ x ∈ [d, e, f], x.natAbs < 2 ^ 62 := fun x hx => by have := sm [d, e, f] _ (by simp) hx; omega
    have z3 : ∀ x ∈ [p, q, i], x.natAbs < 2 ^ 62 := fun x hx => by have := sm [p, q, i] _ (by simp) hx; omega
    have eh := heavy3 k a b c d e f p q i (z1 a (by simp)) (z1 b (by simp)) (z1 c (by simp)) (z2 d (by simp)) (z2 e (by simp)) (z2 f (by simp)) (z3 p (by simp)) (z3 q (by simp)) (z3 i (by simp))
    have ed : dt [[a, b, c], [d, e, f], [p, q, i]] = a * (e * i + -q * f) + -d * (b * i + -q * c) + p * (b * f + -e * c) := by
      simp [dt, Dt.det, Dt.sm, Dt.sg, Dt.mi, Dt.sk, mx, at0]
      grind
    rw [ed]
    exact eh
end Lw
end

section
namespace Lw
open PySem PySem.Spec PyProof.Rows L2 Wm
abbrev dst (s0 : SD) (ds : List D) (n : Int) (x3 x4 x5 : SD) : List SD := [s0, .sh (.tup ds), .sh (.int n), x3, x4, x5, .no]
theorem due_loop (s0 : SD) (n : Int) (wh : List D) : ∀ (ds : List D) (i : Nat) (prev : Int) (x4 x5 : SD), (∀ d ∈ ds, okT d = true) → keptSD (some x5) = x5 →
    (badP n prev ds i = none → ∃ y3 y4 y5, forL (stT [4, 5]) l__law_due_0 ((ds.zipIdx i).map fun x => D.tup [.int (x.2 : Nat), x.1]) (dst s0 wh n (.sh (.int prev)) x4 x5) = .ok (.nx (dst s0 wh n y3 y4 y5)) ∧ keptSD (some y5) = y5) ∧
    (∀ j, badP n prev ds i = some j → ∃ y3 y4 y5, forL (stT [4, 5]) l__law_due_0 ((ds.zipIdx i).map fun x => D.tup [.int (x.2 : Nat), x.1]) (dst s0 wh n (.sh (.int prev)) x4 x5) = .ok (.rt (.sh (.int (j : Nat))) (dst s0 wh n y3 y4 y5)))
  | [], i, prev, x4, x5, ho, h5 => ⟨fun _ => ⟨.sh (.int prev), x4, x5, by simp, h5⟩, fun j h => by simp [badP] at h⟩
  | d :: ds, i, prev, x4, x5, ho, h5 => by
    have hd := ho d (by simp)
    have ez : ((d :: ds).zipIdx i).map (fun x => D.tup [.int (x.2 : Nat), x.1]) = D.tup [.int (i : Nat), d] :: ((ds.zipIdx (i + 1)).map fun x => D.tup [.int (x.2 : Nat), x.1]) := by simp
    rw [ez, forL_cons]
    cases d with
    | int p =>
      by_cases c : prev < p ∧ p < n
      · have c1 : ¬ p ≤ prev := by omega
        have c2 : ¬ n ≤ p := by omega
        have turn : ∀ kk, forT l__law_due_0 kk (stT [4, 5] (D.tup [.int (i : Nat), .int p]) (dst s0 wh n (.sh (.int prev)) x4 x5)) = kk (dst s0 wh n (.sh (.int p)) (.sh (.int (i : Nat))) (.sh (.int p))) := fun kk => by
          simp [l__law_due_0, b__law_due_1, isB, c1, c2]
        rw [turn]
        have ih := due_loop s0 n wh ds (i + 1) p (.sh (.int (i : Nat))) (.sh (.int p)) (fun d hd => ho d (List.mem_cons_of_mem _ hd)) rfl
        have eb : badP n prev (.int p :: ds) i = badP n p ds (i + 1) := by
          show (if prev < p ∧ p < n then _ else _) = _
          rw [if_pos c]
        rw [eb]
        exact ih
      · have eb : badP n prev (.int p :: ds) i = some i := by
          show (if prev < p ∧ p < n then _ else _) = _
          rw [if_neg c]
        rw [eb]
        refine ⟨fun h => absurd h (by simp), fun j h => ?_⟩
        cases h
        refine ⟨.sh (.int prev), .sh (.int (i : Nat)), .sh (.int p), ?_⟩
        by_cases c1 : p ≤ prev
        · simp [l__law_due_0, b__law_due_1, isB, c1]
        · have c2 : n ≤ p := by omega
          simp [l__law_due_0, b__law_due_1, isB, c1, c2]
    | ins c fs => cases hd
    | scr ns => cases hd
    | bl b =>
      refine ⟨fun h => absurd h (by simp [badP]), fun j h => ?_⟩
      cases h
      exact ⟨.sh (.int prev), .sh (.int (i : Nat)), .sh (.bl b), by simp [l__law_due_0, b__law_due_1, isB]⟩
    | non =>
      refine ⟨fun h => absurd h (by simp [badP]), fun j h => ?_⟩
      cases h
      exact ⟨.sh (.int prev), .sh (.int (i : Nat)), .sh .non, by simp [l__law_due_0, b__law_due_1, isB]⟩
    | str x =>
      refine ⟨fun h => absurd h (by simp [badP]), fun j h => ?_⟩
      cases h
      exact ⟨.sh (.int prev), .sh (.int (i : Nat)), .sh (.str x), by simp [l__law_due_0, b__law_due_1, isB]⟩
    | tup xs =>
      refine ⟨fun h => absurd h (by simp [badP]), fun j h => ?_⟩
      cases h
      exact ⟨.sh (.int prev), .sh (.int (i : Nat)), .sh (.tup xs), by simp [l__law_due_0, b__law_due_1, isB]⟩
    | lst xs =>
      refine ⟨fun h => absurd h (by simp [badP]), fun j h => ?_⟩
      cases h
      exact ⟨.sh (.int prev), .sh (.int (i : Nat)), .sh (.lst xs), by simp [l__law_due_0, b__law_due_1, isB]⟩
    | dct xs =>
      refine ⟨fun h => absurd h (by simp [badP]), fun j h => ?_⟩
      cases h
      exact ⟨.sh (.int prev), .sh (.int (i : Nat)), .sh (.dct xs), by simp [l__law_due_0, b__law_due_1, isB]⟩
end Lw
end

section
namespace Lw
open PySem PySem.Spec PyProof.Rows L2 Wm
/-- the kinds of what picks may come to be, with what is due -/
inductive Thg (rs : List (List Int)) (n : Nat) : D → Type
  | no {d : D} (h : noTup d rs.length) (hk : okT d = true ∨ ∃ ds, d = .tup ds) : Thg rs n d
  | bad (ds : List D) (j : Nat) (hd : ∀ d ∈ ds, okT d = true) (hl : ds.length = rs.length) (h : badP n (-1) ds 0 = some j) : Thg rs n (.tup ds)
  | zero (ps : List Nat) (h : Pk rs n ps) (hz : dt (gridL rs ps) = 0) : Thg rs n (tN ps)
  | good (ps : List Nat) (h : Pk rs n ps) (hz : dt (gridL rs ps) ≠ 0) : Thg rs n (tN ps)
theorem grid_due (rs : List (List Int)) (ps : List Nat) (n : Nat) (hr : ∀ r ∈ rs, r.length = n) (hp : ∀ p ∈ ps, p < n) (x3 x4 x5 : SD) (h5 : keptSD (some x5) = x5) : c__law_due_2 [.byr (rs.map tI), .sh (tN ps), .sh (.int n), x3, x4, x5, .no] = .ok (.own ((gridL rs ps).map tI), [.byr (rs.map tI), .sh (tN ps), .sh (.int n), x3, x4, x5, .no]) := by
  have inner : ∀ r ∈ rs, c__law_due_1 [.byr (rs.map tI), .sh (tN ps), .sh (.int n), x3, x4, x5, .sh (tI r)] = .ok (.own ((ps.map fun p => at0 r p).map D.int), [.byr (rs.map tI), .sh (tN ps), .sh (.int n), x3, x4, x5, .sh (tI r)]) := fun r hr' => by
    have k0 : lcL ⟨ps.map fun (p : Nat) => D.int p, []⟩ (stN 5) bYes (xPrim [.va 6, .va 5] pIx) [5] (ps.map fun (p : Nat) => D.int p) [.byr (rs.map tI), .sh (tN ps), .sh (.int n), x3, x4, .no, .sh (tI r)] = .ok (ps.map fun p => D.int (at0 r p), [.byr (rs.map tI), .sh (tN ps), .sh (.int n), x3, x4, .no, .sh (tI r)]) := lc_mapL fun p hp' k => by
      simp [at0_get r p (by rw [hr r hr']; exact hp p hp')]
    simp only [tN] at *
    simp [c__law_due_1, k0, h5, Function.comp_def]
  have k1 : lcL ⟨rs.map tI, [(0, .byr (rs.map tI))]⟩ (stN 6) bYes (xPrim [.ex c__law_due_1] pTuple) [6] (rs.map tI) [.byr (rs.map tI), .sh (tN ps), .sh (.int n), x3, x4, x5, .no] = .ok (rs.map fun r => tI (ps.map fun p => at0 r p), [.byr (rs.map tI), .sh (tN ps), .sh (.int n), x3, x4, x5, .no]) := lc_mapL fun r hr' k => by
    have := inner r hr'
    simp [-List.map_map, this]
  simp [c__law_due_2, k1, gridL, Function.comp_def]
theorem pk_badP (rs : List (List Int)) (ps : List Nat) (n : Nat) (h : Pk rs n ps) : badP n (-1) (ps.map fun (p : Nat) => D.int p) 0 = none := by
  have key : ∀ (ps : List Nat) (prev : Int) (i : Nat), (∀ p ∈ ps, prev < (p : Int) ∧ p < n) → ps.Pairwise (· < ·) → badP n prev (ps.map fun (p : Nat) => D.int p) i = none := by
    intro ps
    induction ps with
    | nil => intro prev i _ _; rfl
    | cons p ps ih =>
      intro prev i h1 h2
      rw [List.pairwise_cons] at h2
      have hp := h1 p (by simp)
      show (if prev < (p : Int) ∧ (p : Int) < n then badP n p (ps.map fun (p : Nat) => D.int p) (i + 1) else some i) = none
      rw [if_pos ⟨hp.1, by omega⟩]
      exact ih p (i + 1) (fun q hq => ⟨by have := h2.1 q hq; omega, (h1 q (by simp [hq])).2⟩) h2.2
  exact key ps (-1) 0 (fun p hp => ⟨by omega, h.hp p hp⟩) h.hu
def dueV {rs : List (List Int)} {n : Nat} {d : D} : Thg rs n d → D
  | .no _ _ => .int (-1)
  | .bad _ j _ _ _ => .int (j : Nat)
  | .zero _ _ _ => .int (rs.length : Nat)
  | .good _ _ _ => .non
theorem due_ev (rs : List (List Int)) (n : Nat) (d : D) (t : Thg rs n d) (hr : ∀ r ∈ rs, r.length = n) (hl : rs.length ≤ 3) (hs : Sm 60 rs) : f__law_due [.byr (rs.map tI), .sh d, .sh (.int n)] = .ok (.sh (dueV t), [.byr (rs.map tI), .no, .no]) := by
  cases t with
  | no h hk =>
    rcases h with h | ⟨ds, rfl, h⟩
    · simp [f__law_due, g__law_due, b__law_due_0, h, dueV]
    · have h' : ¬ ((ds.length : Int) = rs.length) := by omega
      have h2 : ((ds.length : Int) == (rs.length : Int)) = false := by simpa using h'
      simp [f__law_due, g__law_due, b__law_due_0, isB, h', h2, dueV]
  | bad ds j hd hle h =>
    have en : enumD ds = ds.zipIdx.map fun p => D.tup [.int (p.2 : Nat), p.1] := by
      have := enum_map (g := id) ds
      simpa using this
    have hle' : (ds.length : Int) = rs.length := by rw [hle]
    obtain ⟨y3, y4, y5, e⟩ := (due_loop (.byr (rs.map tI)) n ds ds 0 (-1) .no .no hd rfl).2 j h
    simp [f__law_due, g__law_due, b__law_due_0, isB, hle', en, e, dueV]
  | zero ps h hz =>
    have en := tN_enum ps
    have hle' : (ps.length : Int) = rs.length := by rw [h.he]
    have nb := pk_badP rs ps n h
    have hd : ∀ d ∈ ps.map (fun (p : Nat) => D.int p), okT d = true := fun d hd => by
      obtain ⟨p, _, rfl⟩ := List.mem_map.mp hd; rfl
    obtain ⟨y3, y4, y5, e, h5⟩ := (due_loop (.byr (rs.map tI)) n (ps.map fun (p : Nat) => D.int p) (ps.map fun (p : Nat) => D.int p) 0 (-1) .no .no hd rfl).1 nb
    have gd := grid_due rs ps n hr h.hp y3 y4 y5 h5
    have hv := heavy_ev 4 (gridL rs ps) (gridL_sq h.he) (by rw [gridL_len]; exact hl) (gridL_sm hs)
    rw [hz] at hv
    have ez : ((ps.map fun (p : Nat) => D.int p).zipIdx.map fun x => D.tup [.int (x.2 : Nat), x.1]) = ps.zipIdx.map fun p => D.tup [.int (p.2 : Nat), .int (p.1 : Nat)] := by
      rw [← en]
      have := enum_map (g := id) (ps.map fun (p : Nat) => D.int p)
      simpa using this.symm
    rw [ez] at e
    simp only [tN] at *
    simp [f__law_due, g__law_due, b__law_due_0, isB, hle', en, e, gd, hv, dueV, okD]
  | good ps h hz =>
    have en := tN_enum ps
    have hle' : (ps.length : Int) = rs.length := by rw [h.he]
    have nb := pk_badP rs ps n h
    have hd : ∀ d ∈ ps.map (fun (p : Nat) => D.int p), okT d = true := fun d hd => by
      obtain ⟨p, _, rfl⟩ := List.mem_map.mp hd; rfl
    obtain ⟨y3, y4, y5, e, h5⟩ := (due_loop (.byr (rs.map tI)) n (ps.map fun (p : Nat) => D.int p) (ps.map fun (p : Nat) => D.int p) 0 (-1) .no .no hd rfl).1 nb
    have gd := grid_due rs ps n hr h.hp y3 y4 y5 h5
    have hv := heavy_ev 4 (gridL rs ps) (gridL_sq h.he) (by rw [gridL_len]; exact hl) (gridL_sm hs)
    have hz' : (dt (gridL rs ps) == 0) = false := by simpa using hz
    have ez : ((ps.map fun (p : Nat) => D.int p).zipIdx.map fun x => D.tup [.int (x.2 : Nat), x.1]) = ps.zipIdx.map fun p => D.tup [.int (p.2 : Nat), .int (p.1 : Nat)] := by
      rw [← en]
      have := enum_map (g := id) (ps.map fun (p : Nat) => D.int p)
      simpa using this.symm
    rw [ez] at e
    simp only [tN] at *
    simp [f__law_due, g__law_due, b__law_due_0, isB, hle', en, e, gd, hv, hz, hz', dueV, okD]
end Lw
end

section
namespace Lw
open PySem PySem.Spec PyProof.Rows L2 Wm
theorem fldO_row (k : D) (ρ : List SD) : fldO ["NoPicks", "NoRow"] "at" ρ (some (.xn "NoRow" [("at", k)])) = .ok (.sh k, ρ) := by
  simp [fldO]
theorem fldO_pick (k : D) (ρ : List SD) : fldO ["NoPicks", "NoRow"] "at" ρ (some (.xn "NoPicks" [("at", k)])) = .ok (.sh k, ρ) := by
  simp [fldO]
theorem fldO_many (k : D) (ρ : List SD) : fldO ["TooMany"] "many" ρ (some (.xn "TooMany" [("many", k)])) = .ok (.sh k, ρ) := by
  simp [fldO]
theorem asked_row (R d : D) (n k : Int) (h : Rf R n k) : f__law_asked [.sh R, .sh d, .sh (.int n), .sh (.tup [.lst [.bl true, .bl false, .bl false], .bl true, .int k]), .sh (.int 0)] = .ok (.sh (.bl true), [.no, .no, .no, .no, .no]) := by
  have e1 := check_rf R d n k h
  have e2 := all_rf R n k h
  obtain ⟨ρ, e3⟩ := rounds_exc R d n "NoRow" (.int k) e1
  have s2 : (2 : Nat) ≤ sizeLine := by decide
  have s3 : (3 : Nat) ≤ sizeLine := by decide
  simp [f__law_asked, g__law_asked, b__law_asked_0, g__law_said, t__law_said_0, m__law_asked_0, m__law_asked_1, m__law_asked_2, e1, e2, e3, s2, s3, pNotN, okD, fldO_row]
theorem asked_picks (R d : D) (n : Int) (k : D) (hk : okN 59 k = true) (h : f_check_picks [.sh R, .sh d, .sh (.int n)] = .exc "NoPicks" [("at", k)] [.no, .no, .no]) (he : eqD k k = true) : f__law_asked [.sh R, .sh d, .sh (.int n), .sh (.tup [.lst [.bl false, .bl true, .bl false], .bl true, k]), .sh (.int 0)] = .ok (.sh (.bl true), [.no, .no, .no, .no, .no]) := by
  obtain ⟨ρ, e3⟩ := rounds_exc R d n "NoPicks" k h
  have s2 : (2 : Nat) ≤ sizeLine := by decide
  have s3 : (3 : Nat) ≤ sizeLine := by decide
  simp [f__law_asked, g__law_asked, b__law_asked_0, g__law_said, t__law_said_0, m__law_asked_0, m__law_asked_1, h, e3, s2, s3, pNotN, okD, hk, he, fldO_pick]
end Lw
end

section
namespace Lw
open PySem PySem.Spec PyProof.Rows L2 Wm
theorem asked_good (rs : List (List Int)) (ps : List Nat) (n : Nat) (h : Pk rs n ps) (hn : n ≤ 1000) (hb : ∀ r ∈ rs, Rd.Bn 9 r) (hd : dt (gridL rs ps) ≠ 0) : f__law_asked [.sh (.lst (rs.map tI)), .sh (tN ps), .sh (.int n), .sh .non, .sh (.int ((dt (gridL rs ps)).natAbs : Int))] = .ok (.sh (.bl true), [.no, .no, .no, .no, .no]) := by
  have e1 := check_ev false rs ps n h
  rw [if_neg hd] at e1
  simp only [lsl, lso, cond_false] at e1
  have s1 : (1 : Nat) ≤ sizeLine := by decide
  have s2 : (2 : Nat) ≤ sizeLine := by decide
  have s3 : (3 : Nat) ≤ sizeLine := by decide
  have k1 : okD (.str "told") = true := by decide +kernel
  have k2 : eqD (.str "told") (.str "told") = true := by decide +kernel
  have k3 : PyData.strOk "told" = true := by decide +kernel
  by_cases h6 : 60 < (dt (gridL rs ps)).natAbs
  · have h6' : (60 : Int) < ((dt (gridL rs ps)).natAbs : Int) := by omega
    obtain ⟨ρ, e2⟩ := rounds_many rs ps n h hn hd h6
    simp [f__law_asked, g__law_asked, b__law_asked_0, g__law_said, t__law_said_0, m__law_asked_0, m__law_asked_1, e1, e2, s1, s2, s3, pNotN, pIsN, okD, fldO_many, h6', k1, k2, k3]
  · have h6' : ¬ (60 : Int) < ((dt (gridL rs ps)).natAbs : Int) := by omega
    obtain ⟨F, ρ, e2⟩ := rounds_ok rs ps n h hn hb hd (by omega)
    simp [f__law_asked, g__law_asked, b__law_asked_0, g__law_said, t__law_said_0, m__law_asked_0, m__law_asked_1, e1, e2, s1, s2, s3, pNotN, pIsN, okD, h6', k1, k2, k3]
end Lw
end

section
namespace Lw
open PySem PySem.Spec PyProof.Rows L2 Wm
theorem thg_of (rs : List (List Int)) (n : Nat) (d : D) (hr : ∀ r ∈ rs, r.length = n) (hl : rs.length ≤ 3) (hs : Sm 200 rs) (hd : okR d = true) : Nonempty (Thg rs n d) := by
  cases d with
  | tup ds =>
    have ho : ∀ x ∈ ds, okT x = true := List.all_eq_true.mp hd
    by_cases h1 : ds.length = rs.length
    · cases hb : badP n (-1) ds 0 with
      | some j => exact ⟨.bad ds j ho h1 hb⟩
      | none =>
        obtain ⟨ps, rfl, hp, hq⟩ := badP_none n ds (-1) 0 (by omega) hb
        have pk : Pk rs n ps := ⟨hr, hl, hs, hp, fun p hp' => by have := (hq p hp').2; omega, by simpa using h1⟩
        by_cases hz : dt (gridL rs ps) = 0
        · exact ⟨.zero ps pk hz⟩
        · exact ⟨.good ps pk hz⟩
    · exact ⟨.no (.inr ⟨ds, rfl, h1⟩) (.inr ⟨ds, rfl⟩)⟩
  | ins c fs => cases hd
  | scr ns => cases hd
  | non => exact ⟨.no (.inl rfl) (.inl rfl)⟩
  | bl b => exact ⟨.no (.inl rfl) (.inl rfl)⟩
  | int i => exact ⟨.no (.inl rfl) (.inl rfl)⟩
  | str x => exact ⟨.no (.inl rfl) (.inl rfl)⟩
  | lst xs => exact ⟨.no (.inl rfl) (.inl rfl)⟩
  | dct xs => exact ⟨.no (.inl rfl) (.inl rfl)⟩
/-- what is asked of a thing is told as it is due -/
theorem asked_thg (rs : List (List Int)) (n : Nat) (d : D) (t : Thg rs n d) (hr : ∀ r ∈ rs, r.length = n) (hn : n ≤ 1000) (hb : ∀ r ∈ rs, Rd.Bn 9 r) :
    (∀ k, dueV t = k → k ≠ .non → f__law_asked [.sh (.lst (rs.map tI)), .sh d, .sh (.int n), .sh (.tup [.lst [.bl false, .bl true, .bl false], .bl true, k]), .sh (.int 0)] = .ok (.sh (.bl true), [.no, .no, .no, .no, .no])) ∧
    (dueV t = .non → ∃ ps, d = tN ps ∧ Pk rs n ps ∧ f__law_asked [.sh (.lst (rs.map tI)), .sh d, .sh (.int n), .sh .non, .sh (.int ((dt (gridL rs ps)).natAbs : Int))] = .ok (.sh (.bl true), [.no, .no, .no, .no, .no])) := by
  have fin : ∀ (d : D) (k : Int), f_check_picks [.sh (.lst (rs.map tI)), .sh d, .sh (.int n)] = .exc "NoPicks" [("at", .int k)] [.no, .no, .no] → f__law_asked [.sh (.lst (rs.map tI)), .sh d, .sh (.int n), .sh (.tup [.lst [.bl false, .bl true, .bl false], .bl true, .int k]), .sh (.int 0)] = .ok (.sh (.bl true), [.no, .no, .no, .no, .no]) := fun d k h => asked_picks _ d n (.int k) (by simp) h (by simp)
  cases t with
  | no h hk =>
    have e := check_no false rs d n hr h
    simp only [lsl, lso, cond_false] at e
    exact ⟨fun k hk _ => by cases hk; exact fin d (-1) e, fun z => by cases z⟩
  | bad ds j hd hl h => exact ⟨fun k hk _ => by cases hk; exact fin _ _ (check_bad rs ds n j hr hd hl h), fun z => by cases z⟩
  | zero ps h hz =>
    have e := check_ev false rs ps n h
    rw [if_pos hz, h.he] at e
    simp only [lsl, lso, cond_false] at e
    exact ⟨fun k hk _ => by cases hk; exact fin _ _ e, fun z => by cases z⟩
  | good ps h hz => exact ⟨fun k hk hn => absurd hk.symm hn, fun _ => ⟨ps, rfl, h, asked_good rs ps n h hn hb hz⟩⟩
end Lw
end

section
namespace Lw
open PySem PySem.Spec PyProof.Rows L2 Wm
theorem pairs_nats : ∀ gs : List Nat, pairsI (gs.map fun (p : Nat) => D.tup [.int p, .bl true]) = some (gs.map fun (p : Nat) => ((p : Int), D.bl true))
  | [] => rfl
  | p :: gs => by
    show (pairsI (gs.map fun (p : Nat) => D.tup [.int p, .bl true])).map (((p : Int), D.bl true) :: ·) = _
    rw [pairs_nats gs]
    rfl
theorem okR_app {xs ys : List D} (h1 : ∀ d ∈ xs, okT d = true) (h2 : ∀ d ∈ ys, okT d = true) : okR (.tup (xs ++ ys)) = true := okR_tup fun d hd => by
  rcases List.mem_append.mp hd with h | h
  · exact h1 d h
  · exact h2 d h
theorem spoilt_ev (w : Wl) (gs : List Nat) (n : Nat) (hg : gs ≠ []) (hl : gs.length ≤ 3) (hn : n ≤ 100) : ∃ w' d, f__law_spoilt [.byr (wl w), .sh (tN gs), .sh (.int n)] = .ok (.sh d, [.byr (wl w'), .no, .no]) ∧ okR d = true := by
  have hpos := List.length_pos_iff.mpr hg
  have b1 := dr_bd w gs.length (by omega)
  have d1 := draw_ev w gs.length (by omega) (by omega)
  generalize hw1 : dw w gs.length = w1 at d1
  generalize dr w gs.length = at' at b1 d1
  have b2 := dr_bd w1 8 (by omega)
  have d2 := draw_ev w1 8 (by omega) (by omega)
  generalize dw w1 8 = w2 at d2
  generalize dr w1 8 = o1 at b2 d2
  have hp20 : CPow 10 20 := by decide
  obtain ⟨odd, ho, eo⟩ := at_mem [D.int n, D.int (-1), D.bl true, D.str "0", D.non, D.int 100000000000000000000, D.tup [.int 0], D.int 0] o1 b2.1 b2.2
  have hodd : okT odd = true := by
    simp only [List.mem_cons, List.not_mem_nil, or_false] at ho
    rcases ho with rfl | rfl | rfl | rfl | rfl | rfl | rfl | rfl <;> rfl
  have b3 := dr_bd w2 9 (by omega)
  have d3 := draw_ev w2 9 (by omega) (by omega)
  generalize dw w2 9 = w3 at d3
  generalize dr w2 9 = way at b3 d3
  have og : ∀ d ∈ gs.map (fun (p : Nat) => D.int p), okT d = true := fun d hd => by obtain ⟨p, _, rfl⟩ := List.mem_map.mp hd; rfl
  have s8 : (8 : Nat) ≤ sizeLine := by decide
  have s5 : (5 : Nat) ≤ sizeLine := by decide
  have s2 : (2 : Nat) ≤ sizeLine := by decide
  have s1 : (1 : Nat) ≤ sizeLine := by decide
  have hi := slHi_tup (gs.map fun (p : Nat) => D.int p) at' b1.1
  have lo := slLo_tup (gs.map fun (p : Nat) => D.int p) (at' + 1) (by omega)
  have lt : ((gs.map fun (p : Nat) => D.int p).take at'.toNat).length ≤ 3 := by rw [List.length_take, List.length_map]; omega
  have ld : ((gs.map fun (p : Nat) => D.int p).drop (at' + 1).toNat).length ≤ 3 := by rw [List.length_drop, List.length_map]; omega
  have ot : ∀ d ∈ (gs.map fun (p : Nat) => D.int p).take at'.toNat, okT d = true := fun d hd => og d (List.mem_of_mem_take hd)
  have od : ∀ d ∈ (gs.map fun (p : Nat) => D.int p).drop (at' + 1).toNat, okT d = true := fun d hd => og d (List.mem_of_mem_drop hd)
  generalize (gs.map fun (p : Nat) => D.int p).take at'.toNat = T at hi lt ot
  generalize (gs.map fun (p : Nat) => D.int p).drop (at' + 1).toNat = Dd at lo ld od
  have z1 : T.length + 1 ≤ sizeLine := sz (by omega)
  have z2 : T.length + 1 + Dd.length ≤ sizeLine := sz (by omega)
  have z2' : T.length + (Dd.length + 1) ≤ sizeLine := sz (by omega)
  have z3 : T.length + Dd.length ≤ sizeLine := sz (by omega)
  by_cases c1 : way < 3
  · refine ⟨w3, .tup (T ++ [odd] ++ Dd), ?_, okR_app (fun d hd => ?_) od⟩
    · simp only [tN] at *
      simp [f__law_spoilt, g__law_spoilt, d1, d2, d3, hp20, s8, eo, c1, hi, lo, z1, z2, z2', s1]
    · rcases List.mem_append.mp hd with h | h
      · exact ot d h
      · have : d = odd := by simpa using h
        rw [this]; exact hodd
  · have c1' : ¬ way < 3 := c1
    by_cases c3 : way = 3
    · subst c3
      have b4 := dr_bd w3 5 (by omega)
      have d4 := draw_ev w3 5 (by omega) (by omega)
      generalize dw w3 5 = w4 at d4
      generalize dr w3 5 = o2 at b4 d4
      have k0 : lcL ⟨gs.map fun (p : Nat) => D.int p, []⟩ (stN 6) bYes (xTup [(xVar 6), (xC (.bl true))]) [6] (gs.map fun (p : Nat) => D.int p) [.byr (wl w3), .sh (tN gs), .sh (.int n), .sh (.int at'), .sh odd, .sh (.int 3), .no] = .ok (gs.map fun (p : Nat) => D.tup [.int p, .bl true], [.byr (wl w3), .sh (tN gs), .sh (.int n), .sh (.int at'), .sh odd, .sh (.int 3), .no]) := lc_mapL fun p hp k => by
        simp [s2]
      have kc : c__law_spoilt_0 [.byr (wl w3), .sh (tN gs), .sh (.int n), .sh (.int at'), .sh odd, .sh (.int 3), .no] = .ok (.own (gs.map fun (p : Nat) => D.tup [.int p, .bl true]), [.byr (wl w3), .sh (tN gs), .sh (.int n), .sh (.int at'), .sh odd, .sh (.int 3), .no]) := by
        simp only [tN] at *
        simp [c__law_spoilt_0, k0]
      have kd : pDictP [.lst (gs.map fun (p : Nat) => D.tup [.int p, .bl true])] = .ok (.sh (.dct (mergeI [] (gs.map fun (p : Nat) => ((p : Int), D.bl true))))) := by
        show dctR (pairsI _) = _
        rw [pairs_nats]
        rfl
      generalize mergeI [] (gs.map fun (p : Nat) => ((p : Int), D.bl true)) = M at kd
      obtain ⟨x, hx, ex⟩ := at_mem [D.lst (gs.map fun (p : Nat) => D.int p), D.non, D.str "0", D.int gs.length, D.dct M] o2 b4.1 b4.2
      refine ⟨w4, x, ?_, ?_⟩
      · simp only [tN] at *
        simp [f__law_spoilt, g__law_spoilt, d1, d2, d3, d4, hp20, s8, eo, kc, kd, s1, s5, ex]
      · simp only [List.mem_cons, List.not_mem_nil, or_false] at hx
        rcases hx with rfl | rfl | rfl | rfl | rfl <;> rfl
    · by_cases c4 : way = 4
      · subst c4
        have z4 : gs.length + 1 ≤ sizeLine := sz (by omega)
        have o4 : ∀ d ∈ [D.int ((n : Int) - 1)], okT d = true := fun d hd => by
          have : d = .int ((n : Int) - 1) := by simpa using hd
          rw [this]
          rfl
        refine ⟨w3, .tup ((gs.map fun (p : Nat) => D.int p) ++ [.int ((n : Int) - 1)]), ?_, okR_app og o4⟩
        simp only [tN] at *
        simp [f__law_spoilt, g__law_spoilt, d1, d2, d3, hp20, s8, eo, s1, z4]
      · by_cases c5 : way = 5
        · subst c5
          refine ⟨w3, .tup (T ++ Dd), ?_, okR_app ot od⟩
          simp only [tN] at *
          simp [f__law_spoilt, g__law_spoilt, d1, d2, d3, hp20, s8, eo, hi, lo, z3, s1]
        · by_cases c6 : way = 6
          · subst c6
            refine ⟨w3, .tup (gs.map fun (p : Nat) => D.int p).reverse, ?_, okR_tup fun d hd => og d (by simpa using hd)⟩
            simp only [tN] at *
            simp [-List.map_reverse, f__law_spoilt, g__law_spoilt, d1, d2, d3, hp20, s8, eo, s1]
          · by_cases c7 : way = 7
            · subst c7
              obtain ⟨g0, gr, rfl⟩ : ∃ g0 gr, gs = g0 :: gr := by
                cases gs with
                | nil => exact absurd rfl hg
                | cons a b => exact ⟨a, b, rfl⟩
              have q := pMul_tup1 (D.int (g0 : Nat)) (g0 :: gr).length (by omega)
              simp only [List.length_cons] at q
              refine ⟨w3, .tup (List.replicate (gr.length + 1) (.int (g0 : Nat))), ?_, okR_tup fun d hd => by rw [(List.mem_replicate.mp hd).2]; rfl⟩
              have d1' : f__law_draw [.byr (wl w), .sh (.int ((gr.length : Int) + 1))] = .ok (.sh (.int at'), [.byr (wl w1), .no]) := d1
              simp only [tN, List.map_cons] at *
              have q' : pMul [.tup [.int (g0 : Nat)], .int ((gr.length : Int) + 1)] = .ok (.sh (.tup (List.replicate (gr.length + 1) (.int (g0 : Nat))))) := q
              simp [f__law_spoilt, g__law_spoilt, d1', d2, d3, hp20, s8, eo, s1, q']
            · refine ⟨w3, .tup (gs.map fun (p : Nat) => D.int p), ?_, okR_tup og⟩
              have q3 : (way == 3) = false := by simpa using c3
              have q4 : (way == 4) = false := by simpa using c4
              have q5 : (way == 5) = false := by simpa using c5
              have q6 : (way == 6) = false := by simpa using c6
              have q7 : (way == 7) = false := by simpa using c7
              simp only [tN] at *
              simp [f__law_spoilt, g__law_spoilt, d1, d2, d3, hp20, s8, eo, s1, c1, c3, c4, c5, c6, c7, q3, q4, q5, q6, q7]
end Lw
end

section
namespace Lw
open PySem PySem.Spec PyProof.Rows L2 Wm
abbrev rst (w : Wl) (m n : Nat) (far : Int) (x4 x5 x6 x7 x8 x9 x10 x11 x12 x13 x14 : SD) : List SD := [.byr (wl w), .sh (.int m), .sh (.int n), .sh (.int far), x4, x5, x6, x7, x8, x9, x10, x11, x12, x13, x14, .no, .no, .no]
theorem row_draw (w : Wl) (m n : Nat) (far : Int) (x12 : SD) (hn : n ≤ 100) (hf : 0 ≤ far ∧ far ≤ 9) : ∃ (r : List Int) (w' : Wl), c__law_right_0 (rst w m n far .no .no .no .no .no .no .no .no x12 .no .no) = .ok (.own (r.map D.int), rst w' m n far .no .no .no .no .no .no .no .no x12 .no .no) ∧ r.length = n ∧ ∀ x ∈ r, x.natAbs ≤ 9 := by
  have hr : rngOk (n : Int) := rgk (by omega)
  have hs : n ≤ sizeLine := sz (by omega)
  have m2 : IntMulOk 2 far := mul_okL (by decide)
  obtain ⟨r, w', e, hl, hp⟩ := lc_ints (P := fun x => x.natAbs ≤ 9) (m := ⟨(List.range n).map fun (k : Nat) => D.int k, []⟩) (st := stN 15) (test := bYes) (elt := xPrim [.ex (xCall f__law_draw [.va 0, .ex (xPrim [.ex (xPrim [.ex (xC (.int 2)), .va 3] pMul), .ex (xC (.int 1))] pAdd)]), .va 3] pSub) (vs := [15]) (ds := (List.range n).map fun (k : Nat) => D.int k) (fun w => rst w m n far .no .no .no .no .no .no .no .no x12 .no .no) (by
    intro s d _
    have hb := dr_bd s (2 * far + 1) (by omega)
    have ed := draw_ev s (2 * far + 1) (by omega) (by omega)
    refine ⟨dr s (2 * far + 1) - far, dw s (2 * far + 1), by omega, fun k => ?_⟩
    simp [rst, ed, pMul_int, m2]) w
  refine ⟨r, w', ?_, by simpa using hl, hp⟩
  simp [c__law_right_0, hr, hs, e]
theorem rows_draw (w : Wl) (m n : Nat) (far : Int) (hm : m ≤ 100) (hn : n ≤ 100) (hf : 0 ≤ far ∧ far ≤ 9) : ∃ (rs : List (List Int)) (w' : Wl), c__law_right_1 (rst w m n far .no .no .no .no .no .no .no .no .no .no .no) = .ok (.own (rs.map tI), rst w' m n far .no .no .no .no .no .no .no .no .no .no .no) ∧ rs.length = m ∧ ∀ r ∈ rs, r.length = n ∧ ∀ x ∈ r, x.natAbs ≤ 9 := by
  have hr : rngOk (m : Int) := rgk (by omega)
  have hs : m ≤ sizeLine := sz (by omega)
  obtain ⟨rs, w', e, hl, hp⟩ := lc_rows (P := fun r => r.length = n ∧ ∀ x ∈ r, x.natAbs ≤ 9) (m := ⟨(List.range m).map fun (k : Nat) => D.int k, []⟩) (st := stN 12) (test := bYes) (elt := xPrim [.ex c__law_right_0] pTuple) (vs := [12]) (ds := (List.range m).map fun (k : Nat) => D.int k) (fun w => rst w m n far .no .no .no .no .no .no .no .no .no .no .no) (by
    intro s d _
    obtain ⟨r, w1, e1, h1⟩ := row_draw s m n far (.sh d) hn hf
    refine ⟨r, w1, h1, fun k => ?_⟩
    simp [e1]) w
  refine ⟨rs, w', ?_, by simpa using hl, hp⟩
  simp [c__law_right_1, hr, hs, e]
end Lw
end

section
namespace Lw
open PySem PySem.Spec PyProof.Rows L2 Wm
theorem find_at (n : Int) (d : D) (hd : isRow d n = false) : ∀ (xs ys : List D) (k : Nat), (∀ x ∈ xs, isRow x n = true) → ((xs ++ d :: ys).zipIdx k).find? (fun x => !isRow x.1 n) = some (d, k + xs.length)
  | [], ys, k, _ => by simp [hd]
  | x :: xs, ys, k, h => by
    have hx := h x (by simp)
    rw [List.cons_append, List.zipIdx_cons, List.find?_cons]
    simp only [hx, Bool.not_true]
    rw [find_at n d hd xs ys (k + 1) fun y hy => h y (List.mem_cons_of_mem _ hy)]
    simp
    omega
theorem odd_rf (rs : List (List Int)) (n i : Nat) (d : D) (hr : ∀ r ∈ rs, r.length = n) (hi : i ≤ rs.length) (ho : okR d = true) (hd : isRow d n = false) : Rf (.lst ((rs.map tI).take i ++ [d] ++ (rs.map tI).drop i)) n i := by
  have hrow : ∀ x ∈ rs.map tI, isRow x n = true := fun x hx => by
    obtain ⟨r, hr', rfl⟩ := List.mem_map.mp hx
    rw [← hr r hr']
    exact isRow_of r
  have hok : ∀ x ∈ rs.map tI, okR x = true := fun x hx => by
    obtain ⟨r, hr', rfl⟩ := List.mem_map.mp hx
    exact okR_tup (ints_okT r)
  have e := checkr_ev ((rs.map tI).take i ++ [d] ++ (rs.map tI).drop i) n (fun x hx => by
    rcases List.mem_append.mp hx with h | h
    · rcases List.mem_append.mp h with h | h
      · exact hok x (List.mem_of_mem_take h)
      · have : x = d := by simpa using h
        rw [this]; exact ho
    · exact hok x (List.mem_of_mem_drop h))
  have f := find_at n d hd ((rs.map tI).take i) ((rs.map tI).drop i) 0 fun x hx => hrow x (List.mem_of_mem_take hx)
  rw [List.append_assoc, List.singleton_append, f] at e
  unfold Rf
  rw [List.append_assoc, List.singleton_append, e]
  have : 0 + ((rs.map tI).take i).length = i := by rw [List.length_take, List.length_map]; omega
  simp only [this]
end Lw
end

section
namespace Lw
open PySem PySem.Spec PyProof.Rows L2 Wm
abbrev tur (w : Wl) (m n : Nat) (far : Int) (rs : List (List Int)) (gs : List Nat) (x6 x7 x8 x9 x10 x11 x13 x14 : SD) : List SD := rst w m n far (.own (rs.map tI)) (.sh (tN gs)) x6 x7 x8 x9 x10 x11 .no x13 x14
theorem grid_right (w : Wl) (m n : Nat) (far : Int) (rs : List (List Int)) (gs ps : List Nat) (x6 x8 x9 x10 x11 x13 x14 : SD) (hr : ∀ r ∈ rs, r.length = n) (hp : ∀ p ∈ ps, p < n) : c__law_right_3 (tur w m n far rs gs x6 (.sh (tN ps)) x8 x9 x10 x11 x13 x14) = .ok (.own ((gridL rs ps).map tI), tur w m n far rs gs x6 (.sh (tN ps)) x8 x9 x10 x11 x13 x14) := by
  have inner : ∀ r ∈ rs, c__law_right_2 [.byr (wl w), .sh (.int m), .sh (.int n), .sh (.int far), .own (rs.map tI), .sh (tN gs), x6, .sh (tN ps), x8, x9, x10, x11, .no, x13, x14, .no, .sh (tI r), .no] = .ok (.own ((ps.map fun p => at0 r p).map D.int), [.byr (wl w), .sh (.int m), .sh (.int n), .sh (.int far), .own (rs.map tI), .sh (tN gs), x6, .sh (tN ps), x8, x9, x10, x11, .no, x13, x14, .no, .sh (tI r), .no]) := fun r hr' => by
    have k0 : lcL ⟨ps.map fun (p : Nat) => D.int p, []⟩ (stN 17) bYes (xPrim [.va 16, .va 17] pIx) [17] (ps.map fun (p : Nat) => D.int p) [.byr (wl w), .sh (.int m), .sh (.int n), .sh (.int far), .own (rs.map tI), .sh (tN gs), x6, .sh (tN ps), x8, x9, x10, x11, .no, x13, x14, .no, .sh (tI r), .no] = .ok (ps.map fun p => D.int (at0 r p), [.byr (wl w), .sh (.int m), .sh (.int n), .sh (.int far), .own (rs.map tI), .sh (tN gs), x6, .sh (tN ps), x8, x9, x10, x11, .no, x13, x14, .no, .sh (tI r), .no]) := lc_mapL fun p hp' k => by
      simp [at0_get r p (by rw [hr r hr']; exact hp p hp')]
    simp only [tN] at *
    simp [c__law_right_2, k0, Function.comp_def]
  have k1 : lcL ⟨rs.map tI, [(4, .own (rs.map tI))]⟩ (stN 16) bYes (xPrim [.ex c__law_right_2] pTuple) [16] (rs.map tI) (tur w m n far rs gs x6 (.sh (tN ps)) x8 x9 x10 x11 x13 x14) = .ok (rs.map fun r => tI (ps.map fun p => at0 r p), tur w m n far rs gs x6 (.sh (tN ps)) x8 x9 x10 x11 x13 x14) := lc_mapL fun r hr' k => by
    have := inner r hr'
    simp [-List.map_map, this]
  simp [c__law_right_3, k1, gridL, Function.comp_def]
end Lw
end

section
namespace Lw
open PySem PySem.Spec PyProof.Rows L2 Wm
theorem half_ev (w : Wl) (m n : Nat) (far : Int) (rs : List (List Int)) (gs : List Nat) (k : D) (x7 x8 x9 x10 x11 x13 x14 : SD) (hr : ∀ r ∈ rs, r.length = n ∧ ∀ x ∈ r, x.natAbs ≤ 9) (hm : rs.length = m) (m1 : 1 ≤ m) (m3 : m ≤ 3) (hn : n ≤ 6) (hg : gs.length = m) (g : Ss) :
    ∃ w' y7 y8 y9 y13 y14, sSeq (sSet 7 (xCall f__law_spoilt [.va 0, .va 5, .va 2]))
    (sSeq (sSet 8 (xCall f__law_due [.va 4, .va 7, .va 2]))
    (sSeq (sTup [13, 14] (xTup [(xC .non), (xC (.int 0))]))
    (sSeq (sIf (bT (xPrim [.va 8, .ex (xC .non)] pNotN)) (sSet 13 (xTup [(xLst [(xC (.bl false)), (xC (.bl true)), (xC (.bl false))]), (xC (.bl true)), (xVar 8)])) (sSet 14 (xPrim [.ex (xCall (fr__law_heavy 8) [.ex c__law_right_3])] pAbs)))
    (sSeq (sSet 9 (xPrim [.va 4] pList))
    (sSeq (sIf b__law_right_0 (sRet (xC (.bl false))) sNil) g))))) (tur w m n far rs gs (.sh k) x7 x8 x9 x10 x11 x13 x14) = g (tur w' m n far rs gs (.sh k) (.sh y7) y8 y9 x10 x11 y13 y14) ∧ okR y7 = true := by
  have hl : ∀ r ∈ rs, r.length = n := fun r h => (hr r h).1
  have hb : ∀ r ∈ rs, Rd.Bn 9 r := fun r h => (hr r h).2
  have hs : Sm 60 rs := fun r h x hx => Nat.lt_of_le_of_lt ((hr r h).2 x hx) (by decide)
  obtain ⟨w', d, es, hd⟩ := spoilt_ev w gs n (fun z => by subst z; simp at hg; omega) (by omega) (by omega)
  obtain ⟨t⟩ := thg_of rs n d hl (by omega) (hs.mono (by omega)) hd
  have ed := due_ev rs n d t hl (by omega) hs
  obtain ⟨a1, a2⟩ := asked_thg rs n d t hl (by omega) hb
  have s2 : (2 : Nat) ≤ sizeLine := by decide
  have s3 : (3 : Nat) ≤ sizeLine := by decide
  have q1 : okNs 59 (rs.map tI) = true := okNs_rows 58 rs
  have q2 : eqDs (rs.map tI) (rs.map tI) = true := by
    have : ∀ ss : List (List Int), eqDs (ss.map tI) (ss.map tI) = true := fun ss => by
      induction ss with
      | nil => rfl
      | cons r ss ih =>
        simp only [List.map_cons, eqDs_cons, ih, Bool.and_true]
        rw [eqD_tI]; simp
    exact this rs
  cases hv : dueV t with
  | int j =>
    have a := a1 (.int j) hv (by simp)
    rw [hv] at ed
    refine ⟨w', d, .sh (.int j), .sh (.lst (rs.map tI)), .sh (.tup [.lst [.bl false, .bl true, .bl false], .bl true, .int j]), .sh (.int 0), ?_, hd⟩
    rw [seq_nx (ρ' := tur w' m n far rs gs (.sh k) (.sh d) x8 x9 x10 x11 x13 x14) (by simp [es]), seq_nx (ρ' := tur w' m n far rs gs (.sh k) (.sh d) (.sh (.int j)) x9 x10 x11 x13 x14) (by simp [ed]), seq_nx (ρ' := tur w' m n far rs gs (.sh k) (.sh d) (.sh (.int j)) x9 x10 x11 (.sh .non) (.sh (.int 0))) (by simp [s2]),
      seq_nx (ρ' := tur w' m n far rs gs (.sh k) (.sh d) (.sh (.int j)) x9 x10 x11 (.sh (.tup [.lst [.bl false, .bl true, .bl false], .bl true, .int j])) (.sh (.int 0))) (by simp [s3, pNotN]), seq_nx (ρ' := tur w' m n far rs gs (.sh k) (.sh d) (.sh (.int j)) (.own (rs.map tI)) x10 x11 (.sh (.tup [.lst [.bl false, .bl true, .bl false], .bl true, .int j])) (.sh (.int 0))) (by simp),
      seq_nx (ρ' := tur w' m n far rs gs (.sh k) (.sh d) (.sh (.int j)) (.sh (.lst (rs.map tI))) x10 x11 (.sh (.tup [.lst [.bl false, .bl true, .bl false], .bl true, .int j])) (.sh (.int 0))) (by simp [b__law_right_0, a, q1, q2, okD])]
  | non =>
    obtain ⟨ps, rfl, pk, a⟩ := a2 hv
    rw [hv] at ed
    have gr := grid_right w' m n far rs gs ps (.sh k) (.sh .non) x9 x10 x11 (.sh .non) (.sh (.int 0)) hl pk.hp
    have hvy := heavy_ev 4 (gridL rs ps) (gridL_sq pk.he) (by rw [gridL_len]; omega) (gridL_sm hs)
    refine ⟨w', tN ps, .sh .non, .sh (.lst (rs.map tI)), .sh .non, .sh (.int ((dt (gridL rs ps)).natAbs : Int)), ?_, hd⟩
    rw [seq_nx (ρ' := tur w' m n far rs gs (.sh k) (.sh (tN ps)) x8 x9 x10 x11 x13 x14) (by simp [es]), seq_nx (ρ' := tur w' m n far rs gs (.sh k) (.sh (tN ps)) (.sh .non) x9 x10 x11 x13 x14) (by simp [ed]), seq_nx (ρ' := tur w' m n far rs gs (.sh k) (.sh (tN ps)) (.sh .non) x9 x10 x11 (.sh .non) (.sh (.int 0))) (by simp [s2]),
      seq_nx (ρ' := tur w' m n far rs gs (.sh k) (.sh (tN ps)) (.sh .non) x9 x10 x11 (.sh .non) (.sh (.int ((dt (gridL rs ps)).natAbs : Int)))) (by simp [pNotN, gr, hvy]), seq_nx (ρ' := tur w' m n far rs gs (.sh k) (.sh (tN ps)) (.sh .non) (.own (rs.map tI)) x10 x11 (.sh .non) (.sh (.int ((dt (gridL rs ps)).natAbs : Int)))) (by simp),
      seq_nx (ρ' := tur w' m n far rs gs (.sh k) (.sh (tN ps)) (.sh .non) (.sh (.lst (rs.map tI))) x10 x11 (.sh .non) (.sh (.int ((dt (gridL rs ps)).natAbs : Int)))) (by simp [b__law_right_0, a, q1, q2, okD])]
  | _ => cases t <;> cases hv
end Lw
end

section
namespace Lw
open PySem PySem.Spec PyProof.Rows L2 Wm
theorem rest_ev (w : Wl) (m n : Nat) (far : Int) (rs : List (List Int)) (gs : List Nat) (k d : D) (x8 x9 x10 x11 x13 x14 : SD) (hr : ∀ r ∈ rs, r.length = n) (hm : rs.length = m) (m1 : 1 ≤ m) (m3 : m ≤ 3) (n1 : 1 ≤ n) (hn : n ≤ 6) :
    ∃ w' y10 y11, sSeq (sSet 10 (xCall f__law_draw [.va 0, .va 1]))
    (sSeq (sSet 11 (xPrim [.ex (xLst [(xC .non), (xPrim [.ex (xPrim [.va 4, .ex (xC (.int 0))] pIx)] pList), (xPrim [.ex (xPrim [.va 4, .ex (xC (.int 0))] pIx), .ex (xTup [(xC (.int 1))])] pAdd), (xPrim [.ex (xPrim [.va 4, .ex (xC (.int 0))] pIx), .ex (xC (.int 1))] pSlLo), (xPrim [.ex (xTup [(xC (.bl true))]), .va 2] pMul), (xPrim [.ex (xTup [(xC (.str "0"))]), .va 2] pMul), (xC (.int 5))]), .ex (xCall f__law_draw [.va 0, .ex (xC (.int 7))])] pIx))
    (sIf b__law_right_1 (sRet (xC (.bl false))) sNil)) (tur w m n far rs gs (.sh k) (.sh d) x8 x9 x10 x11 x13 x14) = .ok (.nx (tur w' m n far rs gs (.sh k) (.sh d) x8 x9 y10 y11 x13 x14)) := by
  have b1 := dr_bd w m (by omega)
  have d1 := draw_ev w m (by omega) (by omega)
  generalize dw w m = w1 at d1
  obtain ⟨sp, hsp⟩ : ∃ sp : Nat, dr w m = (sp : Int) := ⟨(dr w m).toNat, by omega⟩
  rw [hsp] at b1 d1
  have b2 := dr_bd w1 7 (by omega)
  have d2 := draw_ev w1 7 (by omega) (by omega)
  generalize dw w1 7 = w2 at d2
  generalize dr w1 7 = o at b2 d2
  obtain ⟨r0, rr, hrs⟩ : ∃ r0 rr, rs = r0 :: rr := by
    cases rs with
    | nil => simp at hm; omega
    | cons a b => exact ⟨a, b, rfl⟩
  have l0 : r0.length = n := hr r0 (by rw [hrs]; simp)
  have a0 : atI (rs.map tI) 0 = some (tI r0) := by
    apply atI_at _ _ _ (by omega)
    rw [hrs]; rfl
  have q1 := pMul_tup1 (D.bl true) n (by omega)
  have q2 := pMul_tup1 (D.str "0") n (by omega)
  have z1 : r0.length + 1 ≤ sizeLine := sz (by omega)
  have s1 : (1 : Nat) ≤ sizeLine := by decide
  have s3 : (3 : Nat) ≤ sizeLine := by decide
  have s7 : (7 : Nat) ≤ sizeLine := by decide
  have lo := lo_t (r0.map D.int)
  obtain ⟨x, hx, ex⟩ := at_mem [D.non, D.lst (r0.map D.int), D.tup (r0.map D.int ++ [.int 1]), D.tup ((r0.map D.int).drop 1), D.tup (List.replicate n (.bl true)), D.tup (List.replicate n (.str "0")), D.int 5] o b2.1 b2.2
  have hox : okR x = true ∧ isRow x n = false := by
    obtain ⟨n', rfl⟩ : ∃ n', n = n' + 1 := ⟨n - 1, by omega⟩
    simp only [List.mem_cons, List.not_mem_nil, or_false] at hx
    rcases hx with rfl | rfl | rfl | rfl | rfl | rfl | rfl
    · exact ⟨rfl, rfl⟩
    · exact ⟨rfl, rfl⟩
    · have o1 : ∀ d ∈ [D.int 1], okT d = true := fun d hd => by
        have : d = .int 1 := by simpa using hd
        rw [this]
        rfl
      exact ⟨okR_app (ints_okT r0) o1, by simp [isRow, l0]; omega⟩
    · exact ⟨okR_tup fun d hd => ints_okT r0 d (List.mem_of_mem_drop hd), by simp only [isRow, List.length_drop, List.length_map, l0]; rw [decide_eq_false (by omega)]; rfl⟩
    · exact ⟨okR_tup fun d hd => by rw [(List.mem_replicate.mp hd).2]; rfl, by simp [isRow, List.replicate_succ, isWh]⟩
    · exact ⟨okR_tup fun d hd => by rw [(List.mem_replicate.mp hd).2]; rfl, by simp [isRow, List.replicate_succ, isWh]⟩
    · exact ⟨rfl, rfl⟩
  have rf := odd_rf rs n sp x hr (by omega) hox.1 hox.2
  have as := asked_row _ d n sp rf
  have hi := hi_n (rs.map tI) sp
  have lo2 := lo_n (rs.map tI) sp
  have z2 : min sp rs.length + 1 ≤ sizeLine := sz (by omega)
  have z3 : min sp rs.length + 1 + (rs.length - sp) ≤ sizeLine := sz (by omega)
  rw [List.drop_one] at ex
  refine ⟨w2, .sh (.int sp), .sh x, ?_⟩
  rw [seq_nx (ρ' := tur w1 m n far rs gs (.sh k) (.sh d) x8 x9 (.sh (.int sp)) x11 x13 x14) (by simp [d1]), seq_nx (ρ' := tur w2 m n far rs gs (.sh k) (.sh d) x8 x9 (.sh (.int sp)) (.sh x) x13 x14) (by simp [a0, z1, s1, lo, q1, q2, s7, d2, ex])]
  simp [b__law_right_1, hi, lo2, s1, s3, z2, z3]
  simp at as
  simp [as]
end Lw
end

section
namespace Lw
open PySem PySem.Spec PyProof.Rows L2 Wm
theorem turns_ev (w : Wl) (m n : Nat) (far : Int) (rs : List (List Int)) (gs : List Nat) (hr : ∀ r ∈ rs, r.length = n ∧ ∀ x ∈ r, x.natAbs ≤ 9) (hm : rs.length = m) (m1 : 1 ≤ m) (m3 : m ≤ 3) (n1 : 1 ≤ n) (hn : n ≤ 6) (hg : gs.length = m) :
    ∃ w' y6 y7 y8 y9 y10 y11 y13 y14, forL (stN 6) l__law_right_4 ((List.range 5).map fun (k : Nat) => D.int k) (tur w m n far rs gs .no .no .no .no .no .no .no .no) = .ok (.nx (tur w' m n far rs gs y6 y7 y8 y9 y10 y11 y13 y14)) := by
  obtain ⟨ρ', ⟨w', y6, y7, y8, y9, y10, y11, y13, y14, rfl⟩, e⟩ := for_rgx (st := stN 6) (body := l__law_right_4) (n := 5) (g := fun (k : Nat) => D.int k) (ρ := tur w m n far rs gs .no .no .no .no .no .no .no .no)
    (fun i ρ => ∃ w' y6 y7 y8 y9 y10 y11 y13 y14, ρ = tur w' m n far rs gs y6 y7 y8 y9 y10 y11 y13 y14) (by
      rintro k _ hk ⟨w', y6, y7, y8, y9, y10, y11, y13, y14, rfl⟩
      obtain ⟨w1, z7, z8, z9, z13, z14, e1, _⟩ := half_ev w' m n far rs gs (.int k) y7 y8 y9 y10 y11 y13 y14 hr hm m1 m3 hn hg _
      obtain ⟨w2, z10, z11, e2⟩ := rest_ev w1 m n far rs gs (.int k) z7 z8 z9 y10 y11 z13 z14 (fun r h => (hr r h).1) hm m1 m3 n1 hn
      refine ⟨_, ⟨w2, .sh (.int k), .sh z7, z8, z9, z10, z11, z13, z14, rfl⟩, fun kk => ?_⟩
      have e : l__law_right_4 (tur w' m n far rs gs (.sh (.int k)) y7 y8 y9 y10 y11 y13 y14) = .ok (.nx (tur w2 m n far rs gs (.sh (.int k)) (.sh z7) z8 z9 z10 z11 z13 z14)) := e1.trans e2
      simp [e]) ⟨w, .no, .no, .no, .no, .no, .no, .no, .no, rfl⟩
  exact ⟨w', y6, y7, y8, y9, y10, y11, y13, y14, e⟩
end Lw
end

section
namespace Lw
open PySem PySem.Spec PyProof.Rows L2 Wm
def TrF (r : Rs (SD × List SD)) : Prop := ∃ w', r = .ok (.sh (.bl true), [.byr (wl w')])
theorem right_ev (w : Wl) : TrF (f__law_right [.byr (wl w)]) := by
  have b1 := dr_bd w 3 (by omega)
  have d1 := draw_ev w 3 (by omega) (by omega)
  obtain ⟨m, hm⟩ : ∃ m : Nat, 1 + dr w 3 = (m : Int) := ⟨(1 + dr w 3).toNat, by omega⟩
  generalize dw w 3 = w1 at d1
  have b2 := dr_bd w1 (6 - m) (by omega)
  have d2 := draw_ev w1 (6 - m) (by omega) (by omega)
  obtain ⟨n, hn⟩ : ∃ n : Nat, (m : Int) + dr w1 (6 - m) = (n : Int) := ⟨((m : Int) + dr w1 (6 - m)).toNat, by omega⟩
  generalize dw w1 (6 - m) = w2 at d2
  have b3 := dr_bd w2 4 (by omega)
  have d3 := draw_ev w2 4 (by omega) (by omega)
  obtain ⟨far, hf, ef⟩ : ∃ far : Int, (0 ≤ far ∧ far ≤ 9) ∧ atI [D.int 1, D.int 2, D.int 3, D.int 9] (dr w2 4) = some (.int far) := by
    obtain ⟨x, hx, e⟩ := at_mem [D.int 1, D.int 2, D.int 3, D.int 9] (dr w2 4) b3.1 b3.2
    simp only [List.mem_cons, List.not_mem_nil, or_false] at hx
    rcases hx with rfl | rfl | rfl | rfl
    · exact ⟨1, by omega, e⟩
    · exact ⟨2, by omega, e⟩
    · exact ⟨3, by omega, e⟩
    · exact ⟨9, by omega, e⟩
  generalize dw w2 4 = w3 at d3
  obtain ⟨rs, w4, e4, hl, hr⟩ := rows_draw w3 m n far (by omega) (by omega) hf
  have er : pLrg1 [.int (n : Int)] = .ok (.own ((List.range n).map fun (p : Nat) => D.int p)) := rgLst_nat (n := n) (by omega)
  have es := lo_n ((List.range n).map fun (p : Nat) => D.int p) (n - m)
  rw [show ((n - m : Nat) : Int) = (n : Int) - m by omega, ← List.map_drop] at es
  obtain ⟨gs, hgs⟩ : ∃ gs, (List.range n).drop (n - m) = gs := ⟨_, rfl⟩
  have lg : gs.length = m := by rw [← hgs]; simp; omega
  rw [hgs] at es
  obtain ⟨w5, y6, y7, y8, y9, y10, y11, y13, y14, e5⟩ := turns_ev w4 m n far rs gs hr hl (by omega) (by omega) (by omega) (by omega) lg
  have rf : Rf (.tup (rs.map tI)) n 0 := rf_no _ _ rfl
  have as := asked_row (.tup (rs.map tI)) (tN gs) n 0 rf
  have s3 : (3 : Nat) ≤ sizeLine := by decide
  have s4 : (4 : Nat) ≤ sizeLine := by decide
  have g5 : rngOk (5 : Int) := rgk (m := 5) (by omega)
  have s5 : (5 : Nat) ≤ sizeLine := by decide
  refine ⟨w5, ?_⟩
  simp only [tur, rst, tN] at *
  simp [f__law_right, g__law_right, d1, hm, d2, hn, d3, ef, s4, e4, er, es, g5, s5, e5, as, s3]
end Lw
end

section
namespace Lw
open PySem PySem.Spec PyProof.Rows L2 Wm
theorem cells_ev (ns : List Int) : ∀ (ds : List (Int × Nat)) (x1 x2 : SD), (∀ p ∈ ds, p.2 ≤ 100) → ∃ x1' x2', forL (stT [1, 2]) l_law_0 (ds.map fun p => D.tup [.int (p.2 : Nat), .int p.1]) [.sh (.scr ns), x1, x2] = .ok (.nx [.sh (.scr ns), x1', x2'])
  | [], x1, x2, _ => ⟨x1, x2, rfl⟩
  | (c, i) :: ds, x1, x2, h => by
    obtain ⟨x1', x2', e⟩ := cells_ev ns ds (.sh (.int (i : Nat))) (.sh (.int c)) fun p hp => h p (List.mem_cons_of_mem _ hp)
    refine ⟨x1', x2', ?_⟩
    have hi := h (c, i) (by simp)
    have hi : i ≤ 100 := hi
    have hp : CPow 10 18 := by decide
    have k1 : IntMulOk c (if 1000000000000000000 ≤ c then 1 else 0) := mul_okR (by split <;> decide)
    have k2 : ∀ y, IntMulOk 7919 y := fun y => mul_okL (by decide)
    have hs3 : (3 : Nat) ≤ sizeLine := by decide
    obtain ⟨W, rv⟩ : ∃ W : Int → Int → Int → Wl, ∀ a b c, f__law_right [.byr [.int a, .int b, .int c]] = .ok (.sh (.bl true), [.byr (wl (W a b c))]) := ⟨fun a b c => Classical.choose (right_ev ⟨a, b, c⟩), fun a b c => Classical.choose_spec (right_ev ⟨a, b, c⟩)⟩
    rw [← e, List.map_cons, forL_cons]
    simp [l_law_0, b_law_0, hp, pMul_int, k1, k2, hs3, rv]
theorem law_true (ns : List Int) (hl : ns.length ≤ 63) : ∃ ρ, f_law [.sh (.scr ns)] = .ok (.sh (.bl true), ρ) := by
  have hs1 : (1 : Nat) ≤ sizeLine := by decide
  have hs2 : (2 : Nat) ≤ sizeLine := by decide
  have hsn : ns.length + 1 ≤ sizeLine := sz (by omega)
  have hcut : pSlHi [.lst (ns.map D.int ++ [.int 0]), .int 6] = .ok (.own (((ns ++ [0]).take 6).map D.int)) := by
    rw [slHi_lst _ _ (by omega)]
    simp
  have hen : enumD (((ns ++ [0]).take 6).map D.int) = (((ns ++ [0]).take 6).zipIdx).map (fun (p : Int × Nat) => D.tup [.int (p.2 : Nat), .int p.1]) := enum_map _
  obtain ⟨x1, x2, e⟩ := cells_ev ns ((ns ++ [0]).take 6).zipIdx .no .no (fun p hp => by
    have := (List.mem_zipIdx_iff_getElem?.mp hp)
    have := (List.getElem?_eq_some_iff.mp this).1
    simp at this
    omega)
  have hrow : ∀ r ∈ [[(8 : Int), 0], [0, -7]], r.length = 2 ∧ ∀ x ∈ r, x.natAbs ≤ 9 := by decide
  have pk : Pk [[8, 0], [0, -7]] 2 [0, 1] := ⟨fun r h => (hrow r h).1, by decide, fun r h x hx => Nat.lt_of_le_of_lt ((hrow r h).2 x hx) (by decide +kernel), by decide, by decide, rfl⟩
  have dv : dt (gridL [[8, 0], [0, -7]] [0, 1]) = -56 := by decide +kernel
  obtain ⟨F, ρ, er⟩ := rounds_ok [[8, 0], [0, -7]] [0, 1] 2 pk (by omega) (fun r h => (hrow r h).2) (by rw [dv]; decide) (by rw [dv]; decide)
  have er' : ∃ (c g : D), f_Rounds_init [.lst [.tup [.int 8, .int 0], .tup [.int 0, .int (-7)]], .tup [.int 0, .int 1], .int 2] = .ok ([("columns", c), ("chosen_ones", tN [0, 1]), ("grid", g), ("heavy", .int (dt (gridL [[8, 0], [0, -7]] [0, 1]))), ("stairs", .lst (F.map tI))], ρ) := ⟨_, _, er⟩
  rw [dv] at er'
  obtain ⟨c0, g0, er'⟩ := er'
  refine ⟨[.no], ?_⟩
  simp [-List.map_take, f_law, g_law, hs1, hs2, hsn, hcut, hen, e, er', f_Rounds_size, g_Rounds_size, okD]
end Lw
end

section
namespace Lw
open PySem PySem.Spec PyProof.Rows L2 Wm
abbrev P : Program := PySem.Challenge.rw_waymoves_k41_what_are_no_picks.prog
theorem all_mk {w : World} {K : PySem.W.Frag} {h : Heap} {mg : Str → Option Value} {fa : Addr} (LT : ∀ ns : List Int, ns.length ≤ 63 → ∃ ρ, f_law [.sh (.scr ns)] = .ok (.sh (.bl true), ρ)) (X : K.In h) (G : h.Ns mainGlobals mg) (hfa : mg "law" = some (.ref fa))
    {x0 : Addr} {oc0 kV0 dc0 pm0 cd0 ct0 : Value} {od0 an0 : Option Addr} {sl0 : Array (Option Value)}
    {CP0 : Addr}
    {x1 : Addr} {oc1 kV1 dc1 pm1 cd1 ct1 : Value} {od1 an1 : Option Addr} {sl1 : Array (Option Value)}
    {x2 : Addr} {oc2 kV2 dc2 pm2 cd2 ct2 : Value} {od2 an2 : Option Addr} {sl2 : Array (Option Value)}
    {x3 : Addr} {oc3 kV3 dc3 pm3 cd3 ct3 : Value} {od3 an3 : Option Addr} {sl3 : Array (Option Value)}
    {x4 : Addr} {oc4 kV4 dc4 pm4 cd4 ct4 : Value} {od4 an4 : Option Addr} {sl4 : Array (Option Value)}
    {x5 : Addr} {oc5 kV5 dc5 pm5 cd5 ct5 : Value} {od5 an5 : Option Addr} {sl5 : Array (Option Value)}
    {x6 : Addr} {oc6 kV6 dc6 pm6 cd6 ct6 : Value} {od6 an6 : Option Addr} {sl6 : Array (Option Value)}
    {x7 : Addr} {oc7 kV7 dc7 pm7 cd7 ct7 : Value} {od7 an7 : Option Addr} {sl7 : Array (Option Value)}
    {x8 : Addr} {oc8 kV8 dc8 pm8 cd8 ct8 : Value} {od8 an8 : Option Addr} {sl8 : Array (Option Value)}
    {x9 Dk9 : Addr} {oc9  dc9 pm9 cd9 ct9 : Value} {od9 an9 : Option Addr} {sl9 : Array (Option Value)}
    {t9_many : Tok}
    {x10 : Addr} {oc10 kV10 dc10 pm10 cd10 ct10 : Value} {od10 an10 : Option Addr} {sl10 : Array (Option Value)}
    {x11 : Addr} {oc11 kV11 dc11 pm11 cd11 ct11 : Value} {od11 an11 : Option Addr} {sl11 : Array (Option Value)}
    {x12 : Addr} {oc12 kV12 dc12 pm12 cd12 ct12 : Value} {od12 an12 : Option Addr} {sl12 : Array (Option Value)}
    {x13 : Addr} {oc13 kV13 dc13 pm13 cd13 ct13 : Value} {od13 an13 : Option Addr} {sl13 : Array (Option Value)}
    {x14 : Addr} {oc14 kV14 dc14 pm14 cd14 ct14 : Value} {od14 an14 : Option Addr} {sl14 : Array (Option Value)}
    {x15 : Addr} {oc15 kV15 dc15 pm15 cd15 ct15 : Value} {od15 an15 : Option Addr} {sl15 : Array (Option Value)}
    {x16 : Addr} {oc16 kV16 dc16 pm16 cd16 ct16 : Value} {od16 an16 : Option Addr} {sl16 : Array (Option Value)}
    {x17 : Addr} {oc17 kV17 dc17 pm17  ct17 : Value} {od17 an17 : Option Addr} {sl17 : Array (Option Value)}
    {cc17 pp17 : Addr} {odc17 : Option Addr} {vsc17 : Array Value} {slc17 : Array (Option Value)}
    {x18 : Addr} {oc18 kV18 dc18 pm18 cd18 ct18 : Value} {od18 an18 : Option Addr} {sl18 : Array (Option Value)}
    {x19 : Addr} {oc19 kV19 dc19 pm19 cd19 ct19 : Value} {od19 an19 : Option Addr} {sl19 : Array (Option Value)}
    {x20 : Addr} {oc20 kV20 dc20 pm20 cd20 ct20 : Value} {od20 an20 : Option Addr} {sl20 : Array (Option Value)}
    {x21 : Addr} {oc21 kV21 dc21 pm21 cd21 ct21 : Value} {od21 an21 : Option Addr} {sl21 : Array (Option Value)}
    {x22 : Addr} {oc22 kV22 dc22 pm22 cd22 ct22 : Value} {od22 an22 : Option Addr} {sl22 : Array (Option Value)}
    {x23 : Addr} {oc23 kV23 dc23 pm23 cd23 ct23 : Value} {od23 an23 : Option Addr} {sl23 : Array (Option Value)}
    {CW : Addr}
    {C0 fI0 NN0 : Addr} {nm0 qq0 : Str} {bs0 sub0 : List Value} {sn0 : List Str} {ab0 : Bool} {col0 : Option Bool} {dd0 : Option Addr} {ma0 mb0 mc0 md0 me0 : Option Value} {ioc0 ikV0 idc0 ipm0 icd0 ict0 : Value} {iod0 ian0 : Option Addr} {isl0 : Array (Option Value)}
    {C1 fI1 NN1 : Addr} {nm1 qq1 : Str} {bs1 sub1 : List Value} {sn1 : List Str} {ab1 : Bool} {col1 : Option Bool} {dd1 : Option Addr} {ma1 mb1 mc1 md1 me1 : Option Value} {ioc1 ikV1 idc1 ipm1 icd1 ict1 : Value} {iod1 ian1 : Option Addr} {isl1 : Array (Option Value)}
    {C2 fI2 NN2 : Addr} {nm2 qq2 : Str} {bs2 sub2 : List Value} {sn2 : List Str} {ab2 : Bool} {col2 : Option Bool} {dd2 : Option Addr} {ma2 mb2 mc2 md2 me2 : Option Value} {ioc2 ikV2 idc2 ipm2 icd2 ict2 : Value} {iod2 ian2 : Option Addr} {isl2 : Array (Option Value)}
    {tg_MOST_ELEMENTS : Tok}
    (aP0 : PySem.W.nsIn K mainGlobals "Rounds" = some (some (.ref CP0)))
    (fm0 : PySem.W.findIn K (.ref CP0) "size" = some (some (.ref x0)))
    (ff0 : PySem.W.isFn K (.ref x0) = true)
    (l0 : K.lookup x0 = some ⟨oc0, od0, .func (PySem.W.fnOf "size" "Rounds.size" (defArgs s_Rounds_size) (defBody s_Rounds_size) (defScope s_Rounds_size) .none kV0 dc0 pm0 an0 cd0 ct0), sl0⟩)
    (c0 : PySem.W.codeIn K cd0 "Rounds.size" = true)
    (k0 : PySem.W.keepIn K (.ref x0) = true)
    (a1 : PySem.W.nsIn K mainGlobals "_law_said" = some (some (.ref x1)))
    (l1 : K.lookup x1 = some ⟨oc1, od1, .func (PySem.W.fnOf "_law_said" "_law_said" (defArgs s__law_said) (defBody s__law_said) (defScope s__law_said) .none kV1 dc1 pm1 an1 cd1 ct1), sl1⟩)
    (c1 : PySem.W.codeIn K cd1 "_law_said" = true)
    (k1 : PySem.W.keepIn K (.ref x1) = true)
    (a2 : PySem.W.nsIn K mainGlobals "is_whole" = some (some (.ref x2)))
    (l2 : K.lookup x2 = some ⟨oc2, od2, .func (PySem.W.fnOf "is_whole" "is_whole" (defArgs s_is_whole) (defBody s_is_whole) (defScope s_is_whole) .none kV2 dc2 pm2 an2 cd2 ct2), sl2⟩)
    (c2 : PySem.W.codeIn K cd2 "is_whole" = true)
    (k2 : PySem.W.keepIn K (.ref x2) = true)
    (a3 : PySem.W.nsIn K mainGlobals "is_row" = some (some (.ref x3)))
    (l3 : K.lookup x3 = some ⟨oc3, od3, .func (PySem.W.fnOf "is_row" "is_row" (defArgs s_is_row) (defBody s_is_row) (defScope s_is_row) .none kV3 dc3 pm3 an3 cd3 ct3), sl3⟩)
    (c3 : PySem.W.codeIn K cd3 "is_row" = true)
    (k3 : PySem.W.keepIn K (.ref x3) = true)
    (a4 : PySem.W.nsIn K mainGlobals "check_rows" = some (some (.ref x4)))
    (l4 : K.lookup x4 = some ⟨oc4, od4, .func (PySem.W.fnOf "check_rows" "check_rows" (defArgs s_check_rows) (defBody s_check_rows) (defScope s_check_rows) .none kV4 dc4 pm4 an4 cd4 ct4), sl4⟩)
    (c4 : PySem.W.codeIn K cd4 "check_rows" = true)
    (k4 : PySem.W.keepIn K (.ref x4) = true)
    (a5 : PySem.W.nsIn K mainGlobals "weight" = some (some (.ref x5)))
    (l5 : K.lookup x5 = some ⟨oc5, od5, .func (PySem.W.fnOf "weight" "weight" (defArgs s_weight) (defBody s_weight) (defScope s_weight) .none kV5 dc5 pm5 an5 cd5 ct5), sl5⟩)
    (c5 : PySem.W.codeIn K cd5 "weight" = true)
    (k5 : PySem.W.keepIn K (.ref x5) = true)
    (a6 : PySem.W.nsIn K mainGlobals "grid_of" = some (some (.ref x6)))
    (l6 : K.lookup x6 = some ⟨oc6, od6, .func (PySem.W.fnOf "grid_of" "grid_of" (defArgs s_grid_of) (defBody s_grid_of) (defScope s_grid_of) .none kV6 dc6 pm6 an6 cd6 ct6), sl6⟩)
    (c6 : PySem.W.codeIn K cd6 "grid_of" = true)
    (k6 : PySem.W.keepIn K (.ref x6) = true)
    (a7 : PySem.W.nsIn K mainGlobals "check_picks" = some (some (.ref x7)))
    (l7 : K.lookup x7 = some ⟨oc7, od7, .func (PySem.W.fnOf "check_picks" "check_picks" (defArgs s_check_picks) (defBody s_check_picks) (defScope s_check_picks) .none kV7 dc7 pm7 an7 cd7 ct7), sl7⟩)
    (c7 : PySem.W.codeIn K cd7 "check_picks" = true)
    (k7 : PySem.W.keepIn K (.ref x7) = true)
    (a8 : PySem.W.nsIn K mainGlobals "flipped" = some (some (.ref x8)))
    (l8 : K.lookup x8 = some ⟨oc8, od8, .func (PySem.W.fnOf "flipped" "flipped" (defArgs s_flipped) (defBody s_flipped) (defScope s_flipped) .none kV8 dc8 pm8 an8 cd8 ct8), sl8⟩)
    (c8 : PySem.W.codeIn K cd8 "flipped" = true)
    (k8 : PySem.W.keepIn K (.ref x8) = true)
    (a9 : PySem.W.nsIn K mainGlobals "added" = some (some (.ref x9)))
    (l9 : K.lookup x9 = some ⟨oc9, od9, .func (PySem.W.fnOf "added" "added" (defArgs s_added) (defBody s_added) (defScope s_added) .none (.ref Dk9) dc9 pm9 an9 cd9 ct9), sl9⟩)
    (c9 : PySem.W.codeIn K cd9 "added" = true)
    (k9 : PySem.W.keepIn K (.ref x9) = true)
    (d9_many : PySem.W.nsIn K Dk9 "many" = some (some (.int 1 t9_many)))
    (a10 : PySem.W.nsIn K mainGlobals "reduced" = some (some (.ref x10)))
    (l10 : K.lookup x10 = some ⟨oc10, od10, .func (PySem.W.fnOf "reduced" "reduced" (defArgs s_reduced) (defBody s_reduced) (defScope s_reduced) .none kV10 dc10 pm10 an10 cd10 ct10), sl10⟩)
    (c10 : PySem.W.codeIn K cd10 "reduced" = true)
    (k10 : PySem.W.keepIn K (.ref x10) = true)
    (a11 : PySem.W.nsIn K mainGlobals "is_nought" = some (some (.ref x11)))
    (l11 : K.lookup x11 = some ⟨oc11, od11, .func (PySem.W.fnOf "is_nought" "is_nought" (defArgs s_is_nought) (defBody s_is_nought) (defScope s_is_nought) .none kV11 dc11 pm11 an11 cd11 ct11), sl11⟩)
    (c11 : PySem.W.codeIn K cd11 "is_nought" = true)
    (k11 : PySem.W.keepIn K (.ref x11) = true)
    (a12 : PySem.W.nsIn K mainGlobals "turned" = some (some (.ref x12)))
    (l12 : K.lookup x12 = some ⟨oc12, od12, .func (PySem.W.fnOf "turned" "turned" (defArgs s_turned) (defBody s_turned) (defScope s_turned) .none kV12 dc12 pm12 an12 cd12 ct12), sl12⟩)
    (c12 : PySem.W.codeIn K cd12 "turned" = true)
    (k12 : PySem.W.keepIn K (.ref x12) = true)
    (a13 : PySem.W.nsIn K mainGlobals "told_rows" = some (some (.ref x13)))
    (l13 : K.lookup x13 = some ⟨oc13, od13, .func (PySem.W.fnOf "told_rows" "told_rows" (defArgs s_told_rows) (defBody s_told_rows) (defScope s_told_rows) .none kV13 dc13 pm13 an13 cd13 ct13), sl13⟩)
    (c13 : PySem.W.codeIn K cd13 "told_rows" = true)
    (k13 : PySem.W.keepIn K (.ref x13) = true)
    (fm14 : PySem.W.findIn K (.ref CP0) "__init__" = some (some (.ref x14)))
    (ff14 : PySem.W.isFn K (.ref x14) = true)
    (mkc0 : PySem.W.makesIn K CP0 = true)
    (kP0 : PySem.W.keepIn K (.ref CP0) = true)
    (l14 : K.lookup x14 = some ⟨oc14, od14, .func (PySem.W.fnOf "__init__" "Rounds.__init__" (defArgs s_Rounds_init) (defBody s_Rounds_init) (defScope s_Rounds_init) .none kV14 dc14 pm14 an14 cd14 ct14), sl14⟩)
    (c14 : PySem.W.codeIn K cd14 "Rounds.__init__" = true)
    (k14 : PySem.W.keepIn K (.ref x14) = true)
    (a15 : PySem.W.nsIn K mainGlobals "chosen" = some (some (.ref x15)))
    (l15 : K.lookup x15 = some ⟨oc15, od15, .func (PySem.W.fnOf "chosen" "chosen" (defArgs s_chosen) (defBody s_chosen) (defScope s_chosen) .none kV15 dc15 pm15 an15 cd15 ct15), sl15⟩)
    (c15 : PySem.W.codeIn K cd15 "chosen" = true)
    (k15 : PySem.W.keepIn K (.ref x15) = true)
    (a16 : PySem.W.nsIn K mainGlobals "all_picks" = some (some (.ref x16)))
    (l16 : K.lookup x16 = some ⟨oc16, od16, .func (PySem.W.fnOf "all_picks" "all_picks" (defArgs s_all_picks) (defBody s_all_picks) (defScope s_all_picks) .none kV16 dc16 pm16 an16 cd16 ct16), sl16⟩)
    (c16 : PySem.W.codeIn K cd16 "all_picks" = true)
    (k16 : PySem.W.keepIn K (.ref x16) = true)
    (a17 : PySem.W.nsIn K mainGlobals "_law_asked" = some (some (.ref x17)))
    (l17 : K.lookup x17 = some ⟨oc17, od17, .func (PySem.W.fnOf "_law_asked" "_law_asked" (defArgs s__law_asked) (defBody s__law_asked) (defScope s__law_asked) .none kV17 dc17 pm17 an17 (.ref cc17) ct17), sl17⟩)
    (c17 : PySem.W.codeIn K (.ref cc17) "_law_asked" = true)
    (k17 : PySem.W.keepIn K (.ref x17) = true)
    (a18 : PySem.W.nsIn K mainGlobals "_law_draw" = some (some (.ref x18)))
    (l18 : K.lookup x18 = some ⟨oc18, od18, .func (PySem.W.fnOf "_law_draw" "_law_draw" (defArgs s__law_draw) (defBody s__law_draw) (defScope s__law_draw) .none kV18 dc18 pm18 an18 cd18 ct18), sl18⟩)
    (c18 : PySem.W.codeIn K cd18 "_law_draw" = true)
    (k18 : PySem.W.keepIn K (.ref x18) = true)
    (a19 : PySem.W.nsIn K mainGlobals "_law_spoilt" = some (some (.ref x19)))
    (l19 : K.lookup x19 = some ⟨oc19, od19, .func (PySem.W.fnOf "_law_spoilt" "_law_spoilt" (defArgs s__law_spoilt) (defBody s__law_spoilt) (defScope s__law_spoilt) .none kV19 dc19 pm19 an19 cd19 ct19), sl19⟩)
    (c19 : PySem.W.codeIn K cd19 "_law_spoilt" = true)
    (k19 : PySem.W.keepIn K (.ref x19) = true)
    (a20 : PySem.W.nsIn K mainGlobals "_law_heavy" = some (some (.ref x20)))
    (l20 : K.lookup x20 = some ⟨oc20, od20, .func (PySem.W.fnOf "_law_heavy" "_law_heavy" (defArgs s__law_heavy) (defBody s__law_heavy) (defScope s__law_heavy) .none kV20 dc20 pm20 an20 cd20 ct20), sl20⟩)
    (c20 : PySem.W.codeIn K cd20 "_law_heavy" = true)
    (k20 : PySem.W.keepIn K (.ref x20) = true)
    (a21 : PySem.W.nsIn K mainGlobals "_law_due" = some (some (.ref x21)))
    (l21 : K.lookup x21 = some ⟨oc21, od21, .func (PySem.W.fnOf "_law_due" "_law_due" (defArgs s__law_due) (defBody s__law_due) (defScope s__law_due) .none kV21 dc21 pm21 an21 cd21 ct21), sl21⟩)
    (c21 : PySem.W.codeIn K cd21 "_law_due" = true)
    (k21 : PySem.W.keepIn K (.ref x21) = true)
    (a22 : PySem.W.nsIn K mainGlobals "_law_right" = some (some (.ref x22)))
    (l22 : K.lookup x22 = some ⟨oc22, od22, .func (PySem.W.fnOf "_law_right" "_law_right" (defArgs s__law_right) (defBody s__law_right) (defScope s__law_right) .none kV22 dc22 pm22 an22 cd22 ct22), sl22⟩)
    (c22 : PySem.W.codeIn K cd22 "_law_right" = true)
    (k22 : PySem.W.keepIn K (.ref x22) = true)
    (a23 : PySem.W.nsIn K mainGlobals "law" = some (some (.ref x23)))
    (l23 : K.lookup x23 = some ⟨oc23, od23, .func (PySem.W.fnOf "law" "law" (defArgs s_law) (defBody s_law) (defScope s_law) .none kV23 dc23 pm23 an23 cd23 ct23), sl23⟩)
    (c23 : PySem.W.codeIn K cd23 "law" = true)
    (k23 : PySem.W.keepIn K (.ref x23) = true)
    (aW : PySem.W.nsIn K mainGlobals "WayError" = some (some (.ref CW)))
    (gaW : PySem.W.specialIn K (.ref CW) "__getattribute__" = some (some (.builtin "type.__getattribute__")))
    (rdW : PySem.W.readsIn K CW (.type "type") = true)
    (vVW : PySem.W.findCls K (.ref CW) (.type "type") "__init__" = some (.val (.builtin "ValueError.__init__")))
    (aC0 : PySem.W.nsIn K mainGlobals "NoPicks" = some (some (.ref C0)))
    (xL0 : K.lookup C0 = some (excClassObj nm0 qq0 C0 NN0 bs0 [.ref CW, .type "ValueError", .type "Exception", .type "BaseException", .type "object"] true sn0 sub0 ab0 col0 dd0 ma0 mb0 mc0 md0 me0 "ValueError.__new__"))
    (sa0 : PySem.W.findIn K (.ref C0) "__setattr__" = some (some (.builtin "object.__setattr__")))
    (ga0 : PySem.W.findIn K (.ref C0) "__getattribute__" = some (some (.builtin "BaseException.__getattribute__")))
    (gg0 : PySem.W.findIn K (.ref C0) "__getattr__" = some none)
    (nf0_at : PySem.W.findIn K (.ref C0) "at" = some none)
    (ii0 : PySem.W.findIn K (.ref C0) "__init__" = some (some (.ref fI0)))
    (ti0 : PySem.W.typeIn K (.ref fI0) = some (.type "function"))
    (li0 : K.lookup fI0 = some ⟨ioc0, iod0, .func (PySem.W.fnOf "__init__" "NoPicks.__init__" (defArgs s_NoPicks_init) (defBody s_NoPicks_init) (defScope s_NoPicks_init) .none ikV0 idc0 ipm0 ian0 icd0 ict0), isl0⟩)
    (ci0 : PySem.W.codeIn K icd0 "NoPicks.__init__" = true)
    (ki0 : PySem.W.keepIn K (.ref fI0) = true)
    (kC0 : PySem.W.keepIn K (.ref C0) = true)
    (eC0 : PySem.W.subIn K (.ref C0) (.type "BaseException") = some true)
    (tC0 : PySem.W.typeIn K (.ref C0) = some (.type "type"))
    (hC0 : PySem.W.hasDictIn K C0 = true)
    (iC0 : PySem.W.isClsIn K C0 = true)
    (aC1 : PySem.W.nsIn K mainGlobals "NoRow" = some (some (.ref C1)))
    (xL1 : K.lookup C1 = some (excClassObj nm1 qq1 C1 NN1 bs1 [.ref CW, .type "ValueError", .type "Exception", .type "BaseException", .type "object"] true sn1 sub1 ab1 col1 dd1 ma1 mb1 mc1 md1 me1 "ValueError.__new__"))
    (sa1 : PySem.W.findIn K (.ref C1) "__setattr__" = some (some (.builtin "object.__setattr__")))
    (ga1 : PySem.W.findIn K (.ref C1) "__getattribute__" = some (some (.builtin "BaseException.__getattribute__")))
    (gg1 : PySem.W.findIn K (.ref C1) "__getattr__" = some none)
    (nf1_at : PySem.W.findIn K (.ref C1) "at" = some none)
    (ii1 : PySem.W.findIn K (.ref C1) "__init__" = some (some (.ref fI1)))
    (ti1 : PySem.W.typeIn K (.ref fI1) = some (.type "function"))
    (li1 : K.lookup fI1 = some ⟨ioc1, iod1, .func (PySem.W.fnOf "__init__" "NoRow.__init__" (defArgs s_NoRow_init) (defBody s_NoRow_init) (defScope s_NoRow_init) .none ikV1 idc1 ipm1 ian1 icd1 ict1), isl1⟩)
    (ci1 : PySem.W.codeIn K icd1 "NoRow.__init__" = true)
    (ki1 : PySem.W.keepIn K (.ref fI1) = true)
    (kC1 : PySem.W.keepIn K (.ref C1) = true)
    (eC1 : PySem.W.subIn K (.ref C1) (.type "BaseException") = some true)
    (tC1 : PySem.W.typeIn K (.ref C1) = some (.type "type"))
    (hC1 : PySem.W.hasDictIn K C1 = true)
    (iC1 : PySem.W.isClsIn K C1 = true)
    (aC2 : PySem.W.nsIn K mainGlobals "TooMany" = some (some (.ref C2)))
    (xL2 : K.lookup C2 = some (excClassObj nm2 qq2 C2 NN2 bs2 [.ref CW, .type "ValueError", .type "Exception", .type "BaseException", .type "object"] true sn2 sub2 ab2 col2 dd2 ma2 mb2 mc2 md2 me2 "ValueError.__new__"))
    (sa2 : PySem.W.findIn K (.ref C2) "__setattr__" = some (some (.builtin "object.__setattr__")))
    (ga2 : PySem.W.findIn K (.ref C2) "__getattribute__" = some (some (.builtin "BaseException.__getattribute__")))
    (gg2 : PySem.W.findIn K (.ref C2) "__getattr__" = some none)
    (nf2_many : PySem.W.findIn K (.ref C2) "many" = some none)
    (ii2 : PySem.W.findIn K (.ref C2) "__init__" = some (some (.ref fI2)))
    (ti2 : PySem.W.typeIn K (.ref fI2) = some (.type "function"))
    (li2 : K.lookup fI2 = some ⟨ioc2, iod2, .func (PySem.W.fnOf "__init__" "TooMany.__init__" (defArgs s_TooMany_init) (defBody s_TooMany_init) (defScope s_TooMany_init) .none ikV2 idc2 ipm2 ian2 icd2 ict2), isl2⟩)
    (ci2 : PySem.W.codeIn K icd2 "TooMany.__init__" = true)
    (ki2 : PySem.W.keepIn K (.ref fI2) = true)
    (kC2 : PySem.W.keepIn K (.ref C2) = true)
    (eC2 : PySem.W.subIn K (.ref C2) (.type "BaseException") = some true)
    (tC2 : PySem.W.typeIn K (.ref C2) = some (.type "type"))
    (hC2 : PySem.W.hasDictIn K C2 = true)
    (iC2 : PySem.W.isClsIn K C2 = true)
    (eCW : PySem.W.subIn K (.ref CW) (.type "BaseException") = some true)
    (tCW : PySem.W.typeIn K (.ref CW) = some (.type "type"))
    (iCW : PySem.W.isClsIn K CW = true)
    (pg0 : PySem.W.plainGet K CP0 Str.empty = true)
    (hdP0 : PySem.W.hasDictIn K CP0 = true)
    (po0 : PySem.W.plainOver K CP0 = true)
    (saP0 : PySem.W.findIn K (.ref CP0) "__setattr__" = some (some (.builtin "object.__setattr__")))
    (nP0_columns : PySem.W.findIn K (.ref CP0) "columns" = some none)
    (nP0_chosen_ones : PySem.W.findIn K (.ref CP0) "chosen_ones" = some none)
    (nP0_grid : PySem.W.findIn K (.ref CP0) "grid" = some none)
    (nP0_heavy : PySem.W.findIn K (.ref CP0) "heavy" = some none)
    (nP0_stairs : PySem.W.findIn K (.ref CP0) "stairs" = some none)
    (kha0 : PySem.W.findIn K (.ref C0) "__class__" = some (some (.builtin "object.__class__")))
    (khn0 : PySem.W.specialIn K (.builtin "object.__class__") "__get__" = some (some (.builtin "getset_descriptor.__get__")))
    (ktk0 : PySem.W.takesIn K (.builtin "object.__class__") = some true)
    (khm0 : PySem.W.mroIn K C0 (.type "object") = some true)
    (kha1 : PySem.W.findIn K (.ref C1) "__class__" = some (some (.builtin "object.__class__")))
    (khn1 : PySem.W.specialIn K (.builtin "object.__class__") "__get__" = some (some (.builtin "getset_descriptor.__get__")))
    (ktk1 : PySem.W.takesIn K (.builtin "object.__class__") = some true)
    (khm1 : PySem.W.mroIn K C1 (.type "object") = some true)
    (kha2 : PySem.W.findIn K (.ref C2) "__class__" = some (some (.builtin "object.__class__")))
    (khn2 : PySem.W.specialIn K (.builtin "object.__class__") "__get__" = some (some (.builtin "getset_descriptor.__get__")))
    (ktk2 : PySem.W.takesIn K (.builtin "object.__class__") = some true)
    (khm2 : PySem.W.mroIn K C2 (.type "object") = some true)
    (kk0_NoPicks : PySem.W.kitOne K (.ref C0) (.ref C0) = some true)
    (kk0_NoRow : PySem.W.kitOne K (.ref C0) (.ref C1) = some false)
    (kk0_TooMany : PySem.W.kitOne K (.ref C0) (.ref C2) = some false)
    (kk0_ValueError : PySem.W.kitOne K (.ref C0) (.type "ValueError") = some true)
    (kk1_NoPicks : PySem.W.kitOne K (.ref C1) (.ref C0) = some false)
    (kk1_NoRow : PySem.W.kitOne K (.ref C1) (.ref C1) = some true)
    (kk1_TooMany : PySem.W.kitOne K (.ref C1) (.ref C2) = some false)
    (kk1_ValueError : PySem.W.kitOne K (.ref C1) (.type "ValueError") = some true)
    (kk2_NoPicks : PySem.W.kitOne K (.ref C2) (.ref C0) = some false)
    (kk2_NoRow : PySem.W.kitOne K (.ref C2) (.ref C1) = some false)
    (kk2_TooMany : PySem.W.kitOne K (.ref C2) (.ref C2) = some true)
    (kk2_ValueError : PySem.W.kitOne K (.ref C2) (.type "ValueError") = some true)
    (s0_W : PySem.W.subIn K (.ref C0) (.ref CW) = some true)
    (s1_W : PySem.W.subIn K (.ref C1) (.ref CW) = some true)
    (s2_W : PySem.W.subIn K (.ref C2) (.ref CW) = some true)
    (lc17 : K.lookup cc17 = some ⟨.type "code", odc17, .fields vsc17, slc17⟩)
    (p17 : vsc17[11]? = some (.ref pp17))
    (hd17 : PySem.W.codeHdIn K cc17 pp17 = true)
    (nt17 : K.lookup pp17 = none)
    (tt17 : h.get? pp17 = some { cls := .none, data := .fields #[] })
    (g_MOST_ELEMENTS : PySem.W.nsIn K mainGlobals "MOST_ELEMENTS" = some (some (.int 60 tg_MOST_ELEMENTS)))
    (z_ValueError : PySem.W.nsIn K mainGlobals "ValueError" = some none)
    (z_abs : PySem.W.nsIn K mainGlobals "abs" = some none)
    (z_all : PySem.W.nsIn K mainGlobals "all" = some none)
    (z_any : PySem.W.nsIn K mainGlobals "any" = some none)
    (z_bool : PySem.W.nsIn K mainGlobals "bool" = some none)
    (z_dict : PySem.W.nsIn K mainGlobals "dict" = some none)
    (z_enumerate : PySem.W.nsIn K mainGlobals "enumerate" = some none)
    (z_int : PySem.W.nsIn K mainGlobals "int" = some none)
    (z_isinstance : PySem.W.nsIn K mainGlobals "isinstance" = some none)
    (z_len : PySem.W.nsIn K mainGlobals "len" = some none)
    (z_list : PySem.W.nsIn K mainGlobals "list" = some none)
    (z_min : PySem.W.nsIn K mainGlobals "min" = some none)
    (z_range : PySem.W.nsIn K mainGlobals "range" = some none)
    (z_tuple : PySem.W.nsIn K mainGlobals "tuple" = some none)
    (z_zip : PySem.W.nsIn K mainGlobals "zip" = some none) :
    LamX.LawAtS PySem.Challenge.rw_waymoves_k41_what_are_no_picks w K (L2.CX P w) 12 63 "_law_script" mg fa h := by
  have e := hfa.symm.trans (PySem.W.mg_of X G a23)
  cases e
  exact ⟨_, [(cc17, pp17)], spF (gk K (clOf [("NoPicks", C0), ("NoRow", C1), ("TooMany", C2), ("Rounds", CP0), ("WayError", CW)] ⟨[(pp17, (envOfC "_law_asked" (defScope s__law_asked) 0 0 (.ref cc17)).qual ++ "<lambda>")], [], []⟩)) 1 f_law, by
      intro p hp
      simp only [List.mem_cons, List.not_mem_nil, or_false] at hp
      rcases hp with rfl
      · exact tt17, by
      intro p hp
      simp only [List.mem_cons, List.not_mem_nil, or_false] at hp
      rcases hp with rfl
      · exact nt17, by
      intro p hp
      simp only [List.mem_cons, List.not_mem_nil, or_false] at hp
      rcases hp with rfl
      · exact PySem.W.codeHd_of_K X hd17, fun s v => .of_eq rfl,
    fun H a ns hl _ hH hS => spT_sp hl rfl rfl (by
      intro p hp
      simp only [clOf, List.mem_cons, List.not_mem_nil, or_false] at hp
      rcases hp with rfl
      · exact hH (cc17, pp17) (by simp only [List.mem_cons, true_or, or_true])) hS (LT ns hl),
    fun base _ _ hTB => ok_law (cl := clOf [("NoPicks", C0), ("NoRow", C1), ("TooMany", C2), ("Rounds", CP0), ("WayError", CW)] ⟨[(pp17, (envOfC "_law_asked" (defScope s__law_asked) 0 0 (.ref cc17)).qual ++ "<lambda>")], [], []⟩) ⟨_, _, fun_mk (st := s_Rounds_size) l0 c0 k0, ⟨fm0, ff0, k0⟩,
    _, _, fun_mk (st := s__law_said) l1 c1 k1, PySem.W.mg_of X G a1,
    (fun_mk (st := s__law_said) l1 c1 k1).binds fun _ _ _ _ _ _ us hl => match us, hl with | [_], _ => rfl,
    _, _, fun_mk (st := s_is_whole) l2 c2 k2, PySem.W.mg_of X G a2,
    (fun_mk (st := s_is_whole) l2 c2 k2).binds fun _ _ _ _ _ _ us hl => match us, hl with | [_], _ => rfl,
    _, _, fun_mk (st := s_is_row) l3 c3 k3, PySem.W.mg_of X G a3,
    (fun_mk (st := s_is_row) l3 c3 k3).binds fun _ _ _ _ _ _ us hl => match us, hl with | [_, _], _ => rfl,
    _, _, fun_mk (st := s_check_rows) l4 c4 k4, PySem.W.mg_of X G a4,
    (fun_mk (st := s_check_rows) l4 c4 k4).binds fun _ _ _ _ _ _ us hl => match us, hl with | [_, _], _ => rfl,
    _, _, fun_mk (st := s_weight) l5 c5 k5, PySem.W.mg_of X G a5,
    (fun_mk (st := s_weight) l5 c5 k5).binds fun _ _ _ _ _ _ us hl => match us, hl with | [_], _ => rfl,
    _, _, fun_mk (st := s_grid_of) l6 c6 k6, PySem.W.mg_of X G a6,
    (fun_mk (st := s_grid_of) l6 c6 k6).binds fun _ _ _ _ _ _ us hl => match us, hl with | [_, _], _ => rfl,
    _, _, fun_mk (st := s_check_picks) l7 c7 k7, PySem.W.mg_of X G a7,
    _, _, fun_mk (st := s_flipped) l8 c8 k8, PySem.W.mg_of X G a8,
    _, _, fun_mk (st := s_added) l9 c9 k9, PySem.W.mg_of X G a9,
    _, _, fun_mk (st := s_reduced) l10 c10 k10, PySem.W.mg_of X G a10,
    (fun_mk (st := s_reduced) l10 c10 k10).binds fun _ _ _ _ _ _ us hl => match us, hl with | [_, _], _ => rfl,
    _, _, fun_mk (st := s_is_nought) l11 c11 k11, PySem.W.mg_of X G a11,
    (fun_mk (st := s_is_nought) l11 c11 k11).binds fun _ _ _ _ _ _ us hl => match us, hl with | [_], _ => rfl,
    _, _, fun_mk (st := s_turned) l12 c12 k12, PySem.W.mg_of X G a12,
    (fun_mk (st := s_turned) l12 c12 k12).binds fun _ _ _ _ _ _ us hl => match us, hl with | [_], _ => rfl,
    _, _, fun_mk (st := s_told_rows) l13 c13 k13, PySem.W.mg_of X G a13,
    _, _, fun_mk (st := s_Rounds_init) l14 c14 k14, ⟨mkc0, fm14, ff14, kP0⟩,
    _, _, fun_mk (st := s_chosen) l15 c15 k15, PySem.W.mg_of X G a15,
    (fun_mk (st := s_chosen) l15 c15 k15).binds fun _ _ _ _ _ _ us hl => match us, hl with | [_, _], _ => rfl,
    _, _, fun_mk (st := s_all_picks) l16 c16 k16, PySem.W.mg_of X G a16,
    _, _, fun_mk (st := s__law_asked) l17 c17 k17, PySem.W.mg_of X G a17,
    (fun_mk (st := s__law_asked) l17 c17 k17).binds fun _ _ _ _ _ _ us hl => match us, hl with | [_, _, _, _, _], _ => rfl,
    _, _, fun_mk (st := s__law_draw) l18 c18 k18, PySem.W.mg_of X G a18,
    (fun_mk (st := s__law_draw) l18 c18 k18).binds fun _ _ _ _ _ _ us hl => match us, hl with | [_, _], _ => rfl,
    _, _, fun_mk (st := s__law_spoilt) l19 c19 k19, PySem.W.mg_of X G a19,
    (fun_mk (st := s__law_spoilt) l19 c19 k19).binds fun _ _ _ _ _ _ us hl => match us, hl with | [_, _, _], _ => rfl,
    _, _, fun_mk (st := s__law_heavy) l20 c20 k20, PySem.W.mg_of X G a20,
    (fun_mk (st := s__law_heavy) l20 c20 k20).binds fun _ _ _ _ _ _ us hl => match us, hl with | [_], _ => rfl,
    _, _, fun_mk (st := s__law_due) l21 c21 k21, PySem.W.mg_of X G a21,
    (fun_mk (st := s__law_due) l21 c21 k21).binds fun _ _ _ _ _ _ us hl => match us, hl with | [_, _, _], _ => rfl,
    _, _, fun_mk (st := s__law_right) l22 c22 k22, PySem.W.mg_of X G a22,
    (fun_mk (st := s__law_right) l22 c22 k22).binds fun _ _ _ _ _ _ us hl => match us, hl with | [_], _ => rfl,
    _, _, fun_mk (st := s_law) l23 c23 k23, PySem.W.mg_of X G a23,
    (fun_mk (st := s_law) l23 c23 k23).binds fun _ _ _ _ _ _ us hl => match us, hl with | [_], _ => rfl,
    kbs_mk (sel := [.arg 0, .arg 1, .arg 2]) [.inl 0, .inl 1, .inl 2] 0 [] ⟨rfl, ⟨rfl, ⟨rfl, trivial⟩⟩⟩ (fun q hq => by cases hq) (fun us ws h1 h2 => match us, ws, h1, h2 with | [u0, u1], [w0], _, _ => rfl),
    kbs_mk (sel := [.arg 0, .arg 1, .arg 2]) [.inl 0, .inl 1, .inl 2] 0 [] ⟨rfl, ⟨rfl, ⟨rfl, trivial⟩⟩⟩ (fun q hq => by cases hq) (fun us ws h1 h2 => match us, ws, h1, h2 with | [u0, u1], [w0], _, _ => rfl),
    kbs_mk (sel := [.arg 0, .arg 1]) [.inl 0, .inl 1] 0 [] ⟨rfl, ⟨rfl, trivial⟩⟩ (fun q hq => by cases hq) (fun us ws h1 h2 => match us, ws, h1, h2 with | [u0], [w0], _, _ => rfl),
    kbs_mk (sel := [.arg 0, .arg 1]) [.inl 0, .inl 1] 0 [] ⟨rfl, ⟨rfl, trivial⟩⟩ (fun q hq => by cases hq) (fun us ws h1 h2 => match us, ws, h1, h2 with | [u0], [w0], _, _ => rfl),
    kbs_mk (sel := [.arg 0, .arg 1, .arg 2, .arg 3]) [.inl 0, .inl 1, .inl 2, .inl 3] 0 [] ⟨rfl, ⟨rfl, ⟨rfl, ⟨rfl, trivial⟩⟩⟩⟩ (fun q hq => by cases hq) (fun us ws h1 h2 => match us, ws, h1, h2 with | [u0, u1], [w0, w1], _, _ => rfl),
    kbs_mk (sel := [.arg 0, .arg 1]) [.inl 0, .inl 1] 0 [] ⟨rfl, ⟨rfl, trivial⟩⟩ (fun q hq => by cases hq) (fun us ws h1 h2 => match us, ws, h1, h2 with | [u0], [w0], _, _ => rfl),
    kbs_mk (sel := [.arg 0]) [.inl 0] 0 [] ⟨rfl, trivial⟩ (fun q hq => by cases hq) (fun us ws h1 h2 => match us, ws, h1, h2 with | [u0], [], _, _ => rfl),
    ⟨CW, .type "type", PySem.W.mg_of X G aW, gaW, rdW, vVW⟩,
    ⟨fI0, _, PySem.W.mg_of X G aC0, ⟨⟨_, _, _, _, _, _, _, _, _, _, _, _, _, _, _, xL0, rfl⟩, sa0, eC0, tC0, kC0⟩, fun f hf => by
      simp only [List.mem_cons, List.not_mem_nil, or_false] at hf
      rcases hf with rfl
      · exact nf0_at, ii0, ti0, fun_mk (st := s_NoPicks_init) li0 ci0 ki0, ⟨ga0, gg0, eC0, hC0⟩⟩,
    (fun_mk (st := s_NoPicks_init) li0 ci0 ki0).binds fun _ _ _ _ _ _ us hl => match us, hl with | [_, _], _ => rfl,
    ⟨fI1, _, PySem.W.mg_of X G aC1, ⟨⟨_, _, _, _, _, _, _, _, _, _, _, _, _, _, _, xL1, rfl⟩, sa1, eC1, tC1, kC1⟩, fun f hf => by
      simp only [List.mem_cons, List.not_mem_nil, or_false] at hf
      rcases hf with rfl
      · exact nf1_at, ii1, ti1, fun_mk (st := s_NoRow_init) li1 ci1 ki1, ⟨ga1, gg1, eC1, hC1⟩⟩,
    (fun_mk (st := s_NoRow_init) li1 ci1 ki1).binds fun _ _ _ _ _ _ us hl => match us, hl with | [_, _], _ => rfl,
    ⟨fI2, _, PySem.W.mg_of X G aC2, ⟨⟨_, _, _, _, _, _, _, _, _, _, _, _, _, _, _, xL2, rfl⟩, sa2, eC2, tC2, kC2⟩, fun f hf => by
      simp only [List.mem_cons, List.not_mem_nil, or_false] at hf
      rcases hf with rfl
      · exact nf2_many, ii2, ti2, fun_mk (st := s_TooMany_init) li2 ci2 ki2, ⟨ga2, gg2, eC2, hC2⟩⟩,
    (fun_mk (st := s_TooMany_init) li2 ci2 ki2).binds fun _ _ _ _ _ _ us hl => match us, hl with | [_, _], _ => rfl,
    PySem.W.mg_of X G aW,
    PySem.W.mg_of X G aP0, ⟨pg0, hdP0, po0, saP0⟩, fun f hf => by
      simp only [List.mem_cons, List.not_mem_nil, or_false] at hf
      rcases hf with rfl | rfl | rfl | rfl | rfl
      · exact nP0_columns
      · exact nP0_chosen_ones
      · exact nP0_grid
      · exact nP0_heavy
      · exact nP0_stairs,
    ⟨cls_some hC0, ga0, gg0, eC0, kha0, khn0, ktk0, khm0⟩,
    ⟨cls_some hC1, ga1, gg1, eC1, kha1, khn1, ktk1, khm1⟩,
    ⟨cls_some hC2, ga2, gg2, eC2, kha2, khn2, ktk2, khm2⟩,
    kk0_NoPicks,
    kk0_NoRow,
    kk0_TooMany,
    kk0_ValueError,
    kk1_NoPicks,
    kk1_NoRow,
    kk1_TooMany,
    kk1_ValueError,
    kk2_NoPicks,
    kk2_NoRow,
    kk2_TooMany,
    kk2_ValueError,
    PySem.W.mg_of X G aC0,
    PySem.W.mg_of X G aC1,
    PySem.W.mg_of X G aC2,
    ⟨exm_pair eCW iCW tCW s0_W, ⟨exm_pair eCW iCW tCW s1_W, ⟨exm_pair eCW iCW tCW s2_W, trivial⟩⟩⟩,
    fun _ => rfl,
    cc17, pp17, funC_mk (st := s__law_asked) l17 c17, hTB (cc17, pp17) (by simp only [List.mem_cons, true_or, or_true]), by simp only [clOf, List.mem_cons, true_or, or_true], by
      intro p hp he
      simp only [clOf, List.mem_cons, List.not_mem_nil, or_false] at hp
      rcases hp with rfl
      · rfl,
    tg_MOST_ELEMENTS, PySem.W.mg_of X G g_MOST_ELEMENTS,
    PySem.W.mg_none_of X G z_ValueError,
    PySem.W.mg_none_of X G z_abs,
    PySem.W.mg_none_of X G z_all,
    PySem.W.mg_none_of X G z_any,
    PySem.W.mg_none_of X G z_bool,
    PySem.W.mg_none_of X G z_dict,
    PySem.W.mg_none_of X G z_enumerate,
    PySem.W.mg_none_of X G z_int,
    PySem.W.mg_none_of X G z_isinstance,
    PySem.W.mg_none_of X G z_len,
    PySem.W.mg_none_of X G z_list,
    PySem.W.mg_none_of X G z_min,
    PySem.W.mg_none_of X G z_range,
    PySem.W.mg_none_of X G z_tuple,
    PySem.W.mg_none_of X G z_zip⟩⟩
end Lw
open PySem PySem.W PyProof.Rows
set_option maxHeartbeats 0 in
theorem PySem.Challenge.cw_waymoves_k41_what_are_no_picks_holds : PySem.Challenge.rw_waymoves_k41_what_are_no_picks.Holds := by
  w_on; o_law; k_head; (case hw => w_witness2)
  k_fill
  refine LamX.walk_ofTs (l := PySem.Challenge.rw_waymoves_k41_what_are_no_picks) (n := 63) (k := 12) (x := "_law_script") (CX := fun w => L2.CX (PySem.Challenge.rw_waymoves_k41_what_are_no_picks).prog w) rfl (by decide) rfl ⟨rfl, by decide, by decide⟩ (fun w h Y => PySem.W.km_in_of Y) ?F (fun _ H s e s' h => Wm.law_cx H s e s' h)
  case F =>
    intro w mg fa h Y KX G hmg
    refine' Lw.all_mk Lw.law_true KX G hmg ?aP0 ?fm0 ?ff0 ?l0 ?c0 ?k0 ?a1 ?l1 ?c1 ?k1 ?a2 ?l2 ?c2 ?k2 ?a3 ?l3 ?c3 ?k3 ?a4 ?l4 ?c4 ?k4 ?a5 ?l5 ?c5 ?k5 ?a6 ?l6 ?c6 ?k6 ?a7 ?l7 ?c7 ?k7 ?a8 ?l8 ?c8 ?k8 ?a9 ?l9 ?c9 ?k9 ?d9_many ?a10 ?l10 ?c10 ?k10 ?a11 ?l11 ?c11 ?k11 ?a12 ?l12 ?c12 ?k12 ?a13 ?l13 ?c13 ?k13 ?fm14 ?ff14 ?mkc0 ?kP0 ?l14 ?c14 ?k14 ?a15 ?l15 ?c15 ?k15 ?a16 ?l16 ?c16 ?k16 ?a17 ?l17 ?c17 ?k17 ?a18 ?l18 ?c18 ?k18 ?a19 ?l19 ?c19 ?k19 ?a20 ?l20 ?c20 ?k20 ?a21 ?l21 ?c21 ?k21 ?a22 ?l22 ?c22 ?k22 ?a23 ?l23 ?c23 ?k23 ?aW ?gaW ?rdW ?vVW ?aC0 ?xL0 ?sa0 ?ga0 ?gg0 ?nf0_at ?ii0 ?ti0 ?li0 ?ci0 ?ki0 ?kC0 ?eC0 ?tC0 ?hC0 ?iC0 ?aC1 ?xL1 ?sa1 ?ga1 ?gg1 ?nf1_at ?ii1 ?ti1 ?li1 ?ci1 ?ki1 ?kC1 ?eC1 ?tC1 ?hC1 ?iC1 ?aC2 ?xL2 ?sa2 ?ga2 ?gg2 ?nf2_many ?ii2 ?ti2 ?li2 ?ci2 ?ki2 ?kC2 ?eC2 ?tC2 ?hC2 ?iC2 ?eCW ?tCW ?iCW ?pg0 ?hdP0 ?po0 ?saP0 ?nP0_columns ?nP0_chosen_ones ?nP0_grid ?nP0_heavy ?nP0_stairs ?kha0 ?khn0 ?ktk0 ?khm0 ?kha1 ?khn1 ?ktk1 ?khm1 ?kha2 ?khn2 ?ktk2 ?khm2 ?kk0_NoPicks ?kk0_NoRow ?kk0_TooMany ?kk0_ValueError ?kk1_NoPicks ?kk1_NoRow ?kk1_TooMany ?kk1_ValueError ?kk2_NoPicks ?kk2_NoRow ?kk2_TooMany ?kk2_ValueError ?s0_W ?s1_W ?s2_W ?lc17 ?p17 ?hd17 ?nt17 ?tt17 ?g_MOST_ELEMENTS ?z_ValueError ?z_abs ?z_all ?z_any ?z_bool ?z_dict ?z_enumerate ?z_int ?z_isinstance ?z_len ?z_list ?z_min ?z_range ?z_tuple ?z_zip
    (case aP0 => k_is); (case fm0 => k_is); (case ff0 => k_is); (case l0 => k_is); (case c0 => k_is); (case k0 => k_is); (case a1 => k_is); (case l1 => k_is); (case c1 => k_is); (case k1 => k_is); (case a2 => k_is); (case l2 => k_is); (case c2 => k_is); (case k2 => k_is); (case a3 => k_is); (case l3 => k_is); (case c3 => k_is); (case k3 => k_is); (case a4 => k_is); (case l4 => k_is); (case c4 => k_is); (case k4 => k_is); (case a5 => k_is); (case l5 => k_is); (case c5 => k_is); (case k5 => k_is); (case a6 => k_is); (case l6 => k_is); (case c6 => k_is); (case k6 => k_is); (case a7 => k_is); (case l7 => k_is); (case c7 => k_is); (case k7 => k_is); (case a8 => k_is); (case l8 => k_is); (case c8 => k_is); (case k8 => k_is); (case a9 => k_is); (case l9 => k_is); (case c9 => k_is); (case k9 => k_is); (case d9_many => k_is); (case a10 => k_is); (case l10 => k_is); (case c10 => k_is); (case k10 => k_is); (case a11 => k_is); (case l11 => k_is); (case c11 => k_is); (case k11 => k_is); (case a12 => k_is); (case l12 => k_is); (case c12 => k_is); (case k12 => k_is); (case a13 => k_is); (case l13 => k_is); (case c13 => k_is); (case k13 => k_is); (case fm14 => k_is); (case ff14 => k_is); (case mkc0 => k_is); (case kP0 => k_is); (case l14 => k_is); (case c14 => k_is); (case k14 => k_is); (case a15 => k_is); (case l15 => k_is); (case c15 => k_is); (case k15 => k_is); (case a16 => k_is); (case l16 => k_is); (case c16 => k_is); (case k16 => k_is); (case a17 => k_is); (case l17 => k_is); (case c17 => k_is); (case k17 => k_is); (case a18 => k_is); (case l18 => k_is); (case c18 => k_is); (case k18 => k_is); (case a19 => k_is); (case l19 => k_is); (case c19 => k_is); (case k19 => k_is); (case a20 => k_is); (case l20 => k_is); (case c20 => k_is); (case k20 => k_is); (case a21 => k_is); (case l21 => k_is); (case c21 => k_is); (case k21 => k_is); (case a22 => k_is); (case l22 => k_is); (case c22 => k_is); (case k22 => k_is); (case a23 => k_is); (case l23 => k_is); (case c23 => k_is); (case k23 => k_is); (case aW => k_is); (case gaW => k_is); (case rdW => k_is); (case vVW => k_is); (case aC0 => k_is); (case xL0 => k_is); (case sa0 => k_is); (case ga0 => k_is); (case gg0 => k_is); (case nf0_at => k_is); (case ii0 => k_is); (case ti0 => k_is); (case li0 => k_is); (case ci0 => k_is); (case ki0 => k_is); (case kC0 => k_is); (case eC0 => k_is); (case tC0 => k_is); (case hC0 => k_is); (case iC0 => k_is); (case aC1 => k_is); (case xL1 => k_is); (case sa1 => k_is); (case ga1 => k_is); (case gg1 => k_is); (case nf1_at => k_is); (case ii1 => k_is); (case ti1 => k_is); (case li1 => k_is); (case ci1 => k_is); (case ki1 => k_is); (case kC1 => k_is); (case eC1 => k_is); (case tC1 => k_is); (case hC1 => k_is); (case iC1 => k_is); (case aC2 => k_is); (case xL2 => k_is); (case sa2 => k_is); (case ga2 => k_is); (case gg2 => k_is); (case nf2_many => k_is); (case ii2 => k_is); (case ti2 => k_is); (case li2 => k_is); (case ci2 => k_is); (case ki2 => k_is); (case kC2 => k_is); (case eC2 => k_is); (case tC2 => k_is); (case hC2 => k_is); (case iC2 => k_is); (case eCW => k_is); (case tCW => k_is); (case iCW => k_is); (case pg0 => k_is); (case hdP0 => k_is); (case po0 => k_is); (case saP0 => k_is); (case nP0_columns => k_is); (case nP0_chosen_ones => k_is); (case nP0_grid => k_is); (case nP0_heavy => k_is); (case nP0_stairs => k_is); (case kha0 => k_is); (case khn0 => k_is); (case ktk0 => k_is); (case khm0 => k_is); (case kha1 => k_is); (case khn1 => k_is); (case ktk1 => k_is); (case khm1 => k_is); (case kha2 => k_is); (case khn2 => k_is); (case ktk2 => k_is); (case khm2 => k_is); (case kk0_NoPicks => kit_is); (case kk0_NoRow => kit_is); (case kk0_TooMany => kit_is); (case kk0_ValueError => kit_is); (case kk1_NoPicks => kit_is); (case kk1_NoRow => kit_is); (case kk1_TooMany => kit_is); (case kk1_ValueError => kit_is); (case kk2_NoPicks => kit_is); (case kk2_NoRow => kit_is); (case kk2_TooMany => kit_is); (case kk2_ValueError => kit_is); (case s0_W => k_is); (case s1_W => k_is); (case s2_W => k_is); (case lc17 => k_is); (case p17 => rfl); (case hd17 => kernel_rfl); (case nt17 => kernel_rfl); (case tt17 => exact PySem.W.km_tabs_of Y _ (by decide)); (case g_MOST_ELEMENTS => k_is); (case z_ValueError => k_is); (case z_abs => k_is); (case z_all => k_is); (case z_any => k_is); (case z_bool => k_is); (case z_dict => k_is); (case z_enumerate => k_is); (case z_int => k_is); (case z_isinstance => k_is); (case z_len => k_is); (case z_list => k_is); (case z_min => k_is); (case z_range => k_is); (case z_tuple => k_is); (case z_zip => k_is)
end
