import PyProof.Rows.All
import HandS.ForMost
import HandS.Exc
import HandS.TryOnly
import HandS.ExcOwn
import HandS.WordsExc
import HandS.CallSlots
import HandS.Wide
import HandS.Lambda
import HandS.TupAny
import HandS.TupMul
import HandS.TupLe
import HandS.Flow
import HandS.IsInst
import HandS.Conv
import HandS.SortInts
import KE.GoesNew
import KE.GoesEnum
import HandS.Defaults
import KE.IntBitsLaws
import HandS.ExcInit
import HandS.ExcField
import HandS.Deep
import KE.KSortedM
import HandS.EndTab
import HandS.MakeKwOnly
import KE.DataFind
import HandS.Style
import KE.KExcIs
import PyProof.InstNe
import HandS.OwnEq
import KE.KDictZip
import HandS.Rev
import HandS.Dict
import HandS.DictComp
import HandS.ExcBuiltin
import PySem.Challenge.RW_waymoves_k86_what_refusals_are
set_option Elab.async false
set_option linter.all false
set_option maxRecDepth 100000
set_option maxHeartbeats 4000000
section
namespace Wm
open PySem PySem.Spec PyProof.Rows L2
inductive D where
  | non | bl (b : Bool) | int (i : Int) | str (x : Str)
  | tup (xs : List D) | lst (xs : List D) | ins (c : Str) (fs : List (Str × D)) | scr (ns : List Int)
  | dct (kvs : List (Int × D)) | exn (c : Str) (fs : List (Str × D))
inductive OT where
  | dat (d : D) | lst (ts : List OT) | tup (ts : List OT)
inductive SD where
  | no | sh (d : D) | own (xs : List D) | byr (xs : List D) | xn (c : Str) (fs : List (Str × D)) | gv | od (kvs : List (Int × D)) | ow (t : OT)
structure TC where
  tabs : List (Addr × Str) := []
  codes : List (Addr × Str) := []
  know : List (D × V) := []
structure KT0 (T : TC) (H : Hp) : Prop where
  t : LamX.Tabs T.tabs H
  c : ∀ p ∈ T.codes, H p.1 = some (LamX.CodeO p.1 p.2)
theorem KT0.ext {T : TC} {H H' : Hp} (k : KT0 T H) (e : ∀ b o, H b = some o → H' b = some o) : KT0 T H' := ⟨k.t.ext e, fun p hp => e _ _ (k.c p hp)⟩
structure Gx where
  K : PySem.W.Frag
  cls : Str → Addr
  xof : Addr → Option (Str × Addr)
  tabs : TC
structure Cl where
  at' : Str → Addr
  xof : Addr → Option (Str × Addr)
  tabs : TC
abbrev gk (K : PySem.W.Frag) (cl : Cl) : Gx := ⟨K, cl.at', cl.xof, cl.tabs⟩
abbrev ExV (cls : Value) (d : Option Addr) (a : Addr) : HO := .ext fun h => ∃ (oe : Obj) (vs : Array Value), h.get? a = some oe ∧ Zc cls d oe ∧ oe.data = .fields vs
def NoD (H : Hp) (b : Addr) : Prop := ∀ o, H b = some o → ∃ ps, o = .tbl ps
theorem noD_none {H : Hp} {b : Addr} (h : H b = none) : NoD H b := fun o e => by rw [h] at e; cases e
theorem noD_not {H : Hp} {b : Addr} {o : HO} (h : H b = some o) (ht : ∀ ps, o ≠ .tbl ps := by intro _ z; cases z) : ¬ NoD H b := fun z => by
  obtain ⟨ps, e⟩ := z o h
  exact ht ps e
def LO (K : PySem.W.Frag) (O : List Addr) (H : Hp) (a : Addr) (vs : List V) : Prop :=
  vs.length ≤ sizeLine ∧ H a = some (.lst vs) ∧ a ∉ O
def ScO (K : PySem.W.Frag) (O : List Addr) (H : Hp) (a : Addr) (vs : List V) : Prop :=
  vs.length ≤ sizeLine ∧ ((Rd H a (.lst vs) ∧ a ∉ O) ∨
    ∃ (o : Obj) (its : Array Value) (n : Nat), K.lookup a = some o ∧ o.cls = .type "list" ∧ o.dict = none ∧ o.data = .seq its n ∧ its.size ≤ sizeLine ∧ Vals vs its.toList)
theorem ScO.sq {K : PySem.W.Frag} {O : List Addr} {H : Hp} {a : Addr} {vs : List V} (h : ScO K O H a vs) : SqL K H a vs := by
  rcases h.2 with h | h
  · exact .inl h.1
  · exact .inr h
def TO (K : PySem.W.Frag) (O : List Addr) (H : Hp) (a : Addr) (vs : List V) : Prop :=
  vs.length ≤ sizeLine ∧ ((Rd H a (.tup vs) ∧ a ∉ O) ∨
    ∃ (o : Obj) (its : Array Value) (n : Nat), K.lookup a = some o ∧ o.cls = .type "tuple" ∧ o.data = .seq its n ∧ its.size ≤ sizeLine ∧ Vals vs its.toList)
theorem LO.sq {K : PySem.W.Frag} {O : List Addr} {H : Hp} {a : Addr} {vs : List V} (h : LO K O H a vs) : SqL K H a vs := SqL.of h.2.1
theorem TO.sq {K : PySem.W.Frag} {O : List Addr} {H : Hp} {a : Addr} {vs : List V} (h : TO K O H a vs) : SqT K H a vs := by
  rcases h.2 with h | h
  · exact .inl h.1
  · exact .inr h
mutual
def Rp (G : Gx) (O : List Addr) (H : Hp) : D → V → Prop
  | .non, v => v = .non
  | .bl b, v => v = .bl b
  | .int i, v => v = .int i
  | .str x, v => v = .str x
  | .tup ds, v => ∃ a vs, v = .ref a ∧ TO G.K O H a vs ∧ RpA G O H ds vs
  | .lst ds, v => ∃ a vs, v = .ref a ∧ LO G.K O H a vs ∧ RpA G O H ds vs
  | .ins c fs, v => ∃ a dx gs, v = .ref a ∧ H a = some (.ins (G.cls c) dx gs) ∧ a ∉ O ∧ RpF G O H fs gs
  | .exn c fs, v => ∃ a dx gs, v = .ref a ∧ H a = some (ExV (.ref (G.cls c)) (some dx) a) ∧ a ∉ O ∧ H dx = some (.xd gs) ∧ dx ∉ O ∧ RpF G O H fs gs
  | .scr ns, v => ∃ a, v = .ref a ∧ ScO G.K O H a (ns.map V.int)
  | .dct kvs, v => ∃ a gs, v = .ref a ∧ H a = some (.dK gs) ∧ a ∉ O ∧ RpD G O H kvs gs
def RpA (G : Gx) (O : List Addr) (H : Hp) : List D → List V → Prop
  | [], vs => vs = []
  | d :: ds, vs => ∃ v r, vs = v :: r ∧ Rp G O H d v ∧ RpA G O H ds r
def RpF (G : Gx) (O : List Addr) (H : Hp) : List (Str × D) → List (Str × V) → Prop
  | [], gs => gs = []
  | (n, d) :: fs, gs => ∃ v r, gs = (n, v) :: r ∧ Rp G O H d v ∧ RpF G O H fs r
def RpD (G : Gx) (O : List Addr) (H : Hp) : List (Int × D) → List (Key × V) → Prop
  | [], gs => gs = []
  | (n, d) :: fs, gs => ∃ v r, gs = (.inl n, v) :: r ∧ Rp G O H d v ∧ RpD G O H fs r
end
structure Stp (O W : List Addr) (H : Hp) (O' W' : List Addr) (H' : Hp) : Prop where
  keep : ∀ b o, H b = some o → b ∉ W → (∀ ps, o ≠ .tbl ps) → H' b = some o
  wnew : ∀ b ∈ W', b ∈ W ∨ NoD H b
  onew : ∀ b ∈ O', b ∈ O ∨ NoD H b
  trk : ∀ b, ¬ NoD H b → ¬ NoD H' b
  ofz : ∀ b ∈ O, b ∉ W → b ∈ O'
structure Wf (O W : List Addr) (H : Hp) : Prop where
  sub : ∀ b ∈ W, b ∈ O
  trk : ∀ b ∈ O, ¬ NoD H b
theorem Stp.refl {O W : List Addr} {H : Hp} : Stp O W H O W H := ⟨fun _ _ h _ _ => h, fun _ h => .inl h, fun _ h => .inl h, fun _ h => h, fun _ h _ => h⟩
theorem Stp.trans {O W O1 W1 O2 W2 : List Addr} {H H1 H2 : Hp} (w : Wf O W H) (a : Stp O W H O1 W1 H1) (b : Stp O1 W1 H1 O2 W2 H2) : Stp O W H O2 W2 H2 where
  keep := fun c o h hc ht => b.keep c o (a.keep c o h hc ht) (fun z => by
    rcases a.wnew c z with q | q
    · exact hc q
    · exact noD_not h ht q) ht
  wnew := fun c hc => by
    rcases b.wnew c hc with q | q
    · exact a.wnew c q
    · by_cases h : NoD H c
      · exact .inr h
      · exact absurd q (a.trk c h)
  onew := fun c hc => by
    rcases b.onew c hc with q | q
    · exact a.onew c q
    · by_cases h : NoD H c
      · exact .inr h
      · exact absurd q (a.trk c h)
  trk := fun c h => b.trk c (a.trk c h)
  ofz := fun c h hc => b.ofz c (a.ofz c h hc) fun z => by
    rcases a.wnew c z with q | q
    · exact hc q
    · exact w.trk c h q
section
variable {G : Gx} {O W O' W' : List Addr} {H H' : Hp}
theorem Stp.at (s : Stp O W H O' W' H') (w : Wf O W H) {a : Addr} {o : HO} (h : H a = some o) (ha : a ∉ O) (ht : ∀ ps, o ≠ .tbl ps := by intro _ z; cases z) : H' a = some o ∧ a ∉ O' :=
  ⟨s.keep a o h (fun z => ha (w.sub a z)) ht, fun z => by
    rcases s.onew a z with q | q
    · exact ha q
    · exact noD_not h ht q⟩
theorem LO.step {a : Addr} {vs : List V} (w : Wf O W H) (s : Stp O W H O' W' H') (h : LO G.K O H a vs) : LO G.K O' H' a vs := ⟨h.1, (s.at w h.2.1 h.2.2).1, (s.at w h.2.1 h.2.2).2⟩
theorem TO.step {a : Addr} {vs : List V} (w : Wf O W H) (s : Stp O W H O' W' H') (h : TO G.K O H a vs) : TO G.K O' H' a vs := by
  refine ⟨h.1, ?_⟩
  rcases h.2 with ⟨r | ⟨o, r⟩, hn⟩ | h
  · exact .inl ⟨.inl (s.at w r hn).1, (s.at w r hn).2⟩
  · exact .inl ⟨.inr ⟨o, (s.at w r hn).1⟩, (s.at w r hn).2⟩
  · exact .inr h
theorem LO.less {a : Addr} {vs : List V} (h : ∀ b ∈ O', b ∈ O) (r : LO G.K O H a vs) : LO G.K O' H a vs := ⟨r.1, r.2.1, fun z => r.2.2 (h a z)⟩
theorem TO.less {a : Addr} {vs : List V} (h : ∀ b ∈ O', b ∈ O) (r : TO G.K O H a vs) : TO G.K O' H a vs := by
  refine ⟨r.1, ?_⟩
  rcases r.2 with ⟨r, hn⟩ | r
  · exact .inl ⟨r, fun z => hn (h a z)⟩
  · exact .inr r
mutual
theorem Rp.step (w : Wf O W H) (s : Stp O W H O' W' H') : ∀ {d : D} {v : V}, Rp G O H d v → Rp G O' H' d v
  | .non, v, h => by simpa only [Rp] using h
  | .bl b, v, h => by simpa only [Rp] using h
  | .int i, v, h => by simpa only [Rp] using h
  | .str x, v, h => by simpa only [Rp] using h
  | .tup ds, v, h => by
    simp only [Rp] at h ⊢
    obtain ⟨a, vs, e, t, r⟩ := h
    exact ⟨a, vs, e, t.step w s, RpA.step w s r⟩
  | .lst ds, v, h => by
    simp only [Rp] at h ⊢
    obtain ⟨a, vs, e, t, r⟩ := h
    exact ⟨a, vs, e, t.step w s, RpA.step w s r⟩
  | .ins c fs, v, h => by
    simp only [Rp] at h ⊢
    obtain ⟨a, dx, gs, e, t, n, r⟩ := h
    exact ⟨a, dx, gs, e, (s.at w t n).1, (s.at w t n).2, RpF.step w s r⟩
  | .exn c fs, v, h => by
    simp only [Rp] at h ⊢
    obtain ⟨a, dx, gs, e, t, n, t2, n2, r⟩ := h
    exact ⟨a, dx, gs, e, (s.at w t n).1, (s.at w t n).2, (s.at w t2 n2).1, (s.at w t2 n2).2, RpF.step w s r⟩
  | .scr ns, v, h => by
    simp only [Rp] at h ⊢
    obtain ⟨a, e, t⟩ := h
    refine ⟨a, e, t.1, ?_⟩
    rcases t.2 with ⟨r | ⟨o, r⟩, hn⟩ | h
    · exact .inl ⟨.inl (s.at w r hn).1, (s.at w r hn).2⟩
    · exact .inl ⟨.inr ⟨o, (s.at w r hn).1⟩, (s.at w r hn).2⟩
    · exact .inr h
  | .dct kvs, v, h => by
    simp only [Rp] at h ⊢
    obtain ⟨a, gs, e, t, n, r⟩ := h
    exact ⟨a, gs, e, (s.at w t n).1, (s.at w t n).2, RpD.step w s r⟩
theorem RpA.step (w : Wf O W H) (s : Stp O W H O' W' H') : ∀ {ds : List D} {vs : List V}, RpA G O H ds vs → RpA G O' H' ds vs
  | [], vs, h => by simpa only [RpA] using h
  | d :: ds, vs, h => by
    simp only [RpA] at h ⊢
    obtain ⟨v, r, e, h1, h2⟩ := h
    exact ⟨v, r, e, Rp.step w s h1, RpA.step w s h2⟩
theorem RpF.step (w : Wf O W H) (s : Stp O W H O' W' H') : ∀ {ds : List (Str × D)} {vs : List (Str × V)}, RpF G O H ds vs → RpF G O' H' ds vs
  | [], vs, h => by simpa only [RpF] using h
  | (n, d) :: ds, vs, h => by
    simp only [RpF] at h ⊢
    obtain ⟨v, r, e, h1, h2⟩ := h
    exact ⟨v, r, e, Rp.step w s h1, RpF.step w s h2⟩
theorem RpD.step (w : Wf O W H) (s : Stp O W H O' W' H') : ∀ {ds : List (Int × D)} {vs : List (Key × V)}, RpD G O H ds vs → RpD G O' H' ds vs
  | [], vs, h => by simpa only [RpD] using h
  | (n, d) :: ds, vs, h => by
    simp only [RpD] at h ⊢
    obtain ⟨v, r, e, h1, h2⟩ := h
    exact ⟨v, r, e, Rp.step w s h1, RpD.step w s h2⟩
end
mutual
theorem Rp.less (h : ∀ b ∈ O', b ∈ O) : ∀ {d : D} {v : V}, Rp G O H d v → Rp G O' H d v
  | .non, v, q => by simpa only [Rp] using q
  | .bl b, v, q => by simpa only [Rp] using q
  | .int i, v, q => by simpa only [Rp] using q
  | .str x, v, q => by simpa only [Rp] using q
  | .tup ds, v, q => by
    simp only [Rp] at q ⊢
    obtain ⟨a, vs, e, t, r⟩ := q
    exact ⟨a, vs, e, t.less h, RpA.less h r⟩
  | .lst ds, v, q => by
    simp only [Rp] at q ⊢
    obtain ⟨a, vs, e, t, r⟩ := q
    exact ⟨a, vs, e, t.less h, RpA.less h r⟩
  | .ins c fs, v, q => by
    simp only [Rp] at q ⊢
    obtain ⟨a, dx, gs, e, t, n, r⟩ := q
    exact ⟨a, dx, gs, e, t, fun z => n (h a z), RpF.less h r⟩
  | .exn c fs, v, q => by
    simp only [Rp] at q ⊢
    obtain ⟨a, dx, gs, e, t, n, t2, n2, r⟩ := q
    exact ⟨a, dx, gs, e, t, fun z => n (h a z), t2, fun z => n2 (h dx z), RpF.less h r⟩
  | .scr ns, v, q => by
    simp only [Rp] at q ⊢
    obtain ⟨a, e, t⟩ := q
    refine ⟨a, e, t.1, ?_⟩
    rcases t.2 with ⟨r, hn⟩ | r
    · exact .inl ⟨r, fun z => hn (h a z)⟩
    · exact .inr r
  | .dct kvs, v, q => by
    simp only [Rp] at q ⊢
    obtain ⟨a, gs, e, t, n, r⟩ := q
    exact ⟨a, gs, e, t, fun z => n (h a z), RpD.less h r⟩
theorem RpA.less (h : ∀ b ∈ O', b ∈ O) : ∀ {ds : List D} {vs : List V}, RpA G O H ds vs → RpA G O' H ds vs
  | [], vs, q => by simpa only [RpA] using q
  | d :: ds, vs, q => by
    simp only [RpA] at q ⊢
    obtain ⟨v, r, e, h1, h2⟩ := q
    exact ⟨v, r, e, Rp.less h h1, RpA.less h h2⟩
theorem RpF.less (h : ∀ b ∈ O', b ∈ O) : ∀ {ds : List (Str × D)} {vs : List (Str × V)}, RpF G O H ds vs → RpF G O' H ds vs
  | [], vs, q => by simpa only [RpF] using q
  | (n, d) :: ds, vs, q => by
    simp only [RpF] at q ⊢
    obtain ⟨v, r, e, h1, h2⟩ := q
    exact ⟨v, r, e, Rp.less h h1, RpF.less h h2⟩
theorem RpD.less (h : ∀ b ∈ O', b ∈ O) : ∀ {ds : List (Int × D)} {vs : List (Key × V)}, RpD G O H ds vs → RpD G O' H ds vs
  | [], vs, q => by simpa only [RpD] using q
  | (n, d) :: ds, vs, q => by
    simp only [RpD] at q ⊢
    obtain ⟨v, r, e, h1, h2⟩ := q
    exact ⟨v, r, e, Rp.less h h1, RpD.less h h2⟩
end
end
def OwnAt (G : Gx) (O W : List Addr) (H : Hp) (a : Addr) (xs : List D) : Prop :=
  a ∈ W ∧ ∃ vs, H a = some (.lst vs) ∧ vs.length ≤ sizeLine ∧ RpA G O H xs vs
def OwnD (G : Gx) (O W : List Addr) (H : Hp) (a : Addr) (kvs : List (Int × D)) : Prop :=
  a ∈ W ∧ ∃ gs, H a = some (.dK gs) ∧ RpD G O H kvs gs
mutual
/-- what is one's own; fp: the addresses of its lists -/
def OwT (G : Gx) (O W : List Addr) (H : Hp) : OT → V → List Addr → Prop
  | .dat d, v, fp => fp = [] ∧ Rp G O H d v
  | .lst ts, v, fp => ∃ a vs fs, v = .ref a ∧ fp = a :: fs ∧ a ∈ W ∧ a ∉ fs ∧ H a = some (.lst vs) ∧ vs.length ≤ sizeLine ∧ OwTs G O W H ts vs fs
  | .tup ts, v, fp => ∃ a vs, v = .ref a ∧ H a = some (.tup vs) ∧ a ∉ O ∧ vs.length ≤ sizeLine ∧ OwTs G O W H ts vs fp
def OwTs (G : Gx) (O W : List Addr) (H : Hp) : List OT → List V → List Addr → Prop
  | [], vs, fp => vs = [] ∧ fp = []
  | t :: ts, vs, fp => ∃ v r f g, vs = v :: r ∧ fp = f ++ g ∧ (∀ a ∈ f, a ∉ g) ∧ OwT G O W H t v f ∧ OwTs G O W H ts r g
end
def SlotR (G : Gx) (O W : List Addr) (H : Hp) (ov ov0 : Option V) : SD → Prop
  | .no => True
  | .sh d => ∃ v, ov = some v ∧ Rp G O H d v
  | .own xs => ∃ a, ov = some (.ref a) ∧ OwnAt G O W H a xs
  | .byr xs => ∃ a, ov = some (.ref a) ∧ ov0 = some (.ref a) ∧ OwnAt G O W H a xs
  | .xn c fs => ∃ a p gs, ov = some (.ref a) ∧ G.xof a = some (c, p) ∧ H p = some (.xd gs) ∧ p ∉ O ∧ RpF G O H fs gs
  | .gv => ov = ov0
  | .od kvs => ∃ a, ov = some (.ref a) ∧ OwnD G O W H a kvs
  | .ow _ => True
def SD.mine : SD → Bool
  | .own _ => true
  | .byr _ => true
  | .od _ => true
  | _ => false
structure KT (G : Gx) (O : List Addr) (H : Hp) : Prop where
  tc : KT0 G.tabs H
  k : ∀ q ∈ G.tabs.know, Rp G O H q.1 q.2
theorem KT.nil {G : Gx} {O : List Addr} {H : Hp} (h : G.tabs = {}) : KT G O H := ⟨by rw [h]; exact ⟨fun _ h => absurd h (by simp), fun _ h => absurd h (by simp)⟩, fun _ z => by rw [h] at z; exact absurd z (by simp)⟩
def OwS (G : Gx) (O W : List Addr) (σ : L2.St) (H : Hp) (ρ : List SD) : Prop := ∃ φ : Nat → List Addr,
  (∀ (i : Nat) (t : OT), ρ[i]? = some (.ow t) → ∃ v, σ[i]? = some (some v) ∧ OwT G O W H t v (φ i)) ∧
  (∀ (i j : Nat) (t u : OT) (a : Addr), ρ[i]? = some (.ow t) → ρ[j]? = some (.ow u) → a ∈ φ i → a ∈ φ j → i = j) ∧
  (∀ (i j : Nat) (t : OT) (s : SD) (a : Addr), ρ[i]? = some (.ow t) → ρ[j]? = some s → s.mine = true → σ[j]? = some (some (.ref a)) → a ∉ φ i)
structure Fre (G : Gx) (O W : List Addr) (σ : L2.St) (H : Hp) (ρ : List SD) (a : Addr) : Prop where
  m : ∀ (i : Nat) (s : SD), ρ[i]? = some s → s.mine = true → σ[i]? ≠ some (some (.ref a))
  t : ∀ (i : Nat) (u : OT) (v : V) (fp : List Addr), ρ[i]? = some (.ow u) → σ[i]? = some (some v) → OwT G O W H u v fp → a ∉ fp
structure SR (G : Gx) (vs0 : List V) (O W : List Addr) (σ : L2.St) (H : Hp) (ρ : List SD) : Prop where
  wf : Wf O W H
  len : σ.length = ρ.length
  slot : ∀ (i : Nat) (s : SD), ρ[i]? = some s → SlotR G O W H (σ[i]?.join) vs0[i]? s
  apart : ∀ (i j : Nat) (s t : SD) (a : Addr), ρ[i]? = some s → ρ[j]? = some t → s.mine = true → t.mine = true → σ[i]? = some (some (.ref a)) → σ[j]? = some (some (.ref a)) → i = j
  tabs : KT G O H
  ows : OwS G O W σ H ρ
def ResR (G : Gx) (O W : List Addr) (σ : L2.St) (H : Hp) (ρ : List SD) (v : V) : SD → Prop
  | .sh d => Rp G O H d v
  | .own xs => ∃ a, v = .ref a ∧ OwnAt G O W H a xs ∧ Fre G O W σ H ρ a
  | .od kvs => ∃ a, v = .ref a ∧ OwnD G O W H a kvs ∧ Fre G O W σ H ρ a
  | .ow t => ∃ fp, OwT G O W H t v fp ∧ ∀ a ∈ fp, Fre G O W σ H ρ a
  | _ => False
end Wm
end
section
namespace Wm
open PySem PySem.Spec PyProof.Rows L2
inductive Rs (α : Type) where
  | ok (a : α) | exc (c : Str) (fs : List (Str × D)) (ρ : List SD) | bad
def Rs.bind {α β : Type} : Rs α → (α → Rs β) → Rs β
  | .ok a, f => f a
  | .exc c fs ρ, _ => .exc c fs ρ
  | .bad, _ => .bad
abbrev Sx := List SD → Rs (SD × List SD)
abbrev Sb := List SD → Rs (Bool × List SD)
abbrev So := List SD → Rs (List D × List SD)
inductive Fl where
  | nx (ρ : List SD) | rt (r : SD) (ρ : List SD) | bk (ρ : List SD) | ct (ρ : List SD)
abbrev Ss := List SD → Rs Fl
abbrev gx (X : Cx) (cl : Cl) : Gx := gk X.K cl
def ExcA (G : Gx) (vs0 : List V) (Wx : WX) (O W : List Addr) (σ : L2.St) (H : Hp) (c : Str) (fs : List (Str × D)) (ρ' : List SD) : Prop :=
  ∀ p gs O' W' H', Stp O W H O' W' H' → SR G vs0 O' W' σ H' ρ' → (H' p = some (.xd gs) ∧ p ∉ O') → RpF G O' H' fs gs → Wx (.ref (G.cls c)) (some p) σ H'
def AftE (G : Gx) (vs0 : List V) (Wx : WX) (O W : List Addr) (σ : L2.St) (H : Hp) (Q : VK) : Rs (SD × List SD) → Prop
  | .ok (r, ρ') => ∀ v O' W' H', Stp O W H O' W' H' → SR G vs0 O' W' σ H' ρ' → ResR G O' W' σ H' ρ' v r → Q v H'
  | .exc c fs ρ' => ExcA G vs0 Wx O W σ H c fs ρ'
  | .bad => False
def AftB (G : Gx) (vs0 : List V) (Wx : WX) (O W : List Addr) (σ : L2.St) (H : Hp) (Q : Bool → Hp → Prop) : Rs (Bool × List SD) → Prop
  | .ok (r, ρ') => ∀ O' W' H', Stp O W H O' W' H' → SR G vs0 O' W' σ H' ρ' → Q r H'
  | .exc c fs ρ' => ExcA G vs0 Wx O W σ H c fs ρ'
  | .bad => False
def Op1 (G : Gx) (O W : List Addr) (H : Hp) (d : D) (v : V) : Prop := Rp G O H d v ∨ ∃ a xs, d = .lst xs ∧ v = .ref a ∧ OwnAt G O W H a xs
def OpA (G : Gx) (O W : List Addr) (H : Hp) : List D → List V → Prop
  | [], vs => vs = []
  | d :: ds, vs => ∃ v r, vs = v :: r ∧ Op1 G O W H d v ∧ OpA G O W H ds r
def AftO (G : Gx) (vs0 : List V) (Wx : WX) (O W : List Addr) (σ : L2.St) (H : Hp) (Q : List V → Hp → Prop) : Rs (List D × List SD) → Prop
  | .ok (ds, ρ') => ∀ vs O' W' H', Stp O W H O' W' H' → SR G vs0 O' W' σ H' ρ' → OpA G O' W' H' ds vs → Q vs H'
  | .exc c fs ρ' => ExcA G vs0 Wx O W σ H c fs ρ'
  | .bad => False
structure EJ (X : Cx) (cl : Cl) (vs0 : List V) (Wx : WX) (e : Expr) (f : Sx) : Prop where
  ex : ∃ t, PE X e t ∧ ∀ O W σ H ρ Q, SR (gx X cl) vs0 O W σ H ρ → AftE (gx X cl) vs0 Wx O W σ H Q (f ρ) → t σ H Q
structure TJ (X : Cx) (cl : Cl) (vs0 : List V) (Wx : WX) (e : Expr) (f : Sb) : Prop where
  ex : ∃ t, PT X e t ∧ ∀ O W σ H ρ Q, SR (gx X cl) vs0 O W σ H ρ → AftB (gx X cl) vs0 Wx O W σ H Q (f ρ) → t σ H Q
section
variable {G : Gx} {vs0 : List V} {O W O' W' O1 W1 : List Addr} {σ : L2.St} {H H' H1 : Hp} {ρ ρ' : List SD} {Wx : WX}
theorem ExcA.back {c : Str} {fs : List (Str × D)} (w : Wf O W H) (s : Stp O W H O1 W1 H1) (h : ExcA G vs0 Wx O W σ H c fs ρ') : ExcA G vs0 Wx O1 W1 σ H1 c fs ρ' :=
  fun p gs O' W' H' s' r hp hf => h p gs O' W' H' (s.trans w s') r hp hf
theorem AftE.back {Q : VK} (w : Wf O W H) (s : Stp O W H O1 W1 H1) : ∀ {r : Rs (SD × List SD)}, AftE G vs0 Wx O W σ H Q r → AftE G vs0 Wx O1 W1 σ H1 Q r
  | .ok (_, _), h => fun v O' W' H' s' sr rr => h v O' W' H' (s.trans w s') sr rr
  | .exc _ _ _, h => ExcA.back w s h
  | .bad, h => h
theorem AftB.back {Q : Bool → Hp → Prop} (w : Wf O W H) (s : Stp O W H O1 W1 H1) : ∀ {r : Rs (Bool × List SD)}, AftB G vs0 Wx O W σ H Q r → AftB G vs0 Wx O1 W1 σ H1 Q r
  | .ok (_, _), h => fun O' W' H' s' sr => h O' W' H' (s.trans w s') sr
  | .exc _ _ _, h => ExcA.back w s h
  | .bad, h => h
theorem tabs_but {T : TC} {H H' : Hp} {p : Addr} {o : HO} (t : KT0 T H) (hp : H p = some o) (k : ∀ b u, b ≠ p → H b = some u → H' b = some u) (ht : ∀ ps, o ≠ .tbl ps := by intro _ z; cases z) (hx : ∀ f, o ≠ .ext f := by intro _ z; cases z) : KT0 T H' := ⟨fun q hq => by
  obtain ⟨ps, h1, h2, h3⟩ := t.t q hq
  refine ⟨ps, k _ _ (fun z => ?_) h1, h2, fun pos cv hc => ?_⟩
  · rw [z, hp] at h1; exact ht ps (Option.some.inj h1)
  · obtain ⟨c, e1, e2⟩ := h3 pos cv hc
    refine ⟨c, e1, k _ _ (fun z => ?_) e2⟩
    rw [z, hp] at e2; exact hx _ (Option.some.inj e2), fun q hq => k _ _ (fun z => hx _ (Option.some.inj (hp.symm.trans (by rw [← z]; exact t.c q hq)))) (t.c q hq)⟩
theorem noD_same {b : Addr} (h : Same H H') (n : ¬ NoD H b) : ¬ NoD H' b := fun z => n fun o e => z o (h b o e)
theorem Stp.same (h : Same H H') : Stp O W H O W H' := ⟨fun b o e _ _ => h b o e, fun _ h => .inl h, fun _ h => .inl h, fun b hb => noD_same h hb, fun _ h _ => h⟩
theorem Stp.new {a : Addr} (h : Same H H') (n : H a = none) : Stp O W H (a :: O) (a :: W) H' := ⟨fun b o e _ _ => h b o e, fun b hb => by
  rcases List.mem_cons.mp hb with e | e
  · right; rw [e]; exact noD_none n
  · exact .inl e, fun b hb => by
  rcases List.mem_cons.mp hb with e | e
  · right; rw [e]; exact noD_none n
  · exact .inl e, fun b hb => noD_same h hb, fun _ h _ => List.mem_cons_of_mem _ h⟩
theorem Wf.same (w : Wf O W H) (h : Same H H') : Wf O W H' := ⟨w.sub, fun b hb => noD_same h (w.trk b hb)⟩
theorem Wf.new {a : Addr} (w : Wf O W H) (h : Same H H') (n : ¬ NoD H' a) : Wf (a :: O) (a :: W) H' := ⟨fun b hb => by
  rcases List.mem_cons.mp hb with e | e
  · rw [e]; exact List.mem_cons_self
  · exact List.mem_cons_of_mem _ (w.sub b e), fun b hb => by
  rcases List.mem_cons.mp hb with e | e
  · rw [e]; exact n
  · exact (w.same h).trk b e⟩
theorem OwnAt.step {a : Addr} {xs : List D} (w : Wf O W H) (s : Stp O W H O' W' H') (hw : ∀ b ∈ W, b ∈ W') (hk : ∀ b o, b ∈ W → H b = some o → H' b = some o) (h : OwnAt G O W H a xs) : OwnAt G O' W' H' a xs := by
  obtain ⟨h1, vs, h2, h3, h4⟩ := h
  exact ⟨hw a h1, vs, hk a _ h1 h2, h3, RpA.step w s h4⟩
mutual
theorem OwT.go {U W1 : List Addr} (w : Wf O U H) (s : Stp O U H O' W1 H') : ∀ {t : OT} {v : V} {fp : List Addr}, OwT G O W H t v fp → (∀ b ∈ fp, b ∈ W' ∧ ∀ vs, H b = some (.lst vs) → H' b = some (.lst vs)) → OwT G O' W' H' t v fp
  | .dat d, v, fp, h, _ => by
    simp only [OwT] at h ⊢
    exact ⟨h.1, h.2.step w s⟩
  | .lst ts, v, fp, h, k => by
    simp only [OwT] at h ⊢
    obtain ⟨a, vs, fs, e, ef, h1, h2, h3, h4, h5⟩ := h
    subst ef
    exact ⟨a, vs, fs, e, rfl, (k a (by simp)).1, h2, (k a (by simp)).2 _ h3, h4, OwTs.go w s h5 fun b hb => k b (List.mem_cons_of_mem _ hb)⟩
  | .tup ts, v, fp, h, k => by
    simp only [OwT] at h ⊢
    obtain ⟨a, vs, e, h3, h1, h4, h5⟩ := h
    exact ⟨a, vs, e, (s.at w h3 h1).1, (s.at w h3 h1).2, h4, OwTs.go w s h5 k⟩
theorem OwTs.go {U W1 : List Addr} (w : Wf O U H) (s : Stp O U H O' W1 H') : ∀ {ts : List OT} {vs : List V} {fp : List Addr}, OwTs G O W H ts vs fp → (∀ b ∈ fp, b ∈ W' ∧ ∀ vs, H b = some (.lst vs) → H' b = some (.lst vs)) → OwTs G O' W' H' ts vs fp
  | [], vs, fp, h, _ => by simpa only [OwTs] using h
  | t :: ts, vs, fp, h, k => by
    simp only [OwTs] at h ⊢
    obtain ⟨v, r, f, g, e, ef, h1, h2, h3⟩ := h
    subst ef
    exact ⟨v, r, f, g, e, rfl, h1, OwT.go w s h2 fun b hb => k b (List.mem_append.mpr (.inl hb)), OwTs.go w s h3 fun b hb => k b (List.mem_append.mpr (.inr hb))⟩
end
mutual
theorem OwT.less (hO : ∀ b ∈ O', b ∈ O) : ∀ {t : OT} {v : V} {fp : List Addr}, OwT G O W H t v fp → (∀ b ∈ fp, b ∈ W') → OwT G O' W' H t v fp
  | .dat d, v, fp, h, _ => by
    simp only [OwT] at h ⊢
    exact ⟨h.1, h.2.less hO⟩
  | .lst ts, v, fp, h, k => by
    simp only [OwT] at h ⊢
    obtain ⟨a, vs, fs, e, ef, h1, h2, h3, h4, h5⟩ := h
    subst ef
    exact ⟨a, vs, fs, e, rfl, k a (by simp), h2, h3, h4, OwTs.less hO h5 fun b hb => k b (List.mem_cons_of_mem _ hb)⟩
  | .tup ts, v, fp, h, k => by
    simp only [OwT] at h ⊢
    obtain ⟨a, vs, e, h3, h1, h4, h5⟩ := h
    exact ⟨a, vs, e, h3, fun z => h1 (hO a z), h4, OwTs.less hO h5 k⟩
theorem OwTs.less (hO : ∀ b ∈ O', b ∈ O) : ∀ {ts : List OT} {vs : List V} {fp : List Addr}, OwTs G O W H ts vs fp → (∀ b ∈ fp, b ∈ W') → OwTs G O' W' H ts vs fp
  | [], vs, fp, h, _ => by simpa only [OwTs] using h
  | t :: ts, vs, fp, h, k => by
    simp only [OwTs] at h ⊢
    obtain ⟨v, r, f, g, e, ef, h1, h2, h3⟩ := h
    subst ef
    exact ⟨v, r, f, g, e, rfl, h1, OwT.less hO h2 fun b hb => k b (List.mem_append.mpr (.inl hb)), OwTs.less hO h3 fun b hb => k b (List.mem_append.mpr (.inr hb))⟩
end
mutual
theorem OwT.sub : ∀ {t : OT} {v : V} {fp : List Addr}, OwT G O W H t v fp → ∀ b ∈ fp, b ∈ W
  | .dat d, v, fp, h, b, hb => by
    simp only [OwT] at h
    rw [h.1] at hb; cases hb
  | .lst ts, v, fp, h, b, hb => by
    simp only [OwT] at h
    obtain ⟨a, vs, fs, e, ef, h1, h2, h3, h4, h5⟩ := h
    subst ef
    rcases List.mem_cons.mp hb with z | z
    · rw [z]; exact h1
    · exact OwTs.sub h5 b z
  | .tup ts, v, fp, h, b, hb => by
    simp only [OwT] at h
    obtain ⟨a, vs, e, h3, h1, h4, h5⟩ := h
    exact OwTs.sub h5 b hb
theorem OwTs.sub : ∀ {ts : List OT} {vs : List V} {fp : List Addr}, OwTs G O W H ts vs fp → ∀ b ∈ fp, b ∈ W
  | [], vs, fp, h, b, hb => by
    simp only [OwTs] at h
    rw [h.2] at hb; cases hb
  | t :: ts, vs, fp, h, b, hb => by
    simp only [OwTs] at h
    obtain ⟨v, r, f, g, e, ef, h1, h2, h3⟩ := h
    subst ef
    rcases List.mem_append.mp hb with z | z
    · exact OwT.sub h2 b z
    · exact OwTs.sub h3 b z
end
mutual
theorem OwT.det : ∀ {t : OT} {v : V} {f f' : List Addr}, OwT G O W H t v f → OwT G O' W' H t v f' → f = f'
  | .dat d, v, f, f', h, h' => by
    simp only [OwT] at h h'
    rw [h.1, h'.1]
  | .lst ts, v, f, f', h, h' => by
    simp only [OwT] at h h'
    obtain ⟨a, vs, fs, e, ef, h1, h2, h3, h4, h5⟩ := h
    obtain ⟨a', vs', fs', e', ef', h1', h2', h3', h4', h5'⟩ := h'
    rw [e] at e'; cases e'
    rw [h3] at h3'; cases h3'
    rw [ef, ef', OwTs.det h5 h5']
  | .tup ts, v, f, f', h, h' => by
    simp only [OwT] at h h'
    obtain ⟨a, vs, e, h3, h1, h4, h5⟩ := h
    obtain ⟨a', vs', e', h3', h1', h4', h5'⟩ := h'
    rw [e] at e'; cases e'
    rw [h3] at h3'; cases h3'
    exact OwTs.det h5 h5'
theorem OwTs.det : ∀ {ts : List OT} {vs : List V} {f f' : List Addr}, OwTs G O W H ts vs f → OwTs G O' W' H ts vs f' → f = f'
  | [], vs, f, f', h, h' => by
    simp only [OwTs] at h h'
    rw [h.2, h'.2]
  | t :: ts, vs, f, f', h, h' => by
    simp only [OwTs] at h h'
    obtain ⟨v, r, f1, g1, e, ef, h1, h2, h3⟩ := h
    obtain ⟨v', r', f2, g2, e', ef', h1', h2', h3'⟩ := h'
    rw [e] at e'; cases e'
    rw [ef, ef', OwT.det h2 h2', OwTs.det h3 h3']
end
theorem OwS.nil (h : ∀ (i : Nat) (t : OT), ρ[i]? ≠ some (.ow t)) : OwS G O W σ H ρ := ⟨fun _ => [], fun i t e => absurd e (h i t), fun i _ t _ _ e => absurd e (h i t), fun i _ t _ _ e => absurd e (h i t)⟩
theorem OwS.go (h : OwS G O W σ H ρ) (w : Wf O W H) (s : Stp O W H O' W' H')
    (k : ∀ (i : Nat) (t : OT) (v : V) (fp : List Addr) (b : Addr), ρ[i]? = some (.ow t) → σ[i]? = some (some v) → OwT G O W H t v fp → b ∈ fp → b ∈ W' ∧ ∀ vs, H b = some (.lst vs) → H' b = some (.lst vs)) : OwS G O' W' σ H' ρ := by
  obtain ⟨φ, h1, h2, h3⟩ := h
  refine ⟨φ, fun i t e => ?_, h2, h3⟩
  obtain ⟨v, ev, o⟩ := h1 i t e
  exact ⟨v, ev, o.go w s fun b hb => k i t v _ b e ev o hb⟩
theorem OwS.step (h : OwS G O W σ H ρ) (w : Wf O W H) (s : Stp O W H O' W' H') (hw : ∀ b ∈ W, b ∈ W') (hk : ∀ b o, b ∈ W → H b = some o → H' b = some o) : OwS G O' W' σ H' ρ :=
  h.go w s fun _ _ _ _ b _ _ o hb => ⟨hw b (o.sub b hb), fun x e => hk b _ (o.sub b hb) e⟩
theorem OwS.less (h : OwS G O W σ H ρ) (hO : ∀ b ∈ O', b ∈ O) (k : ∀ (i : Nat) (t : OT) (v : V) (fp : List Addr) (b : Addr), ρ[i]? = some (.ow t) → σ[i]? = some (some v) → OwT G O W H t v fp → b ∈ fp → b ∈ W') : OwS G O' W' σ H ρ := by
  obtain ⟨φ, h1, h2, h3⟩ := h
  refine ⟨φ, fun i t e => ?_, h2, h3⟩
  obtain ⟨v, ev, o⟩ := h1 i t e
  exact ⟨v, ev, o.less hO fun b hb => k i t v _ b e ev o hb⟩
theorem OwS.map (h : OwS G O W σ H ρ) (k : ∀ (i : Nat) (t : OT) (v : V) (fp : List Addr), ρ[i]? = some (.ow t) → σ[i]? = some (some v) → OwT G O W H t v fp → OwT G O' W' H' t v fp) : OwS G O' W' σ H' ρ := by
  obtain ⟨φ, h1, h2, h3⟩ := h
  refine ⟨φ, fun i t e => ?_, h2, h3⟩
  obtain ⟨v, ev, o⟩ := h1 i t e
  exact ⟨v, ev, k i t v _ e ev o⟩
theorem OwS.mono {σ' : L2.St} (h : OwS G O W σ H ρ) (ho : ∀ (i : Nat) (t : OT), ρ'[i]? = some (.ow t) → ρ[i]? = some (.ow t) ∧ σ'[i]? = σ[i]?)
    (hm : ∀ (j : Nat) (s : SD) (a : Addr), ρ'[j]? = some s → s.mine = true → σ'[j]? = some (some (.ref a)) → (∃ s0, ρ[j]? = some s0 ∧ s0.mine = true ∧ σ[j]? = some (some (.ref a))) ∨ Fre G O W σ H ρ a) : OwS G O W σ' H ρ' := by
  obtain ⟨φ, h1, h2, h3⟩ := h
  refine ⟨φ, fun i t e => ?_, fun i j t u a e1 e2 => h2 i j t u a (ho i t e1).1 (ho j u e2).1, fun i j t s a e1 e2 m z hb => ?_⟩
  · rw [(ho i t e).2]; exact h1 i t (ho i t e).1
  · rcases hm j s a e2 m z with ⟨s0, q1, q2, q3⟩ | q
    · exact h3 i j t s0 a (ho i t e1).1 q1 q2 q3 hb
    · obtain ⟨v, ev, o⟩ := h1 i t (ho i t e1).1
      exact q.t i t v _ (ho i t e1).1 ev o hb
theorem OwS.putT {i : Nat} {u : OT} {v : V} {fp : List Addr} (hl : ρ.length = σ.length) (h : OwS G O W σ H ρ) (o : OwT G O W H u v fp) (f : ∀ a ∈ fp, Fre G O W σ H ρ a) : OwS G O W (σ.set i (some v)) H (ρ.set i (.ow u)) := by
  obtain ⟨φ, h1, h2, h3⟩ := h
  have inb : ∀ {k : Nat} {t : SD}, (ρ.set i (.ow u))[k]? = some t → k < σ.length := fun {k t} e => by
    have := (List.getElem?_eq_some_iff.mp e).1
    rw [List.length_set] at this
    omega
  obtain ⟨ψ, w1, w2⟩ : ∃ ψ : Nat → List Addr, ψ i = fp ∧ ∀ j, i ≠ j → ψ j = φ j := ⟨fun j => if j = i then fp else φ j, if_pos rfl, fun j z => if_neg fun y => z y.symm⟩
  refine ⟨ψ, fun j t e => ?_, fun j k t t' a e1 e2 m1 m2 => ?_, fun j k t s a e1 e2 m z hb => ?_⟩
  · by_cases hj : i = j
    · subst hj
      have q := inb e
      rw [List.getElem?_set_self (by rw [hl]; exact q)] at e; cases e
      rw [w1]
      exact ⟨v, List.getElem?_set_self q, o⟩
    · rw [List.getElem?_set_ne hj] at e
      rw [List.getElem?_set_ne hj, w2 j hj]
      exact h1 j t e
  · by_cases hj : i = j
    · by_cases hk : i = k
      · rw [← hj, ← hk]
      · rw [← hj, w1] at m1
        rw [w2 k hk] at m2
        rw [List.getElem?_set_ne hk] at e2
        obtain ⟨w, ev, ow⟩ := h1 k t' e2
        exact absurd m2 ((f a m1).t k t' w _ e2 ev ow)
    · by_cases hk : i = k
      · rw [w2 j hj] at m1
        rw [← hk, w1] at m2
        rw [List.getElem?_set_ne hj] at e1
        obtain ⟨w, ev, ow⟩ := h1 j t e1
        exact absurd m1 ((f a m2).t j t w _ e1 ev ow)
      · rw [w2 j hj] at m1
        rw [w2 k hk] at m2
        rw [List.getElem?_set_ne hj] at e1
        rw [List.getElem?_set_ne hk] at e2
        exact h2 j k t t' a e1 e2 m1 m2
  · have nk : i ≠ k := fun y => by
      subst y
      rw [List.getElem?_set_self (by rw [hl]; exact inb e2)] at e2; cases e2; cases m
    rw [List.getElem?_set_ne nk] at e2 z
    by_cases hj : i = j
    · rw [← hj, w1] at hb
      exact (f a hb).m k s e2 m z
    · rw [w2 j hj] at hb
      rw [List.getElem?_set_ne hj] at e1
      exact h3 j k t s a e1 e2 m z hb
theorem SlotR.step {ov ov0 : Option V} {s : SD} (w : Wf O W H) (st : Stp O W H O' W' H') (hw : ∀ b ∈ W, b ∈ W') (hk : ∀ b o, b ∈ W → H b = some o → H' b = some o) (h : SlotR G O W H ov ov0 s) : SlotR G O' W' H' ov ov0 s := by
  cases s with
  | no => trivial
  | sh d => obtain ⟨v, e, r⟩ := h; exact ⟨v, e, r.step w st⟩
  | own xs => obtain ⟨a, e, r⟩ := h; exact ⟨a, e, r.step w st hw hk⟩
  | byr xs => obtain ⟨a, e, e0, r⟩ := h; exact ⟨a, e, e0, r.step w st hw hk⟩
  | xn c fs => obtain ⟨a, p, gs, e, x, t, n, r⟩ := h; exact ⟨a, p, gs, e, x, (st.at w t n).1, (st.at w t n).2, RpF.step w st r⟩
  | gv => exact h
  | od kvs => obtain ⟨a, e, h1, gs, h2, h4⟩ := h; exact ⟨a, e, hw a h1, gs, hk a _ h1 h2, RpD.step w st h4⟩
  | ow _ => trivial
theorem SR.step (r : SR G vs0 O W σ H ρ) (w' : Wf O' W' H') (st : Stp O W H O' W' H') (hw : ∀ b ∈ W, b ∈ W') (hk : ∀ b o, b ∈ W → H b = some o → H' b = some o) (tb : KT0 G.tabs H') : SR G vs0 O' W' σ H' ρ :=
  ⟨w', r.len, fun i s e => (r.slot i s e).step r.wf st hw hk, r.apart, ⟨tb, fun q hq => (r.tabs.k q hq).step r.wf st⟩, r.ows.step r.wf st hw hk⟩
theorem SR.same (r : SR G vs0 O W σ H ρ) (h : Same H H') : SR G vs0 O W σ H' ρ := r.step (r.wf.same h) (Stp.same h) (fun _ h => h) (fun b o _ e => h b o e) (r.tabs.tc.ext h)
theorem SR.new {a : Addr} (r : SR G vs0 O W σ H ρ) (h : Same H H') (n : H a = none) (n' : ¬ NoD H' a) : SR G vs0 (a :: O) (a :: W) σ H' ρ :=
  r.step (r.wf.new h n') (Stp.new h n) (fun _ h => List.mem_cons_of_mem _ h) (fun b o _ e => h b o e) (r.tabs.tc.ext h)
abbrev off (a : Addr) (l : List Addr) : List Addr := l.filter fun b => decide (b ≠ a)
theorem mem_off {a b : Addr} {l : List Addr} : b ∈ off a l ↔ b ∈ l ∧ b ≠ a := by simp [off]
theorem Stp.off {a : Addr} (ha : a ∈ W) : Stp O W H (off a O) (off a W) H :=
  ⟨fun _ _ h _ _ => h, fun b hb => .inl (mem_off.mp hb).1, fun b hb => .inl (mem_off.mp hb).1, fun _ h => h, fun b hb hn => mem_off.mpr ⟨hb, fun e => hn (e ▸ ha)⟩⟩
theorem Wf.off {a : Addr} (w : Wf O W H) : Wf (off a O) (off a W) H :=
  ⟨fun b hb => mem_off.mpr ⟨w.sub b (mem_off.mp hb).1, (mem_off.mp hb).2⟩, fun b hb => w.trk b (mem_off.mp hb).1⟩
theorem less_off {a : Addr} : ∀ b ∈ off a O, b ∈ O := fun b hb => (mem_off.mp hb).1
theorem OwnAt.off {a b : Addr} {xs : List D} (h : OwnAt G O W H b xs) (hn : b ≠ a) : OwnAt G (off a O) (off a W) H b xs := by
  obtain ⟨h1, vs, h2, h3, h4⟩ := h
  exact ⟨mem_off.mpr ⟨h1, hn⟩, vs, h2, h3, h4.less less_off⟩
theorem OwnAt.data {a : Addr} {xs : List D} (h : OwnAt G O W H a xs) : Rp G (Wm.off a O) H (.lst xs) (.ref a) := by
  obtain ⟨h1, vs, h2, h3, h4⟩ := h
  simp only [Rp]
  exact ⟨a, vs, rfl, ⟨h3, h2, fun z => (mem_off.mp z).2 rfl⟩, h4.less less_off⟩
theorem SR.off {a : Addr} (r : SR G vs0 O W σ H ρ) (hn : Fre G O W σ H ρ a) : SR G vs0 (off a O) (off a W) σ H ρ := by
  refine ⟨r.wf.off, r.len, fun i s e => ?_, r.apart, ⟨r.tabs.tc, fun q hq => (r.tabs.k q hq).less less_off⟩, r.ows.less less_off fun i t v fp b e ev o hb => mem_off.mpr ⟨o.sub b hb, fun z => hn.t i t v fp e ev o (z ▸ hb)⟩⟩
  have q := r.slot i s e
  have nn := hn.m i s e
  cases s with
  | no => trivial
  | sh d => obtain ⟨v, e, r⟩ := q; exact ⟨v, e, r.less less_off⟩
  | own xs =>
    obtain ⟨b, e, r⟩ := q
    refine ⟨b, e, r.off fun z => nn rfl ?_⟩
    subst z
    cases hh : σ[i]? with
    | none => rw [hh] at e; cases e
    | some o => rw [hh] at e; exact congrArg some e
  | byr xs =>
    obtain ⟨b, e, e0, r⟩ := q
    refine ⟨b, e, e0, r.off fun z => nn rfl ?_⟩
    subst z
    cases hh : σ[i]? with
    | none => rw [hh] at e; cases e
    | some o => rw [hh] at e; exact congrArg some e
  | xn c fs => obtain ⟨b, p, gs, e, x, t, n, r⟩ := q; exact ⟨b, p, gs, e, x, t, fun z => n (less_off p z), RpF.less less_off r⟩
  | gv => exact q
  | od kvs =>
    obtain ⟨b, e, h1, gs, h2, h4⟩ := q
    refine ⟨b, e, mem_off.mpr ⟨h1, fun z => nn rfl ?_⟩, gs, h2, RpD.less less_off h4⟩
    subst z
    cases hh : σ[i]? with
    | none => rw [hh] at e; cases e
    | some o => rw [hh] at e; exact congrArg some e
  | ow _ => trivial
abbrev offl (fp l : List Addr) : List Addr := l.filter fun b => decide (b ∉ fp)
theorem mem_offl {fp l : List Addr} {b : Addr} : b ∈ offl fp l ↔ b ∈ l ∧ b ∉ fp := by simp [offl]
theorem less_offl {fp : List Addr} : ∀ b ∈ offl fp O, b ∈ O := fun b hb => (mem_offl.mp hb).1
theorem Stp.offl {fp : List Addr} (ha : ∀ b ∈ fp, b ∈ W) : Stp O W H (offl fp O) (offl fp W) H :=
  ⟨fun _ _ h _ _ => h, fun b hb => .inl (mem_offl.mp hb).1, fun b hb => .inl (mem_offl.mp hb).1, fun _ h => h, fun b hb hn => mem_offl.mpr ⟨hb, fun e => hn (ha b e)⟩⟩
theorem SR.offl {fp : List Addr} (r : SR G vs0 O W σ H ρ) (hn : ∀ a ∈ fp, Fre G O W σ H ρ a) : SR G vs0 (Wm.offl fp O) (Wm.offl fp W) σ H ρ := by
  refine ⟨⟨fun b hb => mem_offl.mpr ⟨r.wf.sub b (mem_offl.mp hb).1, (mem_offl.mp hb).2⟩, fun b hb => r.wf.trk b (mem_offl.mp hb).1⟩, r.len, fun i s e => ?_, r.apart, ⟨r.tabs.tc, fun q hq => (r.tabs.k q hq).less less_offl⟩, r.ows.less less_offl fun i t v fp' b e ev o hb => mem_offl.mpr ⟨o.sub b hb, fun z => (hn b z).t i t v fp' e ev o hb⟩⟩
  have q := r.slot i s e
  have nn : ∀ b, s.mine = true → (σ[i]?).join = some (.ref b) → b ∉ fp := fun b m w z => (hn b z).m i s e m (by
    cases hh : σ[i]? with
    | none => rw [hh] at w; cases w
    | some o => rw [hh] at w; exact congrArg some w)
  cases s with
  | no => trivial
  | sh d => obtain ⟨v, e, r⟩ := q; exact ⟨v, e, r.less less_offl⟩
  | own xs =>
    obtain ⟨b, e, h1, vs, h2, h3, h4⟩ := q
    exact ⟨b, e, mem_offl.mpr ⟨h1, nn b rfl e⟩, vs, h2, h3, RpA.less less_offl h4⟩
  | byr xs =>
    obtain ⟨b, e, e0, h1, vs, h2, h3, h4⟩ := q
    exact ⟨b, e, e0, mem_offl.mpr ⟨h1, nn b rfl e⟩, vs, h2, h3, RpA.less less_offl h4⟩
  | xn c fs => obtain ⟨b, p, gs, e, x, t, n, r⟩ := q; exact ⟨b, p, gs, e, x, t, fun z => n (less_offl p z), RpF.less less_offl r⟩
  | gv => exact q
  | od kvs =>
    obtain ⟨b, e, h1, gs, h2, h4⟩ := q
    exact ⟨b, e, mem_offl.mpr ⟨h1, nn b rfl e⟩, gs, h2, RpD.less less_offl h4⟩
  | ow _ => trivial
mutual
/-- what it is as data -/
def OT.dt : OT → D
  | .dat d => d
  | .lst ts => .lst (OT.dts ts)
  | .tup ts => .tup (OT.dts ts)
def OT.dts : List OT → List D
  | [] => []
  | t :: ts => t.dt :: OT.dts ts
end
mutual
theorem OwT.rp (hO : ∀ b ∈ O', b ∈ O) : ∀ {t : OT} {v : V} {fp : List Addr}, OwT G O W H t v fp → (∀ b ∈ fp, b ∉ O') → Rp G O' H t.dt v
  | .dat d, v, fp, h, _ => by
    simp only [OwT] at h
    simp only [OT.dt]
    exact h.2.less hO
  | .lst ts, v, fp, h, k => by
    simp only [OwT] at h
    obtain ⟨a, vs, fs, e, ef, h1, h2, h3, h4, h5⟩ := h
    subst ef
    simp only [OT.dt, Rp]
    exact ⟨a, vs, e, ⟨h4, h3, k a (by simp)⟩, OwTs.rp hO h5 fun b hb => k b (List.mem_cons_of_mem _ hb)⟩
  | .tup ts, v, fp, h, k => by
    simp only [OwT] at h
    obtain ⟨a, vs, e, h3, h1, h4, h5⟩ := h
    simp only [OT.dt, Rp]
    exact ⟨a, vs, e, ⟨h4, .inl ⟨.inl h3, fun z => h1 (hO a z)⟩⟩, OwTs.rp hO h5 k⟩
theorem OwTs.rp (hO : ∀ b ∈ O', b ∈ O) : ∀ {ts : List OT} {vs : List V} {fp : List Addr}, OwTs G O W H ts vs fp → (∀ b ∈ fp, b ∉ O') → RpA G O' H (OT.dts ts) vs
  | [], vs, fp, h, _ => by
    simp only [OwTs] at h
    simp only [OT.dts, RpA]
    exact h.1
  | t :: ts, vs, fp, h, k => by
    simp only [OwTs] at h
    obtain ⟨v, r, f, g, e, ef, h1, h2, h3⟩ := h
    subst ef
    simp only [OT.dts, RpA]
    exact ⟨v, r, e, OwT.rp hO h2 fun b hb => k b (List.mem_append.mpr (.inl hb)), OwTs.rp hO h3 fun b hb => k b (List.mem_append.mpr (.inr hb))⟩
end
def SD.frz : SD → D
  | .sh d => d
  | .own xs => .lst xs
  | .byr xs => .lst xs
  | .no => .non
  | .xn _ _ => .non
  | .gv => .non
  | .od kvs => .dct kvs
  | .ow t => t.dt
theorem ResR.frz {v : V} {r : SD} (sr : SR G vs0 O W σ H ρ) (h : ResR G O W σ H ρ v r) : ∃ O' W', Stp O W H O' W' H ∧ SR G vs0 O' W' σ H ρ ∧ Rp G O' H r.frz v := by
  cases r with
  | no => exact h.elim
  | byr xs => exact h.elim
  | xn _ _ => exact h.elim
  | gv => exact h.elim
  | od kvs =>
    obtain ⟨a, e, ⟨h1, gs, h2, h4⟩, n⟩ := h
    subst e
    refine ⟨off a O, off a W, Stp.off h1, sr.off n, ?_⟩
    simp only [SD.frz, Rp]
    exact ⟨a, gs, rfl, h2, fun z => (mem_off.mp z).2 rfl, RpD.less less_off h4⟩
  | ow t =>
    obtain ⟨fp, o, n⟩ := h
    exact ⟨offl fp O, offl fp W, Stp.offl o.sub, sr.offl n, o.rp less_offl fun b hb z => (mem_offl.mp z).2 hb⟩
  | sh d => exact ⟨O, W, Stp.refl, sr, h⟩
  | own xs =>
    obtain ⟨a, e, o, n⟩ := h
    subst e
    exact ⟨off a O, off a W, Stp.off o.1, sr.off n, o.data⟩
theorem join_some {o : Option (Option V)} {v : V} (h : o.join = some v) : o = some (some v) := by
  cases o with
  | none => cases h
  | some o => exact congrArg some h
theorem SR.get {i : Nat} {d : D} (r : SR G vs0 O W σ H ρ) (h : ρ[i]? = some (.sh d)) : ∃ v, σ[i]? = some (some v) ∧ Rp G O H d v := by
  obtain ⟨v, e, q⟩ := r.slot i _ h
  exact ⟨v, join_some e, q⟩
theorem SR.getOwn {i : Nat} {s : SD} {xs : List D} (r : SR G vs0 O W σ H ρ) (h : ρ[i]? = some s) (hs : s = .own xs ∨ s = .byr xs) : ∃ a, σ[i]? = some (some (.ref a)) ∧ OwnAt G O W H a xs := by
  rcases hs with rfl | rfl
  · obtain ⟨a, e, q⟩ := r.slot i _ h
    exact ⟨a, join_some e, q⟩
  · obtain ⟨a, e, _, q⟩ := r.slot i _ h
    exact ⟨a, join_some e, q⟩
theorem SR.mineW {i : Nat} {s : SD} (r : SR G vs0 O W σ H ρ) (h : ρ[i]? = some s) (m : s.mine = true) : ∃ a, σ[i]? = some (some (.ref a)) ∧ a ∈ W := by
  have q := r.slot i _ h
  cases s with
  | own xs => obtain ⟨a, e, q⟩ := q; exact ⟨a, join_some e, q.1⟩
  | byr xs => obtain ⟨a, e, _, q⟩ := q; exact ⟨a, join_some e, q.1⟩
  | od kvs => obtain ⟨a, e, q⟩ := q; exact ⟨a, join_some e, q.1⟩
  | ow _ => cases m
  | xn _ _ => cases m
  | gv => cases m
  | no => cases m
  | sh d => cases m
theorem OwS.write {i : Nat} {s0 s1 : SD} {a : Addr} {o' : HO} (h : OwS G O W σ H ρ) (w : Wf O W H) (st : Stp O W H O W (upd H a o')) (e0 : ρ[i]? = some s0) (m0 : s0.mine = true) (ea : σ[i]? = some (some (.ref a))) (hs : ∀ t, s1 ≠ .ow t) : OwS G O W σ (upd H a o') (ρ.set i s1) := by
  have h1 : OwS G O W σ (upd H a o') ρ := h.go w st fun j t v fp b e ev o hb => ⟨o.sub b hb, fun vs eb => by
    obtain ⟨φ, h1, _, h3⟩ := h
    obtain ⟨v', ev', o'⟩ := h1 j t e
    rw [ev] at ev'; cases ev'
    have : b ≠ a := fun z => h3 j i t s0 a e e0 m0 ea (OwT.det o o' ▸ z ▸ hb)
    rw [upd_ne this]; exact eb⟩
  refine h1.mono (fun j t e => ?_) fun j u b e m z => .inl ?_
  · by_cases hj : i = j
    · subst hj
      rw [List.getElem?_set_self (List.getElem?_eq_some_iff.mp e0).1] at e; cases e; exact absurd rfl (hs t)
    · rw [List.getElem?_set_ne hj] at e
      exact ⟨e, rfl⟩
  · by_cases hj : i = j
    · subst hj
      exact ⟨s0, e0, m0, z⟩
    · rw [List.getElem?_set_ne hj] at e
      exact ⟨u, e, m, z⟩
theorem SR.fre {a : Addr} (r : SR G vs0 O W σ H ρ) (h : a ∉ W) : Fre G O W σ H ρ a := ⟨fun i s e m z => by
  obtain ⟨b, eb, ob⟩ := r.mineW e m
  rw [eb] at z; cases z
  exact h ob, fun i u v fp _ _ o hb => h (o.sub a hb)⟩
theorem set_inb {i k : Nat} {s t : SD} (hl : σ.length = ρ.length) (h : (ρ.set i s)[k]? = some t) : k < σ.length := by
  have := (List.getElem?_eq_some_iff.mp h).1
  rw [List.length_set] at this
  omega
theorem SR.fre_of {a : Addr} (r : SR G vs0 O W σ H ρ) (hn : a ∉ W) (k : ∀ u v fp, OwT G O W H u v fp → OwT G O' W' H' u v fp) : Fre G O' W' σ H' ρ a := ⟨(r.fre hn).m, fun i u v fp e ev o hb => by
  obtain ⟨φ, h1, _, _⟩ := r.ows
  obtain ⟨v', ev', o'⟩ := h1 i u e
  rw [ev] at ev'; cases ev'
  exact hn (o'.sub a (OwT.det o (k u v _ o') ▸ hb))⟩
theorem SR.fre_mk {a : Addr} (r : SR G vs0 O W σ H ρ) (h : Same H H') (n : H a = none) : Fre G (a :: O) (a :: W) σ H' ρ a :=
  r.fre_of (fun z => r.wf.trk a (r.wf.sub a z) (noD_none n)) fun u v fp o => o.go r.wf (Stp.new h n) fun b hb => ⟨List.mem_cons_of_mem _ (o.sub b hb), fun o e => h b _ e⟩
theorem SR.fre_add {a : Addr} (r : SR G vs0 O W σ H ρ) (hn : a ∉ W) : Fre G O (a :: W) σ H ρ a :=
  r.fre_of hn fun u v fp o => o.less (fun _ h => h) fun b hb => List.mem_cons_of_mem _ (o.sub b hb)
theorem OwS.set1 {i : Nat} {s : SD} {v : V} (h : OwS G O W σ H ρ) (hl : σ.length = ρ.length) (hs : ∀ t, s ≠ .ow t) (hm : s.mine = true → ∀ a, v = .ref a → Fre G O W σ H ρ a) : OwS G O W (σ.set i (some v)) H (ρ.set i s) := by
  refine h.mono (fun j t e => ?_) fun j u a e m z => ?_
  · by_cases hj : i = j
    · subst hj
      rw [List.getElem?_set_self (by rw [← hl]; exact set_inb hl e)] at e
      cases e; exact absurd rfl (hs t)
    · rw [List.getElem?_set_ne hj] at e
      rw [List.getElem?_set_ne hj]
      exact ⟨e, rfl⟩
  · by_cases hj : i = j
    · subst hj
      have q := set_inb hl e
      rw [List.getElem?_set_self (by rw [← hl]; exact q)] at e
      rw [List.getElem?_set_self q] at z
      cases e; cases z
      exact .inr (hm m a rfl)
    · rw [List.getElem?_set_ne hj] at e z
      exact .inl ⟨u, e, m, z⟩
theorem OwS.set0 {i : Nat} {s : SD} (h : OwS G O W σ H ρ) (hs : ∀ t, s ≠ .ow t) (hm : s.mine = false) : OwS G O W σ H (ρ.set i s) := by
  have inb : ∀ {k : Nat} {t : SD}, (ρ.set i s)[k]? = some t → k < ρ.length := fun {k t} e => by
    have := (List.getElem?_eq_some_iff.mp e).1
    rw [List.length_set] at this
    exact this
  refine h.mono (fun j t e => ?_) fun j u a e m z => ?_
  · by_cases hj : i = j
    · subst hj
      rw [List.getElem?_set_self (inb e)] at e
      cases e; exact absurd rfl (hs t)
    · rw [List.getElem?_set_ne hj] at e
      exact ⟨e, rfl⟩
  · by_cases hj : i = j
    · subst hj
      rw [List.getElem?_set_self (inb e)] at e
      cases e; rw [hm] at m; cases m
    · rw [List.getElem?_set_ne hj] at e
      exact .inl ⟨u, e, m, z⟩
theorem SR.set {i : Nat} {d : D} {v : V} (r : SR G vs0 O W σ H ρ) (h : Rp G O H d v) : SR G vs0 O W (σ.set i (some v)) H (ρ.set i (.sh d)) := by
  refine ⟨r.wf, by rw [List.length_set, List.length_set, r.len], fun j s e => ?_, fun j k s t a e1 e2 m1 m2 s1 s2 => ?_, r.tabs, r.ows.set1 r.len (fun _ z => by cases z) fun m => by cases m⟩
  · by_cases hj : i = j
    · subst hj
      by_cases hl : i < ρ.length
      · rw [List.getElem?_set_self hl] at e; cases e
        rw [List.getElem?_set_self (by rw [r.len]; exact hl)]
        exact ⟨v, rfl, h⟩
      · rw [List.getElem?_eq_none (by rw [List.length_set]; omega)] at e; cases e
    · rw [List.getElem?_set_ne hj] at e
      rw [List.getElem?_set_ne hj]
      exact r.slot j s e
  · have nj : i ≠ j := fun z => by
      subst z
      by_cases hl : i < ρ.length
      · rw [List.getElem?_set_self hl] at e1; cases e1; cases m1
      · rw [List.getElem?_eq_none (by rw [List.length_set]; omega)] at e1; cases e1
    have nk : i ≠ k := fun z => by
      subst z
      by_cases hl : i < ρ.length
      · rw [List.getElem?_set_self hl] at e2; cases e2; cases m2
      · rw [List.getElem?_eq_none (by rw [List.length_set]; omega)] at e2; cases e2
    rw [List.getElem?_set_ne nj] at e1 s1
    rw [List.getElem?_set_ne nk] at e2 s2
    exact r.apart j k s t a e1 e2 m1 m2 s1 s2
theorem SR.setM {i : Nat} {u : SD} {a : Addr} (r : SR G vs0 O W σ H ρ) (h : ∀ ov0, SlotR G O W H (some (.ref a)) ov0 u) (hu : ∀ t, u ≠ .ow t) (hf : Fre G O W σ H ρ a) :
    SR G vs0 O W (σ.set i (some (.ref a))) H (ρ.set i u) := by
  have hn := hf.m
  refine ⟨r.wf, by rw [List.length_set, List.length_set, r.len], fun j s e => ?_, fun j k s t b e1 e2 m1 m2 s1 s2 => ?_, r.tabs, r.ows.set1 r.len hu fun _ b e => by cases e; exact hf⟩
  · by_cases hj : i = j
    · subst hj
      by_cases hl : i < ρ.length
      · rw [List.getElem?_set_self hl] at e; cases e
        rw [List.getElem?_set_self (by rw [r.len]; exact hl)]
        exact h _
      · rw [List.getElem?_eq_none (by rw [List.length_set]; omega)] at e; cases e
    · rw [List.getElem?_set_ne hj] at e
      rw [List.getElem?_set_ne hj]
      exact r.slot j s e
  · have inb : ∀ {k : Nat} {t : SD}, (ρ.set i u)[k]? = some t → k < σ.length := fun {k t} e => by
      have := (List.getElem?_eq_some_iff.mp e).1
      rw [List.length_set] at this
      rw [r.len]; exact this
    by_cases nj : i = j
    · by_cases nk : i = k
      · exact nj.symm.trans nk
      · subst nj
        rw [List.getElem?_set_self (inb e1)] at s1
        rw [List.getElem?_set_ne nk] at e2 s2
        cases s1
        exact absurd s2 (hn k t e2 m2)
    · by_cases nk : i = k
      · subst nk
        rw [List.getElem?_set_self (inb e2)] at s2
        rw [List.getElem?_set_ne nj] at e1 s1
        cases s2
        exact absurd s1 (hn j s e1 m1)
      · rw [List.getElem?_set_ne nj] at e1 s1
        rw [List.getElem?_set_ne nk] at e2 s2
        exact r.apart j k s t b e1 e2 m1 m2 s1 s2
theorem SR.setOwn {i : Nat} {xs : List D} {a : Addr} (r : SR G vs0 O W σ H ρ) (h : OwnAt G O W H a xs) (hn : Fre G O W σ H ρ a) :
    SR G vs0 O W (σ.set i (some (.ref a))) H (ρ.set i (.own xs)) := r.setM (fun _ => ⟨a, rfl, h⟩) (fun _ z => by cases z) hn
theorem SR.setT {i : Nat} {u : OT} {v : V} {fp : List Addr} (r : SR G vs0 O W σ H ρ) (h : OwT G O W H u v fp) (hf : ∀ a ∈ fp, Fre G O W σ H ρ a) : SR G vs0 O W (σ.set i (some v)) H (ρ.set i (.ow u)) := by
  refine ⟨r.wf, by rw [List.length_set, List.length_set, r.len], fun j s e => ?_, fun j k s t a e1 e2 m1 m2 s1 s2 => ?_, r.tabs, r.ows.putT r.len.symm h hf⟩
  · by_cases hj : i = j
    · subst hj
      rw [List.getElem?_set_self (by rw [← r.len]; exact set_inb r.len e)] at e; cases e
      trivial
    · rw [List.getElem?_set_ne hj] at e
      rw [List.getElem?_set_ne hj]
      exact r.slot j s e
  · have key : ∀ {j : Nat} {s : SD}, (ρ.set i (.ow u))[j]? = some s → s.mine = true → i ≠ j := fun {j s} e m z => by
      subst z
      rw [List.getElem?_set_self (by rw [← r.len]; exact set_inb r.len e)] at e; cases e; cases m
    have nj := key e1 m1
    have nk := key e2 m2
    rw [List.getElem?_set_ne nj] at e1 s1
    rw [List.getElem?_set_ne nk] at e2 s2
    exact r.apart j k s t a e1 e2 m1 m2 s1 s2
theorem SR.put {i : Nat} {v : V} {s : SD} (r : SR G vs0 O W σ H ρ) (h : ResR G O W σ H ρ v s) : SR G vs0 O W (σ.set i (some v)) H (ρ.set i s) := by
  cases s with
  | no => exact h.elim
  | byr xs => exact h.elim
  | xn _ _ => exact h.elim
  | gv => exact h.elim
  | sh d => exact r.set h
  | own xs =>
    obtain ⟨a, e, o, n⟩ := h
    subst e
    exact r.setOwn o n
  | od kvs =>
    obtain ⟨a, e, o, n⟩ := h
    subst e
    exact r.setM (fun _ => ⟨a, rfl, o⟩) (fun _ z => by cases z) n
  | ow t =>
    obtain ⟨fp, o, n⟩ := h
    exact r.setT o n
theorem SR.demoteM {i : Nat} {s : SD} {d : D} {a : Addr} (r : SR G vs0 O W σ H ρ) (h : ρ[i]? = some s) (hm : s.mine = true) (e : σ[i]? = some (some (.ref a))) (hd : Rp G (Wm.off a O) H d (.ref a)) :
    SR G vs0 (Wm.off a O) (Wm.off a W) σ H (ρ.set i (.sh d)) := by
  have ffs : ∀ (i' : Nat) (t : OT) (v : V) (fp : List Addr) (b : Addr), (ρ.set i (.sh d))[i']? = some (.ow t) → σ[i']? = some (some v) → OwT G O W H t v fp → b ∈ fp → b ∈ Wm.off a W := fun i' t v fp b q ev o hb => mem_off.mpr ⟨o.sub b hb, fun z => by
    subst z
    have ni : i ≠ i' := fun y => by
      subst y
      rw [List.getElem?_set_self (List.getElem?_eq_some_iff.mp h).1] at q; cases q
    rw [List.getElem?_set_ne ni] at q
    obtain ⟨φ, h1, h2, h3⟩ := r.ows
    obtain ⟨v', ev', o'⟩ := h1 i' t q
    rw [ev] at ev'; cases ev'
    exact h3 i' i t s b q h hm e (OwT.det o o' ▸ hb)⟩
  refine ⟨r.wf.off, by rw [List.length_set, r.len], fun j t q => ?_, fun j k t u b e1 e2 m1 m2 s1 s2 => ?_, ⟨r.tabs.tc, fun q hq => (r.tabs.k q hq).less less_off⟩, (r.ows.set0 (fun _ z => by cases z) rfl).less less_off ffs⟩
  · by_cases hj : i = j
    · subst hj
      rw [List.getElem?_set_self (List.getElem?_eq_some_iff.mp h).1] at q; cases q
      rw [e]
      exact ⟨.ref a, rfl, hd⟩
    · rw [List.getElem?_set_ne hj] at q
      have z := r.slot j t q
      have ne : ∀ b, t.mine = true → (σ[j]?).join = some (.ref b) → b ≠ a := fun b m w y => by
        subst y
        exact hj (r.apart i j s t b h q hm m e (join_some w))
      cases t with
      | no => trivial
      | sh d => obtain ⟨v, e, r⟩ := z; exact ⟨v, e, r.less less_off⟩
      | own ys => obtain ⟨b, e, r⟩ := z; exact ⟨b, e, r.off (ne b rfl e)⟩
      | byr ys => obtain ⟨b, e, e0, r⟩ := z; exact ⟨b, e, e0, r.off (ne b rfl e)⟩
      | xn c fs => obtain ⟨b, p, gs, e, x, t, n, r⟩ := z; exact ⟨b, p, gs, e, x, t, fun z => n (less_off p z), RpF.less less_off r⟩
      | gv => exact z
      | od kvs => obtain ⟨b, e, h1, gs, h2, h4⟩ := z; exact ⟨b, e, mem_off.mpr ⟨h1, ne b rfl e⟩, gs, h2, RpD.less less_off h4⟩
      | ow _ => trivial
  · have nj : i ≠ j := fun z => by
      subst z
      rw [List.getElem?_set_self (List.getElem?_eq_some_iff.mp h).1] at e1; cases e1; cases m1
    have nk : i ≠ k := fun z => by
      subst z
      rw [List.getElem?_set_self (List.getElem?_eq_some_iff.mp h).1] at e2; cases e2; cases m2
    rw [List.getElem?_set_ne nj] at e1
    rw [List.getElem?_set_ne nk] at e2
    exact r.apart j k t u b e1 e2 m1 m2 s1 s2
theorem SR.demote {i : Nat} {s : SD} {xs : List D} (r : SR G vs0 O W σ H ρ) (h : ρ[i]? = some s) (hs : s = .own xs ∨ s = .byr xs) :
    ∃ a O' W', σ[i]? = some (some (.ref a)) ∧ Stp O W H O' W' H ∧ SR G vs0 O' W' σ H (ρ.set i (.sh (.lst xs))) ∧ Rp G O' H (.lst xs) (.ref a) := by
  obtain ⟨a, e, o⟩ := r.getOwn h hs
  have hm : s.mine = true := by rcases hs with rfl | rfl <;> rfl
  exact ⟨a, Wm.off a O, Wm.off a W, e, Stp.off o.1, r.demoteM h hm e o.data, o.data⟩
theorem SR.getD {i : Nat} {kvs : List (Int × D)} (r : SR G vs0 O W σ H ρ) (h : ρ[i]? = some (.od kvs)) : ∃ a, σ[i]? = some (some (.ref a)) ∧ OwnD G O W H a kvs := by
  obtain ⟨a, e, q⟩ := r.slot i _ h
  exact ⟨a, join_some e, q⟩
theorem OwnD.data {a : Addr} {kvs : List (Int × D)} (h : OwnD G O W H a kvs) : Rp G (Wm.off a O) H (.dct kvs) (.ref a) := by
  obtain ⟨h1, gs, h2, h4⟩ := h
  simp only [Rp]
  exact ⟨a, gs, rfl, h2, fun z => (mem_off.mp z).2 rfl, RpD.less less_off h4⟩
theorem SR.demoteD {i : Nat} {kvs : List (Int × D)} (r : SR G vs0 O W σ H ρ) (h : ρ[i]? = some (.od kvs)) :
    ∃ a O' W', σ[i]? = some (some (.ref a)) ∧ Stp O W H O' W' H ∧ SR G vs0 O' W' σ H (ρ.set i (.sh (.dct kvs))) ∧ Rp G O' H (.dct kvs) (.ref a) := by
  obtain ⟨a, e, o⟩ := r.getD h
  exact ⟨a, Wm.off a O, Wm.off a W, e, Stp.off o.1, r.demoteM h rfl e o.data, o.data⟩
theorem SR.getT {i : Nat} {t : OT} (r : SR G vs0 O W σ H ρ) (h : ρ[i]? = some (.ow t)) : ∃ v fp, σ[i]? = some (some v) ∧ OwT G O W H t v fp ∧ (∀ a ∈ fp, ∀ s, Fre G O W σ H (ρ.set i s) a ∨ s.mine = true ∨ ∃ u, s = .ow u) := by
  obtain ⟨φ, h1, h2, h3⟩ := r.ows
  obtain ⟨v, ev, o⟩ := h1 i t h
  refine ⟨v, φ i, ev, o, fun a ha s => ?_⟩
  cases hm : s.mine with
  | true => exact .inr (.inl rfl)
  | false =>
    by_cases hs : ∃ u, s = .ow u
    · exact .inr (.inr hs)
    · refine .inl ⟨fun j u e m z => ?_, fun j u w fp e ew ow hb => ?_⟩
      · by_cases hj : i = j
        · subst hj
          rw [List.getElem?_set_self (List.getElem?_eq_some_iff.mp h).1] at e; cases e
          rw [hm] at m; cases m
        · rw [List.getElem?_set_ne hj] at e
          exact h3 i j t u a h e m z ha
      · by_cases hj : i = j
        · subst hj
          rw [List.getElem?_set_self (List.getElem?_eq_some_iff.mp h).1] at e; cases e
          exact hs ⟨u, rfl⟩
        · rw [List.getElem?_set_ne hj] at e
          obtain ⟨w', ew', ow'⟩ := h1 j u e
          rw [ew] at ew'; cases ew'
          exact hj (h2 i j t u a h e ha (OwT.det ow ow' ▸ hb))
theorem SR.set0 {i : Nat} (r : SR G vs0 O W σ H ρ) : SR G vs0 O W σ H (ρ.set i .no) := by
  have inb : ∀ {k : Nat} {t : SD}, (ρ.set i .no)[k]? = some t → k < ρ.length := fun {k t} e => by
    have := (List.getElem?_eq_some_iff.mp e).1
    rw [List.length_set] at this
    exact this
  refine ⟨r.wf, by rw [List.length_set, r.len], fun j s e => ?_, fun j k s t a e1 e2 m1 m2 s1 s2 => ?_, r.tabs, r.ows.set0 (fun _ z => by cases z) rfl⟩
  · by_cases hj : i = j
    · subst hj
      rw [List.getElem?_set_self (inb e)] at e; cases e
      trivial
    · rw [List.getElem?_set_ne hj] at e
      exact r.slot j s e
  · have key : ∀ {j : Nat} {s : SD}, (ρ.set i .no)[j]? = some s → s.mine = true → i ≠ j := fun {j s} e m z => by
      subst z
      rw [List.getElem?_set_self (inb e)] at e; cases e; cases m
    have nj := key e1 m1
    have nk := key e2 m2
    rw [List.getElem?_set_ne nj] at e1
    rw [List.getElem?_set_ne nk] at e2
    exact r.apart j k s t a e1 e2 m1 m2 s1 s2
theorem SR.demoteT {i : Nat} {t : OT} (r : SR G vs0 O W σ H ρ) (h : ρ[i]? = some (.ow t)) :
    ∃ v O' W', σ[i]? = some (some v) ∧ Stp O W H O' W' H ∧ SR G vs0 O' W' σ H (ρ.set i (.sh t.dt)) ∧ Rp G O' H t.dt v := by
  obtain ⟨v, fp, ev, o, f⟩ := r.getT h
  have sr1 := (r.set0 (i := i)).offl (fp := fp) fun a ha => by
    rcases f a ha .no with z | z | ⟨_, z⟩
    · exact z
    · cases z
    · cases z
  have rp : Rp G (Wm.offl fp O) H t.dt v := o.rp less_offl fun b hb z => (mem_offl.mp z).2 hb
  have sr2 := sr1.set (i := i) rp
  rw [List.set_set] at sr2
  refine ⟨v, _, _, ev, Stp.offl o.sub, ?_, rp⟩
  have : σ.set i (some v) = σ := by
    apply List.ext_getElem?
    intro j
    by_cases hj : i = j
    · subst hj
      rw [List.getElem?_set_self (List.getElem?_eq_some_iff.mp ev).1, ev]
    · rw [List.getElem?_set_ne hj]
  rw [this] at sr2
  exact sr2
end
section
variable {X : Cx} {cl : Cl} {vs0 : List V} {Wx : WX}
def xC (d : D) : Sx := fun ρ => .ok (.sh d, ρ)
theorem ej_c {e : Expr} {v : V} {d : D} (h : PE X e (tC v)) (r : ∀ O H, Rp (gx X cl) O H d v) : EJ X cl vs0 Wx e (xC d) :=
  ⟨⟨_, h, fun O W σ H ρ Q sr q => q v O W H Stp.refl sr (r O H)⟩⟩
theorem ej_int {i : Int} {j pos} : EJ X cl vs0 Wx (.Constant (.int i) j pos) (xC (.int i)) := ej_c pe_int fun _ _ => by simp only [Rp]
theorem ej_bl {i : Bool} {j pos} : EJ X cl vs0 Wx (.Constant (.bool i) j pos) (xC (.bl i)) := ej_c pe_bl fun _ _ => by simp only [Rp]
theorem ej_str {i : Str} {j pos} : EJ X cl vs0 Wx (.Constant (.str i) j pos) (xC (.str i)) := ej_c pe_str fun _ _ => by simp only [Rp]
theorem ej_non {j pos} : EJ X cl vs0 Wx (.Constant .none j pos) (xC .non) := ej_c pe_non fun _ _ => by simp only [Rp]
def xVar (i : Nat) : Sx := fun ρ => match ρ[i]? with
  | some (.sh d) => .ok (.sh d, ρ)
  | some (.own xs) => .ok (.sh (.lst xs), ρ.set i (.sh (.lst xs)))
  | some (.byr xs) => .ok (.sh (.lst xs), ρ.set i (.sh (.lst xs)))
  | some (.od kvs) => .ok (.sh (.dct kvs), ρ.set i (.sh (.dct kvs)))
  | some (.ow t) => .ok (.sh t.dt, ρ.set i (.sh t.dt))
  | _ => .bad
theorem ej_var {i : Nat} {e : Expr} (h : PE X e (tVar i)) : EJ X cl vs0 Wx e (xVar i) := by
  refine ⟨⟨_, h, fun O W σ H ρ Q sr q => ?_⟩⟩
  unfold xVar at q
  split at q
  · rename_i d e
    obtain ⟨v, e1, r⟩ := sr.get e
    exact ⟨v, e1, q v O W H Stp.refl sr r⟩
  · rename_i xs e
    obtain ⟨a, O', W', e1, st, sr', r⟩ := sr.demote e (.inl rfl)
    exact ⟨_, e1, q (.ref a) O' W' H st sr' r⟩
  · rename_i xs e
    obtain ⟨a, O', W', e1, st, sr', r⟩ := sr.demote e (.inr rfl)
    exact ⟨_, e1, q (.ref a) O' W' H st sr' r⟩
  · rename_i kvs e
    obtain ⟨a, O', W', e1, st, sr', r⟩ := sr.demoteD e
    exact ⟨_, e1, q (.ref a) O' W' H st sr' r⟩
  · rename_i t e
    obtain ⟨v, O', W', e1, st, sr', r⟩ := sr.demoteT e
    exact ⟨_, e1, q v O' W' H st sr' r⟩
  · exact q.elim
end
inductive LOp where
  | va (i : Nat) | ex (f : Sx)
def lookD (ρ : List SD) (i : Nat) : Rs D := match ρ[i]? with
  | some (.sh d) => .ok d
  | some (.own xs) => .ok (.lst xs)
  | some (.byr xs) => .ok (.lst xs)
  | _ => .bad
def ops : List LOp → So
  | [], ρ => .ok ([], ρ)
  | .va i :: r, ρ => (lookD ρ i).bind fun _ => (ops r ρ).bind fun p => (lookD p.2 i).bind fun d => .ok (d :: p.1, p.2)
  | .ex f :: r, ρ => (f ρ).bind fun p => (ops r p.2).bind fun q => .ok (p.1.frz :: q.1, q.2)
def LJ (X : Cx) (cl : Cl) (vs0 : List V) (Wx : WX) (e : Expr) : LOp → Prop
  | .va i => PE X e (tVar i)
  | .ex f => EJ X cl vs0 Wx e f
def tAll : List TE → TA
  | [] => tNil
  | t :: ts => tCons t (tAll ts)
inductive PEs (X : Cx) : List Expr → List TE → Prop where
  | nil : PEs X [] []
  | cons {e : Expr} {t : TE} {es : List Expr} {ts : List TE} : PE X e t → PEs X es ts → PEs X (e :: es) (t :: ts)
structure OJ (X : Cx) (cl : Cl) (vs0 : List V) (Wx : WX) (es : List Expr) (fl : List LOp) : Prop where
  ex : ∃ ts, PEs X es ts ∧ PA X es (tAll ts) ∧ ∀ O W σ H ρ R, SR (gx X cl) vs0 O W σ H ρ → AftO (gx X cl) vs0 Wx O W σ H R (ops fl ρ) → tAll ts σ H R
section
variable {X : Cx} {cl : Cl} {vs0 : List V} {Wx : WX}
theorem lookD_sr {G : Gx} {O W : List Addr} {σ : L2.St} {H : Hp} {ρ : List SD} {i : Nat} {d : D} (sr : SR G vs0 O W σ H ρ) (h : lookD ρ i = .ok d) : ∃ v, σ[i]? = some (some v) ∧ Op1 G O W H d v := by
  unfold lookD at h
  split at h
  · rename_i d' e
    cases h
    obtain ⟨v, e1, r⟩ := sr.get e
    exact ⟨v, e1, .inl r⟩
  · rename_i xs e
    cases h
    obtain ⟨a, e1, o⟩ := sr.getOwn e (.inl rfl)
    exact ⟨_, e1, .inr ⟨a, xs, rfl, rfl, o⟩⟩
  · rename_i xs e
    cases h
    obtain ⟨a, e1, o⟩ := sr.getOwn e (.inr rfl)
    exact ⟨_, e1, .inr ⟨a, xs, rfl, rfl, o⟩⟩
  · cases h
theorem lookD_noexc {ρ : List SD} {i : Nat} {c : Str} {fs : List (Str × D)} {ρ' : List SD} : lookD ρ i ≠ .exc c fs ρ' := by
  unfold lookD
  split <;> exact fun z => nomatch z
theorem oj_nil : OJ X cl vs0 Wx [] [] := ⟨⟨[], .nil, pa_nil, fun O W σ H ρ R sr h => h [] O W H Stp.refl sr rfl⟩⟩
theorem oj_cons {e : Expr} {es : List Expr} {o : LOp} {fl : List LOp} (h : LJ X cl vs0 Wx e o) (hr : OJ X cl vs0 Wx es fl) (hs : starEach (e :: es) X.env = (false, eval e X.env) :: starEach es X.env := by rfl) : OJ X cl vs0 Wx (e :: es) (o :: fl) := by
  obtain ⟨ts, p1, p2, p3⟩ := hr.ex
  cases o with
  | va i =>
    refine ⟨⟨tVar i :: ts, .cons h p1, pa_cons h p2 hs, fun O W σ H ρ R sr hw => ?_⟩⟩
    have hw' : AftO (gx X cl) vs0 Wx O W σ H R ((lookD ρ i).bind fun _ => (ops fl ρ).bind fun p => (lookD p.2 i).bind fun d => .ok (d :: p.1, p.2)) := hw
    cases e0 : lookD ρ i with
    | bad => rw [e0] at hw'; exact hw'.elim
    | exc c fs ρ' => exact absurd e0 lookD_noexc
    | ok d0 =>
      rw [e0] at hw'
      obtain ⟨v, ev, _⟩ := lookD_sr sr e0
      refine ⟨v, ev, p3 O W σ H ρ _ sr ?_⟩
      have hw2 : AftO (gx X cl) vs0 Wx O W σ H R ((ops fl ρ).bind fun p => (lookD p.2 i).bind fun d => .ok (d :: p.1, p.2)) := hw'
      cases e1 : ops fl ρ with
      | bad => rw [e1] at hw2; exact hw2
      | exc c fs ρ' => rw [e1] at hw2; exact hw2
      | ok p =>
        obtain ⟨ds, ρ1⟩ := p
        rw [e1] at hw2
        have hw3 : AftO (gx X cl) vs0 Wx O W σ H R ((lookD ρ1 i).bind fun d => .ok (d :: ds, ρ1)) := hw2
        intro vs O' W' H' st sr' ho
        cases e2 : lookD ρ1 i with
        | bad => rw [e2] at hw3; exact hw3.elim
        | exc c fs ρ' => exact absurd e2 lookD_noexc
        | ok d =>
          rw [e2] at hw3
          obtain ⟨v', ev', r'⟩ := lookD_sr sr' e2
          rw [ev] at ev'; cases ev'
          exact hw3 (v :: vs) O' W' H' st sr' ⟨v, vs, rfl, r', ho⟩
  | ex f =>
    obtain ⟨t, q1, q2⟩ := h.ex
    refine ⟨⟨t :: ts, .cons q1 p1, pa_cons q1 p2 hs, fun O W σ H ρ R sr hw => ?_⟩⟩
    have hw' : AftO (gx X cl) vs0 Wx O W σ H R ((f ρ).bind fun p => (ops fl p.2).bind fun q => .ok (p.1.frz :: q.1, q.2)) := hw
    refine q2 O W σ H ρ _ sr ?_
    cases e0 : f ρ with
    | bad => rw [e0] at hw'; exact hw'
    | exc c fs ρ' => rw [e0] at hw'; exact hw'
    | ok p =>
      obtain ⟨r, ρ1⟩ := p
      rw [e0] at hw'
      have hw2 : AftO (gx X cl) vs0 Wx O W σ H R ((ops fl ρ1).bind fun q => .ok (r.frz :: q.1, q.2)) := hw'
      intro v O1 W1 H1 st1 sr1 rr
      obtain ⟨O2, W2, st2, sr2, rp⟩ := rr.frz sr1
      have st12 := st1.trans sr.wf st2
      refine p3 O2 W2 σ H1 ρ1 _ sr2 ?_
      cases e1 : ops fl ρ1 with
      | bad => rw [e1] at hw2; exact hw2
      | exc c fs ρ' => rw [e1] at hw2; exact ExcA.back sr.wf st12 hw2
      | ok q =>
        obtain ⟨ds, ρ2⟩ := q
        rw [e1] at hw2
        intro vs O' W' H' st sr' ho
        exact hw2 (v :: vs) O' W' H' (st12.trans sr.wf st) sr' ⟨v, vs, rfl, .inl (rp.step sr2.wf st), ho⟩
end
end Wm
end
section
namespace Wm
open PySem PySem.Spec PyProof.Rows L2
def AftP (G : Gx) (O : List Addr) (H : Hp) (Q : VK) : Rs SD → Prop
  | .ok (.sh d) => ∀ v H', Same H H' → Rp G O H' d v → Q v H'
  | .ok (.own xs) => ∀ a vs H', Same H H' → H a = none → H' a = some (.lst vs) → vs.length ≤ sizeLine → RpA G O H xs vs → Q (.ref a) H'
  | _ => False
def PrimR (X : Cx) (cl : Cl) (rd : List V → Hp → VK → Prop) (p : List D → Rs SD) : Prop :=
  ∀ O W H ds vs Q, Wf O W H → OpA (gx X cl) O W H ds vs → AftP (gx X cl) O H Q (p ds) → rd vs H Q
def Rs.fin (ρ : List SD) : Rs SD → Rs (SD × List SD)
  | .ok (.sh d) => .ok (.sh d, ρ)
  | .ok (.own xs) => .ok (.own xs, ρ)
  | _ => .bad
def xPrim (fl : List LOp) (p : List D → Rs SD) : Sx := fun ρ => (ops fl ρ).bind fun q => (p q.1).fin q.2
section
variable {X : Cx} {cl : Cl} {vs0 : List V} {Wx : WX}
theorem prim_core {ts : List TE} {fl : List LOp} {p : List D → Rs SD} {rd : List V → Hp → VK → Prop} (hr : PrimR X cl rd p)
    (h : ∀ O W σ H ρ R, SR (gx X cl) vs0 O W σ H ρ → AftO (gx X cl) vs0 Wx O W σ H R (ops fl ρ) → tAll ts σ H R) :
    ∀ O W σ H ρ Q, SR (gx X cl) vs0 O W σ H ρ → AftE (gx X cl) vs0 Wx O W σ H Q (xPrim fl p ρ) → tAll ts σ H fun vs H1 => rd vs H1 Q := by
  intro O W σ H ρ Q sr hw
  refine h O W σ H ρ _ sr ?_
  unfold xPrim at hw
  cases e : ops fl ρ with
  | bad => rw [e] at hw; exact hw
  | exc c fs ρ' => rw [e] at hw; exact hw
  | ok q =>
    obtain ⟨ds, ρ1⟩ := q
    rw [e] at hw
    have hw2 : AftE (gx X cl) vs0 Wx O W σ H Q ((p ds).fin ρ1) := hw
    intro vs O' W' H' st sr' ho
    refine hr O' W' H' ds vs Q sr'.wf ho ?_
    cases e2 : p ds with
    | bad => rw [e2] at hw2; exact hw2
    | exc c fs ρ' => rw [e2] at hw2; exact hw2
    | ok r =>
      rw [e2] at hw2
      cases r with
      | no => exact hw2
      | byr xs => exact hw2
      | xn _ _ => exact hw2
      | gv => exact hw2
      | od _ => exact hw2
      | ow _ => exact hw2
      | sh d => exact fun v H2 sm rp => hw2 v O' W' H2 (st.trans sr.wf (Stp.same sm)) (sr'.same sm) rp
      | own xs =>
        intro a vs' H2 sm n n2 hl ra
        refine hw2 (.ref a) (a :: O') (a :: W') H2 (st.trans sr.wf (Stp.new sm n)) (sr'.new sm n (noD_not n2)) ⟨a, rfl, ⟨List.mem_cons_self, vs', n2, hl, ra.step sr'.wf (Stp.new sm n)⟩, sr'.fre_mk sm n⟩
variable {G : Gx} {O W : List Addr} {H H' : Hp} {ds : List D} {vs : List V} {d e : D} {v : V}
theorem RpA.length : ∀ {ds : List D} {vs : List V}, RpA G O H ds vs → ds.length = vs.length
  | [], vs, h => by simp only [RpA] at h; rw [h]; rfl
  | d :: ds, vs, h => by
    simp only [RpA] at h
    obtain ⟨v, r, e, _, h2⟩ := h
    rw [e, List.length_cons, List.length_cons, RpA.length h2]
theorem RpA.append : ∀ {ds es : List D} {vs ws : List V}, RpA G O H ds vs → RpA G O H es ws → RpA G O H (ds ++ es) (vs ++ ws)
  | [], es, vs, ws, h, q => by simp only [RpA] at h; rw [h]; exact q
  | d :: ds, es, vs, ws, h, q => by
    simp only [RpA] at h
    obtain ⟨v, r, e, h1, h2⟩ := h
    rw [e]
    show RpA G O H (d :: (ds ++ es)) (v :: (r ++ ws))
    simp only [RpA]
    exact ⟨v, _, rfl, h1, RpA.append h2 q⟩
theorem RpA.getD : ∀ {ds : List D} {vs : List V} {i : Nat} {d : D}, RpA G O H ds vs → ds[i]? = some d → ∃ v, vs[i]? = some v ∧ Rp G O H d v
  | [], vs, i, d, h, q => by cases i <;> cases q
  | d' :: ds, vs, i, d, h, q => by
    simp only [RpA] at h
    obtain ⟨w, r, e, h1, h2⟩ := h
    rw [e]
    cases i with
    | zero => cases q; exact ⟨w, rfl, h1⟩
    | succ i => exact RpA.getD (ds := ds) (i := i) h2 q
theorem RpA.drop : ∀ {ds : List D} {vs : List V} (n : Nat), RpA G O H ds vs → RpA G O H (ds.drop n) (vs.drop n)
  | ds, vs, 0, h => h
  | [], vs, n + 1, h => by simp only [RpA] at h; rw [h]; simp only [List.drop_nil, RpA]
  | d :: ds, vs, n + 1, h => by
    simp only [RpA] at h
    obtain ⟨w, r, e, h1, h2⟩ := h
    rw [e]
    exact RpA.drop n h2
theorem RpA.take : ∀ {ds : List D} {vs : List V} (n : Nat), RpA G O H ds vs → RpA G O H (ds.take n) (vs.take n)
  | ds, vs, 0, h => by simp only [List.take_zero, RpA]
  | [], vs, n + 1, h => by simp only [RpA] at h; rw [h]; simp only [List.take_nil, RpA]
  | d :: ds, vs, n + 1, h => by
    simp only [RpA] at h
    obtain ⟨w, r, e, h1, h2⟩ := h
    rw [e]
    show RpA G O H (d :: ds.take n) (w :: r.take n)
    simp only [RpA]
    exact ⟨w, _, rfl, h1, RpA.take n h2⟩
theorem RpA.rep {ds : List D} {vs : List V} (h : RpA G O H ds vs) : ∀ n : Nat, RpA G O H (List.replicate n ds).flatten (List.replicate n vs).flatten
  | 0 => by simp only [List.replicate_zero, List.flatten_nil, RpA]
  | n + 1 => by
    rw [List.replicate_succ, List.replicate_succ, List.flatten_cons, List.flatten_cons]
    exact h.append (RpA.rep h n)
theorem Op1.int {i : Int} (h : Op1 G O W H (.int i) v) : v = .int i := by
  rcases h with h | ⟨_, _, h, _⟩
  · simpa only [Rp] using h
  · cases h
theorem Op1.bl {i : Bool} (h : Op1 G O W H (.bl i) v) : v = .bl i := by
  rcases h with h | ⟨_, _, h, _⟩
  · simpa only [Rp] using h
  · cases h
theorem Op1.non (h : Op1 G O W H .non v) : v = .non := by
  rcases h with h | ⟨_, _, h, _⟩
  · simpa only [Rp] using h
  · cases h
theorem Op1.tup (h : Op1 G O W H (.tup ds) v) : ∃ a vs, v = .ref a ∧ TO G.K O H a vs ∧ RpA G O H ds vs := by
  rcases h with h | ⟨_, _, h, _⟩
  · simpa only [Rp] using h
  · cases h
theorem Op1.lst (h : Op1 G O W H (.lst ds) v) : ∃ a vs, v = .ref a ∧ H a = some (.lst vs) ∧ vs.length ≤ sizeLine ∧ RpA G O H ds vs := by
  rcases h with h | ⟨a, _, h, e, _, vs, h2, h3, h4⟩
  · simp only [Rp] at h
    obtain ⟨a, vs, e, t, r⟩ := h
    exact ⟨a, vs, e, t.2.1, t.1, r⟩
  · cases h
    exact ⟨a, vs, e, h2, h3, h4⟩
theorem Op1.scr {ns : List Int} (h : Op1 G O W H (.scr ns) v) : ∃ a, v = .ref a ∧ ScO G.K O H a (ns.map V.int) := by
  rcases h with h | ⟨_, _, h, _⟩
  · simpa only [Rp] using h
  · cases h
theorem RpA.ofInts : ∀ {ns : List Int}, RpA G O H (ns.map D.int) (ns.map V.int)
  | [] => by simp only [List.map_nil, RpA]
  | n :: ns => by
    simp only [List.map_cons, RpA, Rp]
    exact ⟨_, _, rfl, rfl, RpA.ofInts⟩
theorem OpA.one (h : OpA G O W H [d] vs) : ∃ v, vs = [v] ∧ Op1 G O W H d v := by
  obtain ⟨v, r, e, h1, h2⟩ := h
  have h2 : r = [] := h2
  subst h2
  exact ⟨v, e, h1⟩
theorem OpA.two (h : OpA G O W H [d, e] vs) : ∃ v w, vs = [v, w] ∧ Op1 G O W H d v ∧ Op1 G O W H e w := by
  obtain ⟨v, r, ev, h1, h2⟩ := h
  obtain ⟨w, ew, h3⟩ := OpA.one h2
  subst ew
  exact ⟨v, w, ev, h1, h3⟩
theorem rp_tup {p : Addr} (w : Wf O W H) (n : H p = none) (hl : vs.length ≤ sizeLine) (h : RpA G O H ds vs) : Rp G O (upd H p (.tup vs)) (.tup ds) (.ref p) := by
  simp only [Rp]
  refine ⟨p, vs, rfl, ⟨hl, .inl ⟨.inl upd_same, fun z => w.trk p z (noD_none n)⟩⟩, h.step w (Stp.same fun b o e => ?_)⟩
  rw [upd_ne (ne_of_none e n)]
  exact e
theorem same_upd {p : Addr} {o : HO} (n : H p = none) : Same H (upd H p o) := fun b x e => by
  rw [upd_ne (ne_of_none e n)]
  exact e
end
def rd1 (r : V → Hp → VK → Prop) : List V → Hp → VK → Prop := fun vs H Q => match vs with
  | [x] => r x H Q
  | _ => False
def rd2 (r : R2) : List V → Hp → VK → Prop := fun vs H Q => match vs with
  | [x, y] => r x y H Q
  | _ => False
section
variable {X : Cx} {cl : Cl} {vs0 : List V} {Wx : WX}
theorem two_of {a b : Expr} {fl : List LOp} (h : OJ X cl vs0 Wx [a, b] fl) : ∃ ta tb, PE X a ta ∧ PE X b tb ∧ ∀ O W σ H ρ R, SR (gx X cl) vs0 O W σ H ρ → AftO (gx X cl) vs0 Wx O W σ H R (ops fl ρ) → tAll [ta, tb] σ H R := by
  obtain ⟨ts, p, _, q⟩ := h.ex
  cases p with
  | cons p1 p =>
    cases p with
    | cons p2 p =>
      cases p
      exact ⟨_, _, p1, p2, q⟩
theorem one_of {a : Expr} {fl : List LOp} (h : OJ X cl vs0 Wx [a] fl) : ∃ ta, PE X a ta ∧ ∀ O W σ H ρ R, SR (gx X cl) vs0 O W σ H ρ → AftO (gx X cl) vs0 Wx O W σ H R (ops fl ρ) → tAll [ta] σ H R := by
  obtain ⟨ts, p, _, q⟩ := h.ex
  cases p with
  | cons p1 p =>
    cases p
    exact ⟨_, p1, q⟩
theorem ej_bin {op : Operator} {a b : Expr} {pos : Pos} {r : R2} {fl : List LOp} {p : List D → Rs SD} (ho : OpR X (binaryOp op) r) (hp : PrimR X cl (rd2 r) p) (h : OJ X cl vs0 Wx [a, b] fl) : EJ X cl vs0 Wx (.BinOp a op b pos) (xPrim fl p) := by
  obtain ⟨ta, tb, ha, hb, q⟩ := two_of h
  exact ⟨⟨_, pe_op ho ha hb, prim_core hp q⟩⟩
theorem ej_un {op : UnaryOp} {a : Expr} {pos : Pos} {r : V → Hp → VK → Prop} {fl : List LOp} {p : List D → Rs SD} (ho : UnR X (unaryOp op) r) (hp : PrimR X cl (rd1 r) p) (h : OJ X cl vs0 Wx [a] fl) : EJ X cl vs0 Wx (.UnaryOp op a pos) (xPrim fl p) := by
  obtain ⟨ta, ha, q⟩ := one_of h
  exact ⟨⟨_, pe_un ho ha, prim_core hp q⟩⟩
theorem ej_cmp {op : CmpOp} {a b : Expr} {pos : Pos} {r : R2} {fl : List LOp} {p : List D → Rs SD} (ho : OpR X (compareOp op) r) (hp : PrimR X cl (rd2 r) p) (h : OJ X cl vs0 Wx [a, b] fl) (hm : behindInMarks op b = false) : EJ X cl vs0 Wx (.Compare a [op] [b] pos) (xPrim fl p) := by
  obtain ⟨ta, tb, ha, hb, q⟩ := two_of h
  exact ⟨⟨_, pe_cmpR ho ha hb hm, prim_core hp q⟩⟩
theorem ej_ix {a b : Expr} {pos : Pos} {r : R2} {fl : List LOp} {p : List D → Rs SD} (ho : IxR X r) (hp : PrimR X cl (rd2 r) p) (h : OJ X cl vs0 Wx [a, b] fl) (hs : PlainIx b) : EJ X cl vs0 Wx (.Subscript a b pos) (xPrim fl p) := by
  obtain ⟨ta, tb, ha, hb, q⟩ := two_of h
  exact ⟨⟨_, pe_ix ho ha hb hs, prim_core hp q⟩⟩
def pAdd : List D → Rs SD
  | [.int i, .int j] => .ok (.sh (.int (i + j)))
  | [.tup xs, .tup ys] => if xs.length + ys.length ≤ sizeLine then .ok (.sh (.tup (xs ++ ys))) else .bad
  | [.lst xs, .lst ys] => if xs.length + ys.length ≤ sizeLine then .ok (.own (xs ++ ys)) else .bad
  | [.scr ns, .lst ys] => if ns.length + ys.length ≤ sizeLine then .ok (.own (ns.map .int ++ ys)) else .bad
  | _ => .bad
def rCatC (K : PySem.W.Frag) : R2 := fun x y H Q => ∃ l b xs zs, x = .ref l ∧ y = .ref b ∧ SqL K H l xs ∧ H b = some (.lst zs) ∧ xs.length + zs.length ≤ sizeLine ∧ ∀ p, H p = none → Q (.ref p) (upd H p (.lst (xs ++ zs)))
theorem list_addW (l : Addr) (items : Array Value) (n : Nat) (dd : Option Addr) (sl : Array (Option Value)) (b : Addr) (items2 : Array Value) (n2 : Nat) (hsz : items.size + items2.size ≤ sizeLine) :
    Meets (Builtin.«list.__add__» ⟨[.ref l, .ref b], []⟩) (fun _ R s => s.heap.get? l = some { cls := .type "list", dict := dd, data := .seq items n, slots := sl } ∧ s.heap.get? b = some { cls := .type "list", data := .seq items2 n2 } ∧
      R (.ok (.ret (Value.ref s.heap.objs.size))) { s with heap := s.heap.push { cls := Value.type "list", data := Data.seq (items ++ items2) } }) :=
  .of_wp fun prog w A R s h => by
    obtain ⟨hp, g, d, tk, os⟩ := s
    obtain ⟨hl, hb, h⟩ := h
    have ff := AutoSeq1.sub_list_list
    wp_walk using wpAny_loadPart' hl, wpAny_loadPart' hb
    exact ⟨_, rfl, h⟩
theorem op_catC : OpR X (binaryOp .Add) (rCatC X.K) := by
  intro pins s σ H x y v u Q I rx ry h
  obtain ⟨l, b, xs, zs, rfl, rfl, hH, hB, hz, q⟩ := h
  cases rx
  cases ry
  obtain ⟨its, r, ⟨⟨oc, od, odt, osl⟩, n, e, hc, hd, hs⟩, _⟩ := I.list hH
  obtain ⟨z2, its2, n2, r2, hl2, e2⟩ := I.lstM hB
  have hl := r.length
  simp only at hc hd hs
  subst hc hd hs
  refine concat_meets ⟨_, e, rfl⟩ ⟨_, e2, rfl⟩ noFill_list_add seq_list_add F.slot_list_add F.entry_list_add (F.args_list_add_2 _ _)
    (list_addW l its.toArray n none osl b its2.toArray n2 (by rw [List.size_toArray, List.size_toArray]; omega)) ⟨e, e2, ?_⟩
  rw [show its.toArray ++ its2.toArray = (its ++ its2).toArray by simp]
  exact ⟨.ref _, _, I.lnew (t' := s.toks) (r.append r2) (by rw [List.length_append]; omega), rfl, q _ I.fresh⟩
theorem op_addD : OpR X (binaryOp .Add) (fun x y H Q => rI0 (fun i j => .int (i + j)) x y H Q ∨ rCatA X.K x y H Q ∨ rCat x y H Q ∨ rCatC X.K x y H Q) := op_add.or (op_catA.or (op_cat.or op_catC))
theorem pr_add : PrimR X cl (rd2 fun x y H Q => rI0 (fun i j => .int (i + j)) x y H Q ∨ rCatA X.K x y H Q ∨ rCat x y H Q ∨ rCatC X.K x y H Q) pAdd := by
  intro O W H ds vs Q w ho hp
  unfold pAdd at hp
  split at hp
  · obtain ⟨x, y, rfl, h1, h2⟩ := ho.two
    exact .inl ⟨_, _, h1.int, h2.int, hp _ H (Same.refl H) (by simp only [Rp])⟩
  · obtain ⟨x, y, rfl, h1, h2⟩ := ho.two
    split at hp
    · rename_i hz
      obtain ⟨a, xs, e1, t1, r1⟩ := h1.tup
      obtain ⟨b, ys, e2, t2, r2⟩ := h2.tup
      have l1 := r1.length
      have l2 := r2.length
      have hz' : xs.length + ys.length ≤ sizeLine := by omega
      refine .inr (.inl ⟨a, b, xs, ys, e1, e2, t1.sq, t2.sq, hz', fun z => ?_, fun _ z => ?_, fun _ _ p n => ?_⟩)
      · subst z
        refine hp _ H (Same.refl H) ?_
        have : (_ : List D) = [] := List.eq_nil_of_length_eq_zero l1
        rw [this, List.nil_append]
        simp only [Rp]
        exact ⟨b, ys, rfl, t2, r2⟩
      · subst z
        refine hp _ H (Same.refl H) ?_
        have : (_ : List D) = [] := List.eq_nil_of_length_eq_zero l2
        rw [this, List.append_nil]
        simp only [Rp]
        exact ⟨a, xs, rfl, t1, r1⟩
      · exact hp _ _ (same_upd n) (rp_tup w n (by rw [List.length_append]; exact hz') (r1.append r2))
    · exact hp.elim
  · obtain ⟨x, y, rfl, h1, h2⟩ := ho.two
    split at hp
    · rename_i hz
      obtain ⟨a, xs, e1, t1, z1, r1⟩ := h1.lst
      obtain ⟨b, ys, e2, t2, z2, r2⟩ := h2.lst
      have l1 := r1.length
      have l2 := r2.length
      have hz' : xs.length + ys.length ≤ sizeLine := by omega
      exact .inr (.inr (.inl ⟨a, b, xs, ys, e1, e2, t1, t2, hz', fun p n => hp p _ _ (same_upd n) n upd_same (by rw [List.length_append]; exact hz') (r1.append r2)⟩))
    · exact hp.elim
  · obtain ⟨x, y, rfl, h1, h2⟩ := ho.two
    split at hp
    · rename_i ns es hz
      obtain ⟨a, e1, t1⟩ := h1.scr
      obtain ⟨b, ys, e2, t2, z2, r2⟩ := h2.lst
      have l2 := r2.length
      have hz' : (ns.map V.int).length + ys.length ≤ sizeLine := by rw [List.length_map]; omega
      exact .inr (.inr (.inr ⟨a, b, _, ys, e1, e2, t1.sq, t2, hz', fun p n => hp p _ _ (same_upd n) n upd_same (by rw [List.length_append]; exact hz') (RpA.append RpA.ofInts r2)⟩))
    · exact hp.elim
  · exact hp.elim
theorem ej_add {a b : Expr} {pos : Pos} {fl : List LOp} (h : OJ X cl vs0 Wx [a, b] fl) : EJ X cl vs0 Wx (.BinOp a .Add b pos) (xPrim fl pAdd) := ej_bin op_addD pr_add h
end
end Wm
end
section
namespace Wm
open PySem PySem.Spec PyProof.Rows L2
mutual
def eqD : D → D → Bool
  | .non, .non => true
  | .bl a, .bl b => a == b
  | .bl a, .int j => (if a then 1 else 0) == j
  | .int i, .bl b => i == (if b then 1 else 0)
  | .int i, .int j => i == j
  | .str x, .str y => x == y
  | .lst xs, .lst ys => eqDs xs ys
  | .tup xs, .tup ys => eqDs xs ys
  | _, _ => false
def eqDs : List D → List D → Bool
  | [], [] => true
  | x :: xs, y :: ys => eqD x y && eqDs xs ys
  | _, _ => false
end
mutual
def okN : Nat → D → Bool
  | _, .non => true
  | _, .bl _ => true
  | _, .int _ => true
  | _, .str x => PyData.strOk x
  | n + 1, .tup xs => okNs n xs
  | n + 1, .lst xs => okNs n xs
  | _, _ => false
def okNs : Nat → List D → Bool
  | _, [] => true
  | n, x :: xs => okN n x && okNs n xs
end
mutual
def D.py : D → PyData
  | .non => .none
  | .bl b => .bool b
  | .int i => .int i
  | .str x => .str x
  | .tup xs => .tuple (pys xs)
  | .lst xs => .list (pys xs)
  | .ins _ _ => .none
  | .exn _ _ => .none
  | .scr _ => .none
  | .dct _ => .none
def pys : List D → List PyData
  | [] => []
  | x :: xs => x.py :: pys xs
end
mutual
theorem okN_lay : ∀ {n : Nat} {d : D}, okN n d = true → d.py.canLay0 = true ∧ d.py.depth ≤ n
  | n, .non, _ => by simp [D.py, PyData.canLay0, PyData.depth]
  | n, .bl _, _ => by simp [D.py, PyData.canLay0, PyData.depth]
  | n, .int _, _ => by simp [D.py, PyData.canLay0, PyData.depth]
  | n, .str x, h => by simp only [okN] at h; simp [D.py, PyData.canLay0, PyData.depth, h]
  | 0, .tup xs, h => by simp [okN] at h
  | 0, .lst xs, h => by simp [okN] at h
  | n + 1, .tup xs, h => by
    simp only [okN] at h
    have := okNs_lay h
    simp only [D.py, PyData.canLay0, PyData.depth]
    exact ⟨this.1, Nat.succ_le_succ this.2⟩
  | n + 1, .lst xs, h => by
    simp only [okN] at h
    have := okNs_lay h
    simp only [D.py, PyData.canLay0, PyData.depth]
    exact ⟨this.1, Nat.succ_le_succ this.2⟩
  | n, .ins _ _, h => by cases n <;> simp [okN] at h
  | n, .exn _ _, h => by cases n <;> simp [okN] at h
  | n, .scr _, h => by cases n <;> simp [okN] at h
theorem okNs_lay : ∀ {n : Nat} {ds : List D}, okNs n ds = true → PyData.canLayAll0 (pys ds) = true ∧ PyData.depthAll (pys ds) ≤ n
  | n, [], _ => by simp [pys, PyData.canLayAll0, PyData.depthAll]
  | n, d :: ds, h => by
    simp only [okNs, Bool.and_eq_true] at h
    have h1 := okN_lay h.1
    have h2 := okNs_lay h.2
    simp only [pys, PyData.canLayAll0, PyData.depthAll, Bool.and_eq_true]
    exact ⟨⟨h1.1, h2.1⟩, Nat.max_le.mpr ⟨h1.2, h2.2⟩⟩
end
mutual
theorem eqD_py : ∀ {n m : Nat} {d e : D}, okN n d = true → okN m e = true → PyData.eqv d.py e.py = eqD d e
  | n, m, d, .ins _ _, _, h => by cases m <;> simp [okN] at h
  | n, m, d, .exn _ _, _, h => by cases m <;> simp [okN] at h
  | n, m, .ins _ _, e, h, _ => by cases n <;> simp [okN] at h
  | n, m, .exn _ _, e, h, _ => by cases n <;> simp [okN] at h
  | n, m, d, .scr _, _, h => by cases m <;> simp [okN] at h
  | n, m, .scr _, e, h, _ => by cases n <;> simp [okN] at h
  | n, m, .non, .non, _, _ | n, m, .non, .bl _, _, _ | n, m, .non, .int _, _, _ | n, m, .non, .str _, _, _ | n, m, .non, .tup _, _, _ | n, m, .non, .lst _, _, _ => by simp [D.py, PyData.eqv, eqD]
  | n, m, .bl _, .non, _, _ | n, m, .bl _, .bl _, _, _ | n, m, .bl _, .int _, _, _ | n, m, .bl _, .str _, _, _ | n, m, .bl _, .tup _, _, _ | n, m, .bl _, .lst _, _, _ => by simp [D.py, PyData.eqv, eqD]
  | n, m, .int _, .non, _, _ | n, m, .int _, .bl _, _, _ | n, m, .int _, .int _, _, _ | n, m, .int _, .str _, _, _ | n, m, .int _, .tup _, _, _ | n, m, .int _, .lst _, _, _ => by simp [D.py, PyData.eqv, eqD]
  | n, m, .str _, .non, _, _ | n, m, .str _, .bl _, _, _ | n, m, .str _, .int _, _, _ | n, m, .str _, .str _, _, _ | n, m, .str _, .tup _, _, _ | n, m, .str _, .lst _, _, _ => by simp [D.py, PyData.eqv, eqD]
  | n, m, .tup _, .non, _, _ | n, m, .tup _, .bl _, _, _ | n, m, .tup _, .int _, _, _ | n, m, .tup _, .str _, _, _ | n, m, .tup _, .lst _, _, _ => by simp [D.py, PyData.eqv, eqD]
  | n, m, .lst _, .non, _, _ | n, m, .lst _, .bl _, _, _ | n, m, .lst _, .int _, _, _ | n, m, .lst _, .str _, _, _ | n, m, .lst _, .tup _, _, _ => by simp [D.py, PyData.eqv, eqD]
  | 0, m, .tup xs, .tup ys, h, _ => by simp [okN] at h
  | n + 1, 0, .tup xs, .tup ys, _, h => by simp [okN] at h
  | 0, m, .lst xs, .lst ys, h, _ => by simp [okN] at h
  | n + 1, 0, .lst xs, .lst ys, _, h => by simp [okN] at h
  | n + 1, m + 1, .tup xs, .tup ys, h, h' => by
    simp only [okN] at h h'
    simp only [D.py, PyData.eqv, eqD]
    exact eqDs_py h h'
  | n + 1, m + 1, .lst xs, .lst ys, h, h' => by
    simp only [okN] at h h'
    simp only [D.py, PyData.eqv, eqD]
    exact eqDs_py h h'
theorem eqDs_py : ∀ {n m : Nat} {ds es : List D}, okNs n ds = true → okNs m es = true → PyData.eqvAll (pys ds) (pys es) = eqDs ds es
  | n, m, [], [], _, _ => by simp [pys, PyData.eqvAll, eqDs]
  | n, m, [], _ :: _, _, _ => by simp [pys, PyData.eqvAll, eqDs]
  | n, m, _ :: _, [], _, _ => by simp [pys, PyData.eqvAll, eqDs]
  | n, m, d :: ds, e :: es, h, h' => by
    simp only [okNs, Bool.and_eq_true] at h h'
    simp only [pys, PyData.eqvAll, eqDs, eqD_py h.1 h'.1, eqDs_py h.2 h'.2]
end
section
variable {G : Gx} {O W : List Addr} {H : Hp}
mutual
theorem Rp.dp : ∀ {n : Nat} {d : D} {v : V}, okN n d = true → Rp G O H d v → Dp G.K H v d.py
  | n, .non, v, _, h => by simp only [Rp] at h; subst h; simp only [D.py]; exact .non
  | n, .bl b, v, _, h => by simp only [Rp] at h; subst h; simp only [D.py]; exact .bl b
  | n, .int b, v, _, h => by simp only [Rp] at h; subst h; simp only [D.py]; exact .int b
  | n, .str b, v, _, h => by simp only [Rp] at h; subst h; simp only [D.py]; exact .str b
  | 0, .tup ds, v, h, _ => by simp [okN] at h
  | 0, .lst ds, v, h, _ => by simp [okN] at h
  | n + 1, .tup ds, v, h, q => by
    simp only [Rp] at q
    obtain ⟨a, vs, rfl, t, r⟩ := q
    simp only [okN] at h
    simp only [D.py]
    exact .tup t.sq (RpA.dp h r)
  | n + 1, .lst ds, v, h, q => by
    simp only [Rp] at q
    obtain ⟨a, vs, rfl, t, r⟩ := q
    simp only [okN] at h
    simp only [D.py]
    exact .lst t.sq (RpA.dp h r)
  | n, .ins _ _, v, h, _ => by cases n <;> simp [okN] at h
  | n, .exn _ _, v, h, _ => by cases n <;> simp [okN] at h
  | n, .scr _, v, h, _ => by cases n <;> simp [okN] at h
theorem RpA.dp : ∀ {n : Nat} {ds : List D} {vs : List V}, okNs n ds = true → RpA G O H ds vs → DpAll G.K H vs (pys ds)
  | n, [], vs, _, h => by simp only [RpA] at h; subst h; simp only [pys]; exact .nil
  | n, d :: ds, vs, h, q => by
    simp only [RpA] at q
    obtain ⟨v, r, rfl, h1, h2⟩ := q
    simp only [okNs, Bool.and_eq_true] at h
    simp only [pys]
    exact .cons (Rp.dp h.1 h1) (RpA.dp h.2 h2)
end
theorem Op1.dp {n : Nat} {d : D} {v : V} (h : okN n d = true) (q : Op1 G O W H d v) : Dp G.K H v d.py := by
  rcases q with q | ⟨a, xs, rfl, rfl, _, vs, h2, h3, h4⟩
  · exact q.dp h
  · cases n with
    | zero => simp [okN] at h
    | succ n =>
      simp only [okN] at h
      simp only [D.py]
      exact .lst (SqL.of h2) (h4.dp h)
end
abbrev okD (d : D) : Bool := okN 60 d
theorem okD_shaped {d : D} (h : okD d = true) : SeqAt.shaped d.py = true := by
  have := okN_lay h
  unfold SeqAt.shaped
  rw [this.1, decide_eq_true (show d.py.depth ≤ 64 by omega)]
  rfl
def pEq : List D → Rs SD
  | [x, y] => if okD x && okD y then .ok (.sh (.bl (eqD x y))) else .bad
  | _ => .bad
def pNe : List D → Rs SD
  | [x, y] => if okD x && okD y then .ok (.sh (.bl (!eqD x y))) else .bad
  | _ => .bad
section
variable {X : Cx} {cl : Cl} {vs0 : List V} {Wx : WX}
theorem pr_eq : PrimR X cl (rd2 (rEqD X.K)) pEq := by
  intro O W H ds vs Q w ho hp
  unfold pEq at hp
  split at hp
  · split at hp
    · rename_i hk
      rw [Bool.and_eq_true] at hk
      obtain ⟨x, y, rfl, h1, h2⟩ := ho.two
      refine ⟨_, _, h1.dp hk.1, h2.dp hk.2, okD_shaped hk.1, okD_shaped hk.2, ?_⟩
      rw [eqD_py hk.1 hk.2]
      exact hp _ H (Same.refl H) (by simp only [Rp])
    · exact hp.elim
  · exact hp.elim
theorem pr_ne : PrimR X cl (rd2 (rNeD X.K)) pNe := by
  intro O W H ds vs Q w ho hp
  unfold pNe at hp
  split at hp
  · split at hp
    · rename_i hk
      rw [Bool.and_eq_true] at hk
      obtain ⟨x, y, rfl, h1, h2⟩ := ho.two
      refine ⟨_, _, h1.dp hk.1, h2.dp hk.2, okD_shaped hk.1, okD_shaped hk.2, ?_⟩
      rw [eqD_py hk.1 hk.2]
      exact hp _ H (Same.refl H) (by simp only [Rp])
    · exact hp.elim
  · exact hp.elim
def pI2 (C : Int → Int → Prop) [∀ i j, Decidable (C i j)] (g : Int → Int → D) : List D → Rs SD
  | [.int i, .int j] => if C i j then .ok (.sh (g i j)) else .bad
  | _ => .bad
theorem pr_I2 {C : Int → Int → Prop} [∀ i j, Decidable (C i j)] {g : Int → Int → D} {gv : Int → Int → V} {r : R2} (hg : ∀ (G : Gx) O H i j, Rp G O H (g i j) (gv i j)) (hr : ∀ x y H Q, rI C gv x y H Q → r x y H Q) : PrimR X cl (rd2 r) (pI2 C g) := by
  intro O W H ds vs Q w ho hp
  unfold pI2 at hp
  split at hp
  · split at hp
    · rename_i hc
      obtain ⟨x, y, rfl, h1, h2⟩ := ho.two
      exact hr _ _ _ _ ⟨_, _, h1.int, h2.int, hc, hp _ H (Same.refl H) (hg _ _ _ _ _)⟩
    · exact hp.elim
  · exact hp.elim
def pI0 (g : Int → Int → D) : List D → Rs SD
  | [.int i, .int j] => .ok (.sh (g i j))
  | _ => .bad
theorem pr_I0 {g : Int → Int → D} {gv : Int → Int → V} (hg : ∀ (G : Gx) O H i j, Rp G O H (g i j) (gv i j)) : PrimR X cl (rd2 (rI0 gv)) (pI0 g) := by
  intro O W H ds vs Q w ho hp
  unfold pI0 at hp
  split at hp
  · obtain ⟨x, y, rfl, h1, h2⟩ := ho.two
    exact ⟨_, _, h1.int, h2.int, hp _ H (Same.refl H) (hg _ _ _ _ _)⟩
  · exact hp.elim
abbrev pGt := pI0 fun i j => .bl (decide (j < i))
abbrev pGe := pI0 fun i j => .bl (decide (j ≤ i))
noncomputable instance decMul (i j : Int) : Decidable (IntMulOk i j) := Classical.propDecidable _
def CDv (_ j : Int) : Prop := j ≠ 0 ∧ j.natAbs.log2 < 9000
instance (i j : Int) : Decidable (CDv i j) := by unfold CDv; infer_instance
def CMd (_ j : Int) : Prop := j ≠ 0
instance (i j : Int) : Decidable (CMd i j) := by unfold CMd; infer_instance
abbrev pFdiv := pI2 CDv fun i j => .int (i.fdiv j)
abbrev pMod := pI2 CMd fun i j => .int (i.fmod j)
theorem op_fdivD : OpR X (binaryOp .FloorDiv) (rI CDv fun i j => .int (i.fdiv j)) := opI fun i j _ _ _ _ _ hc q => floordiv_int hc.1 q (.inl (PyProof.noPylong_of_log2 hc.2))
instance (i j : Int) : Decidable (CPow i j) := by unfold CPow; infer_instance
abbrev pPow := pI2 CPow fun i j => .int (i ^ j.toNat)
theorem op_mulI : OpR X (binaryOp .Mult) (rI IntMulOk fun i j => .int (i * j)) := opI fun _ _ _ _ _ _ _ hc q => mul_int q hc
variable {a b : Expr} {pos : Pos} {fl : List LOp}
theorem ej_fdiv (h : OJ X cl vs0 Wx [a, b] fl) : EJ X cl vs0 Wx (.BinOp a .FloorDiv b pos) (xPrim fl pFdiv) := ej_bin op_fdivD (pr_I2 (fun _ _ _ _ _ => by simp only [Rp]) fun _ _ _ _ h => h) h
theorem ej_mod (h : OJ X cl vs0 Wx [a, b] fl) : EJ X cl vs0 Wx (.BinOp a .Mod b pos) (xPrim fl pMod) := ej_bin op_modN (pr_I2 (fun _ _ _ _ _ => by simp only [Rp]) fun _ _ _ _ h => h) h
theorem ej_pow (h : OJ X cl vs0 Wx [a, b] fl) : EJ X cl vs0 Wx (.BinOp a .Pow b pos) (xPrim fl pPow) := ej_bin op_pow (pr_I2 (fun _ _ _ _ _ => by simp only [Rp]) fun _ _ _ _ h => h) h
theorem ej_ge (h : OJ X cl vs0 Wx [a, b] fl) : EJ X cl vs0 Wx (.Compare a [.GtE] [b] pos) (xPrim fl pGe) := ej_cmp op_ge (pr_I0 fun _ _ _ _ _ => by simp only [Rp]) h (nomark _)
theorem ej_eq (hu : X.A.units + 64 < cLine) (h : OJ X cl vs0 Wx [a, b] fl) : EJ X cl vs0 Wx (.Compare a [.Eq] [b] pos) (xPrim fl pEq) := ej_cmp (op_eqD hu) pr_eq h (nomark _)
def pNeg : List D → Rs SD
  | [.int i] => .ok (.sh (.int (-i)))
  | _ => .bad
theorem ej_neg (h : OJ X cl vs0 Wx [a] fl) : EJ X cl vs0 Wx (.UnaryOp .USub a pos) (xPrim fl pNeg) := ej_un un_neg (fun O W H ds vs Q w ho hp => by
  unfold pNeg at hp
  split at hp
  · obtain ⟨x, rfl, h1⟩ := ho.one
    exact ⟨_, h1.int, hp _ H (Same.refl H) (by simp only [Rp])⟩
  · exact hp.elim) h
end
end Wm
end
section
namespace Wm
open PySem PySem.Spec PyProof.Rows L2
theorem tuple_mulS (l : Addr) (items : Array Value) (n : Nat) (dd : Option Addr) (sl : Array (Option Value)) (x : Int) (u : Tok) (c0 : (decide (x < -(2 ^ 63)) || decide (x ≥ 2 ^ 63)) = false) (c1 : (items.isEmpty || x == 1) = true) :
    Meets (Builtin.«tuple.__mul__» ⟨[.ref l, .int x u], []⟩) (fun _ R s => s.heap.get? l = some { cls := .type "tuple", dict := dd, data := .seq items n, slots := sl } ∧
      R (.ok (.ret (Value.ref l))) s) :=
  .of_wp fun prog w A R s h => by
    obtain ⟨hp, g, d, tk, os⟩ := s
    obtain ⟨hl, h⟩ := h
    have f1 := AutoSeq1.idx_int
    wp_walk using wpAny_loadPart' hl
    repeat (first
      | (refine wpAny_ite_false (decide_eq_false (by rw [c0]; exact Bool.false_ne_true)) ?_; wp_walk using wpAny_loadPart' hl)
      | (refine wpAny_ite_true (decide_eq_true (by rw [c1])) ?_; wp_walk using wpAny_loadPart' hl))
    exact ⟨_, rfl, h⟩
theorem tuple_mul0 (l : Addr) (items : Array Value) (n : Nat) (dd : Option Addr) (sl : Array (Option Value)) (x : Int) (u : Tok) (c0 : (decide (x < -(2 ^ 63)) || decide (x ≥ 2 ^ 63)) = false) (c1 : (items.isEmpty || x == 1) = false) (c2 : (decide (x ≤ 0) || items.isEmpty) = true) :
    Meets (Builtin.«tuple.__mul__» ⟨[.ref l, .int x u], []⟩) (fun _ R s => s.heap.get? l = some { cls := .type "tuple", dict := dd, data := .seq items n, slots := sl } ∧
      R (.ok (.ret (Value.ref s.heap.objs.size))) { s with heap := s.heap.push { cls := Value.type "tuple", data := Data.seq #[] }, toks := s.toks }) :=
  .of_wp fun prog w A R s h => by
    obtain ⟨hp, g, d, tk, os⟩ := s
    obtain ⟨hl, h⟩ := h
    have f1 := AutoSeq1.idx_int
    wp_walk using wpAny_loadPart' hl
    repeat (first
      | (refine wpAny_ite_false (decide_eq_false (by rw [c0]; exact Bool.false_ne_true)) ?_; wp_walk using wpAny_loadPart' hl)
      | (refine wpAny_ite_false (decide_eq_false (by rw [c1]; exact Bool.false_ne_true)) ?_; wp_walk using wpAny_loadPart' hl)
      | (refine wpAny_ite_true (decide_eq_true (by rw [c2])) ?_; wp_walk using wpAny_loadPart' hl))
    exact ⟨_, rfl, h⟩
section
variable {X : Cx} {cl : Cl} {vs0 : List V} {Wx : WX}
def rRepS (K : PySem.W.Frag) : R2 := fun x y H Q => ∃ l k xs, x = .ref l ∧ y = .int k ∧ SqT K H l xs ∧ (xs = [] ∨ k = 1) ∧ -(2 ^ 63) ≤ k ∧ k < 2 ^ 63 ∧ Q (.ref l) H
def rRep0 (K : PySem.W.Frag) : R2 := fun x y H Q => ∃ l k xs, x = .ref l ∧ y = .int k ∧ SqT K H l xs ∧ xs ≠ [] ∧ k ≤ 0 ∧ -(2 ^ 63) ≤ k ∧ ∀ p, H p = none → Q (.ref p) (upd H p (.tup []))
theorem op_repS : OpR X (binaryOp .Mult) (rRepS X.K) := by
  intro pins s σ H x y v u Q I rx ry h
  obtain ⟨l, k, xs, rfl, rfl, hT, hne, h1, h2, q⟩ := h
  cases rx
  obtain ⟨t, rfl⟩ := ry
  obtain ⟨its, r, ⟨⟨cls, dd, data, sl⟩, ho, hc, n, hd⟩, hs⟩ := I.tuple hT
  simp only at hc hd
  subst hc hd
  have c0 : (decide (k < -(2 ^ 63)) || decide (k ≥ 2 ^ 63)) = false := by
    rw [decide_eq_false (by omega), decide_eq_false (by omega)] <;> rfl
  have c1 : (its.toArray.isEmpty || k == 1) = true := by
    rcases hne with z | z
    · subst z
      cases r
      rfl
    · rw [z]; simp
  refine wpAny_binaryOp_repeat_ref (T := "tuple") (U := "int") (by decide) ⟨_, ho, rfl⟩ (fun s' => typeIs_int s' k t) noFill_tuple_mul F.fills_int_mul F.slot_int_rmul repeat_tuple F.slot_int_index.lookup
    (call_meets F.slot_int_rmul (typeIs_int s k t) F.entry_int_rmul (F.args_int_rmul_2 _ _) (int_rmul_tuple k t l its.toArray n dd sl)
      ⟨ho, rfl, ⟨_, ho, rfl⟩, call_meets F.slot_tuple_mul ⟨_, ho, rfl⟩ F.entry_tuple_mul (F.args_tuple_mul_2 _ _) (tuple_mulS l its.toArray n dd sl k t c0 c1) ⟨ho, ?_⟩⟩)
  exact ⟨.ref l, H, I, rfl, q⟩
theorem op_rep0 : OpR X (binaryOp .Mult) (rRep0 X.K) := by
  intro pins s σ H x y v u Q I rx ry h
  obtain ⟨l, k, xs, rfl, rfl, hT, hne, h1, h2, q⟩ := h
  cases rx
  obtain ⟨t, rfl⟩ := ry
  obtain ⟨its, r, ⟨⟨cls, dd, data, sl⟩, ho, hc, n, hd⟩, hs⟩ := I.tuple hT
  simp only at hc hd
  subst hc hd
  have c0 : (decide (k < -(2 ^ 63)) || decide (k ≥ 2 ^ 63)) = false := by
    rw [decide_eq_false (by omega), decide_eq_false (by omega)] <;> rfl
  have hi : its.toArray.isEmpty = false := by
    cases r with
    | nil => exact absurd rfl hne
    | cons a b => rfl
  have c1 : (its.toArray.isEmpty || k == 1) = false := by
    rw [hi, Bool.false_or]
    exact beq_eq_false_iff_ne.mpr (by omega)
  have c2 : (decide (k ≤ 0) || its.toArray.isEmpty) = true := by
    rw [decide_eq_true h1]; rfl
  refine wpAny_binaryOp_repeat_ref (T := "tuple") (U := "int") (by decide) ⟨_, ho, rfl⟩ (fun s' => typeIs_int s' k t) noFill_tuple_mul F.fills_int_mul F.slot_int_rmul repeat_tuple F.slot_int_index.lookup
    (call_meets F.slot_int_rmul (typeIs_int s k t) F.entry_int_rmul (F.args_int_rmul_2 _ _) (int_rmul_tuple k t l its.toArray n dd sl)
      ⟨ho, rfl, ⟨_, ho, rfl⟩, call_meets F.slot_tuple_mul ⟨_, ho, rfl⟩ F.entry_tuple_mul (F.args_tuple_mul_2 _ _) (tuple_mul0 l its.toArray n dd sl k t c0 c1 c2) ⟨ho, ?_⟩⟩)
  refine ⟨.ref s.heap.objs.size, _, I.laid (t' := s.toks) (o := .tup []) (fun b ob q => Heap.get?_push_of_some _ q) (Nat.le_refl _) ?_, rfl, q _ (I.hok.fresh (Nat.le_refl _))⟩
  exact ⟨Nat.zero_le _, [], .nil, IsTup.new _ _⟩
noncomputable def pMul : List D → Rs SD
  | [.int i, .int j] => if IntMulOk i j then .ok (.sh (.int (i * j))) else .bad
  | [.tup xs, .int k] => if -(2 ^ 63) ≤ k ∧ k ≤ 1000 ∧ xs.length ≤ 1000 then .ok (.sh (.tup (List.replicate k.toNat xs).flatten)) else .bad
  | [.lst xs, .int k] => if -(2 ^ 63) ≤ k ∧ k < 2 ^ 63 ∧ xs.length * k.toNat ≤ sizeLine then .ok (.own (List.replicate k.toNat xs).flatten) else .bad
  | _ => .bad
theorem op_mulD : OpR X (binaryOp .Mult) (fun x y H Q => rI IntMulOk (fun i j => .int (i * j)) x y H Q ∨ rRepS X.K x y H Q ∨ rRep0 X.K x y H Q ∨ rRepT X.K x y H Q ∨ rRep x y H Q) := op_mulI.or (op_repS.or (op_rep0.or (op_repT.or op_rep)))
theorem pr_mul : PrimR X cl (rd2 fun x y H Q => rI IntMulOk (fun i j => .int (i * j)) x y H Q ∨ rRepS X.K x y H Q ∨ rRep0 X.K x y H Q ∨ rRepT X.K x y H Q ∨ rRep x y H Q) pMul := by
  intro O W H ds vs Q w ho hp
  unfold pMul at hp
  split at hp
  · obtain ⟨x, y, rfl, h1, h2⟩ := ho.two
    split at hp
    · rename_i hc
      exact .inl ⟨_, _, h1.int, h2.int, hc, hp _ H (Same.refl H) (by simp only [Rp])⟩
    · exact hp.elim
  · rename_i ds k
    obtain ⟨x, y, rfl, h1, h2⟩ := ho.two
    split at hp
    · rename_i hz
      obtain ⟨a, xs, e1, t1, r1⟩ := h1.tup
      have l1 := r1.length
      by_cases hk : k = 1
      · refine .inr (.inl ⟨a, k, xs, e1, h2.int, t1.sq, .inr hk, hz.1, by omega, hp _ H (Same.refl H) ?_⟩)
        subst hk
        simp only [Rp]
        exact ⟨a, xs, rfl, t1, by simpa using r1⟩
      · by_cases hx : xs = []
        · refine .inr (.inl ⟨a, k, xs, e1, h2.int, t1.sq, .inl hx, hz.1, by omega, hp _ H (Same.refl H) ?_⟩)
          subst hx
          have : ds = [] := List.eq_nil_of_length_eq_zero l1
          subst this
          simp only [Rp]
          exact ⟨a, [], rfl, t1, by simpa using RpA.rep r1 k.toNat⟩
        · by_cases h0 : k ≤ 0
          · refine .inr (.inr (.inl ⟨a, k, xs, e1, h2.int, t1.sq, hx, h0, hz.1, fun p n => hp _ _ (same_upd n) ?_⟩))
            have e0 : k.toNat = 0 := by omega
            rw [e0]
            exact rp_tup w n (Nat.zero_le _) (by simp only [List.replicate_zero, List.flatten_nil, RpA])
          · refine .inr (.inr (.inr (.inl ⟨a, k, xs, e1, h2.int, t1.sq, hx, by omega, hz.2.1, by omega, fun p n => hp _ _ (same_upd n) (rp_tup w n ?_ (RpA.rep r1 k.toNat))⟩)))
            rw [PyProof.Rows.lm_len_rep_flat, sizeLine_eq]
            have a1 : k.toNat * xs.length ≤ 1000 * 1000 := Nat.mul_le_mul (by omega) (by omega)
            omega
    · exact hp.elim
  · obtain ⟨x, y, rfl, h1, h2⟩ := ho.two
    split at hp
    · rename_i hz
      obtain ⟨a, xs, e1, t1, z1, r1⟩ := h1.lst
      have l1 := r1.length
      rw [l1] at hz
      refine .inr (.inr (.inr (.inr ⟨a, _, xs, e1, h2.int, t1, hz.1, hz.2.1, hz.2.2, fun p n => hp p _ _ (same_upd n) n upd_same ?_ (RpA.rep r1 _)⟩)))
      rw [PyProof.Rows.lm_len_rep_flat, Nat.mul_comm]
      exact hz.2.2
    · exact hp.elim
  · exact hp.elim
variable {a b : Expr} {pos : Pos} {fl : List LOp}
theorem ej_mul (h : OJ X cl vs0 Wx [a, b] fl) : EJ X cl vs0 Wx (.BinOp a .Mult b pos) (xPrim fl pMul) := ej_bin op_mulD pr_mul h
def pIx : List D → Rs SD
  | [.lst xs, .int i] => match atI xs i with
    | some d => .ok (.sh d)
    | none => .bad
  | [.tup xs, .int i] => match atI xs i with
    | some d => .ok (.sh d)
    | none => .bad
  | _ => .bad
theorem atI_rp {G : Gx} {O : List Addr} {H : Hp} {ds : List D} {vs : List V} {i : Int} {d : D} (r : RpA G O H ds vs) (h : atI ds i = some d) : ∃ v, atI vs i = some v ∧ Rp G O H d v := by
  unfold atI at h ⊢
  rw [r.length] at h
  cases e : ixN vs.length i with
  | none => rw [e] at h; cases h
  | some j =>
    rw [e] at h
    exact r.getD h
theorem pr_ix : PrimR X cl (rd2 (rIx X.K)) pIx := by
  intro O W H ds vs Q w ho hp
  unfold pIx at hp
  split at hp
  · obtain ⟨x, y, rfl, h1, h2⟩ := ho.two
    split at hp
    · rename_i d e
      obtain ⟨a, xs, e1, t1, z1, r1⟩ := h1.lst
      obtain ⟨v, ev, rv⟩ := atI_rp r1 e
      exact .inl ⟨a, xs, _, v, e1, h2.int, SqL.of t1, ev, hp v H (Same.refl H) rv⟩
    · exact hp.elim
  · obtain ⟨x, y, rfl, h1, h2⟩ := ho.two
    split at hp
    · rename_i d e
      obtain ⟨a, xs, e1, t1, r1⟩ := h1.tup
      obtain ⟨v, ev, rv⟩ := atI_rp r1 e
      exact .inr (.inl ⟨a, xs, _, v, e1, h2.int, t1.sq, ev, hp v H (Same.refl H) rv⟩)
    · exact hp.elim
  · exact hp.elim
theorem ej_sbs (h : OJ X cl vs0 Wx [a, b] fl) (hs : PlainIx b := by exact fun _ _ => rfl) : EJ X cl vs0 Wx (.Subscript a b pos) (xPrim fl pIx) := ej_ix ix_seq pr_ix h hs
end
end Wm
end
section
namespace Wm
open PySem PySem.Spec PyProof.Rows L2
section
variable {X : Cx} {cl : Cl} {vs0 : List V} {Wx : WX}
def cutL {α : Type} (xs : List α) (lo hi : Option Int) : List α := (xs.drop (HT.sIx xs.length 0 lo)).take (HT.sIx xs.length xs.length hi - HT.sIx xs.length 0 lo)
theorem RpA.cut {G : Gx} {O : List Addr} {H : Hp} {ds : List D} {vs : List V} (r : RpA G O H ds vs) (lo hi : Option Int) : RpA G O H (cutL ds lo hi) (cutV vs lo hi) := by
  unfold cutL cutV
  rw [r.length]
  exact (r.drop _).take _
def slD (lo hi : Option Int) : D → Rs SD
  | .lst xs => .ok (.own (cutL xs lo hi))
  | .tup xs => .ok (.sh (.tup (cutL xs lo hi)))
  | _ => .bad
def rSl (K : PySem.W.Frag) : V → Option Int → Option Int → Hp → VK → Prop := fun x lo hi H Q => rSlL K x lo hi H Q ∨ rSlA K x lo hi H Q
theorem sl_any : SlR X (rSl X.K) := sl_list.or sl_tupA
theorem sl_ok {O W : List Addr} {H : Hp} {d : D} {v : V} {lo hi : Option Int} {Q : VK} (w : Wf O W H) (h : Op1 (gx X cl) O W H d v) (hp : AftP (gx X cl) O H Q (slD lo hi d)) : rSl X.K v lo hi H Q := by
  cases d with
  | lst xs =>
    obtain ⟨a, vs, e, t, z, r⟩ := h.lst
    refine .inl ⟨a, vs, e, SqL.of t, fun p n => hp p _ _ (same_upd n) n upd_same (Nat.le_trans (cutV_length _ _ _) z) (r.cut lo hi)⟩
  | tup xs =>
    obtain ⟨a, vs, e, t, r⟩ := h.tup
    subst e
    refine .inr ⟨a, vs, rfl, t.sq, fun hw => hp _ H (Same.refl H) ?_, fun _ p n => hp _ _ (same_upd n) (rp_tup w n (Nat.le_trans (cutV_length _ _ _) t.1) (r.cut lo hi))⟩
    simp only [Rp]
    refine ⟨a, vs, rfl, t, ?_⟩
    have e2 : cutL xs lo hi = xs := by
      unfold cutL
      rw [r.length, hw.1, hw.2, Nat.sub_zero, List.drop_zero]
      exact List.take_of_length_le (Nat.le_of_eq r.length)
    rw [e2]; exact r
  | _ => exact hp.elim
def pSlLo : List D → Rs SD
  | [d, .int i] => slD (some i) none d
  | _ => .bad
def pSlHi : List D → Rs SD
  | [d, .int j] => slD none (some j) d
  | _ => .bad
variable {a b c e : Expr} {pos p2 : Pos} {fl : List LOp}
theorem ej_slHi (h : OJ X cl vs0 Wx [a, b] fl) : EJ X cl vs0 Wx (.Subscript a (.Slice none (some b) none p2) pos) (xPrim fl pSlHi) := by
  obtain ⟨ta, tb, ha, hb, q⟩ := two_of h
  refine ⟨⟨_, pe_slice sl_any ha po_none (po_some hb), prim_core (rd := rd2 fun x y H Q => ∃ i, y = .int i ∧ rSl X.K x none (some i) H Q) (fun O W H ds vs Q w ho hp => ?_) q⟩⟩
  unfold pSlHi at hp
  split at hp
  · obtain ⟨x, y, rfl, h1, h2⟩ := ho.two
    exact ⟨_, h2.int, sl_ok w h1 hp⟩
  · exact hp.elim
def mops : List Sx → So
  | [], ρ => .ok ([], ρ)
  | f :: r, ρ => (f ρ).bind fun p => (mops r p.2).bind fun q => .ok (p.1.frz :: q.1, q.2)
def AftM (G : Gx) (vs0 : List V) (Wx : WX) (O W : List Addr) (σ : L2.St) (H : Hp) (Q : List V → Hp → Prop) : Rs (List D × List SD) → Prop
  | .ok (ds, ρ') => ∀ vs O' W' H', Stp O W H O' W' H' → SR G vs0 O' W' σ H' ρ' → RpA G O' H' ds vs → Q vs H'
  | .exc c fs ρ' => ExcA G vs0 Wx O W σ H c fs ρ'
  | .bad => False
structure MJ (X : Cx) (cl : Cl) (vs0 : List V) (Wx : WX) (es : List Expr) (fs : List Sx) : Prop where
  ex : ∃ t, PA X es t ∧ ∀ O W σ H ρ R, SR (gx X cl) vs0 O W σ H ρ → AftM (gx X cl) vs0 Wx O W σ H R (mops fs ρ) → t σ H R
theorem mj_nil : MJ X cl vs0 Wx [] [] := ⟨⟨_, pa_nil, fun O W σ H ρ R sr h => h [] O W H Stp.refl sr (by simp only [RpA])⟩⟩
theorem mj_cons {es : List Expr} {f : Sx} {fs : List Sx} (h : EJ X cl vs0 Wx e f) (hr : MJ X cl vs0 Wx es fs) (hs : starEach (e :: es) X.env = (false, eval e X.env) :: starEach es X.env := by rfl) : MJ X cl vs0 Wx (e :: es) (f :: fs) := by
  obtain ⟨ta, p2, p3⟩ := hr.ex
  obtain ⟨t, q1, q2⟩ := h.ex
  refine ⟨⟨_, pa_cons q1 p2 hs, fun O W σ H ρ R sr hw => ?_⟩⟩
  have hw' : AftM (gx X cl) vs0 Wx O W σ H R ((f ρ).bind fun p => (mops fs p.2).bind fun q => .ok (p.1.frz :: q.1, q.2)) := hw
  refine q2 O W σ H ρ _ sr ?_
  cases e0 : f ρ with
  | bad => rw [e0] at hw'; exact hw'
  | exc c fs ρ' => rw [e0] at hw'; exact hw'
  | ok p =>
    obtain ⟨r, ρ1⟩ := p
    rw [e0] at hw'
    have hw2 : AftM (gx X cl) vs0 Wx O W σ H R ((mops fs ρ1).bind fun q => .ok (r.frz :: q.1, q.2)) := hw'
    intro v O1 W1 H1 st1 sr1 rr
    obtain ⟨O2, W2, st2, sr2, rp⟩ := rr.frz sr1
    have st12 := st1.trans sr.wf st2
    refine p3 O2 W2 σ H1 ρ1 _ sr2 ?_
    cases e1 : mops fs ρ1 with
    | bad => rw [e1] at hw2; exact hw2
    | exc c fs ρ' => rw [e1] at hw2; exact ExcA.back sr.wf st12 hw2
    | ok q =>
      obtain ⟨ds, ρ2⟩ := q
      rw [e1] at hw2
      intro vs O' W' H' st sr' ho
      refine hw2 (v :: vs) O' W' H' (st12.trans sr.wf st) sr' ?_
      simp only [RpA]
      exact ⟨v, vs, rfl, rp.step sr2.wf st, ho⟩
def xLst (fs : List Sx) : Sx := fun ρ => (mops fs ρ).bind fun q => if q.1.length ≤ sizeLine then .ok (.own q.1, q.2) else .bad
def xTup (fs : List Sx) : Sx := fun ρ => (mops fs ρ).bind fun q => if q.1.length ≤ sizeLine then .ok (.sh (.tup q.1), q.2) else .bad
theorem ej_lst {es : List Expr} {fs : List Sx} (h : MJ X cl vs0 Wx es fs) : EJ X cl vs0 Wx (.List es pos) (xLst fs) := by
  obtain ⟨t, p, q⟩ := h.ex
  refine ⟨⟨_, pe_lst p, fun O W σ H ρ Q sr hw => q O W σ H ρ _ sr ?_⟩⟩
  unfold xLst at hw
  cases e : mops fs ρ with
  | bad => rw [e] at hw; exact hw
  | exc c fs ρ' => rw [e] at hw; exact hw
  | ok w =>
    obtain ⟨ds, ρ1⟩ := w
    rw [e] at hw
    have hw2 : AftE (gx X cl) vs0 Wx O W σ H Q (if ds.length ≤ sizeLine then .ok (.own ds, ρ1) else .bad) := hw
    intro vs O' W' H' st sr' ra
    split at hw2
    · rename_i hz
      refine ⟨by rw [← ra.length]; exact hz, fun p n => hw2 (.ref p) (p :: O') (p :: W') _ (st.trans sr.wf (Stp.new (same_upd n) n)) (sr'.new (same_upd n) n (noD_not upd_same)) ⟨p, rfl, ⟨List.mem_cons_self, vs, upd_same, by rw [← ra.length]; exact hz, ra.step sr'.wf (Stp.new (same_upd n) n)⟩, sr'.fre_mk (same_upd n) n⟩⟩
    · exact hw2.elim
theorem ej_tup {es : List Expr} {fs : List Sx} {k : Nat} (h : MJ X cl vs0 Wx es fs) : EJ X cl vs0 Wx (.Tuple es k pos) (xTup fs) := by
  obtain ⟨t, p, q⟩ := h.ex
  refine ⟨⟨_, pe_tup p, fun O W σ H ρ Q sr hw => q O W σ H ρ _ sr ?_⟩⟩
  unfold xTup at hw
  cases e : mops fs ρ with
  | bad => rw [e] at hw; exact hw
  | exc c fs ρ' => rw [e] at hw; exact hw
  | ok w =>
    obtain ⟨ds, ρ1⟩ := w
    rw [e] at hw
    have hw2 : AftE (gx X cl) vs0 Wx O W σ H Q (if ds.length ≤ sizeLine then .ok (.sh (.tup ds), ρ1) else .bad) := hw
    intro vs O' W' H' st sr' ra
    split at hw2
    · rename_i hz
      exact ⟨by rw [← ra.length]; exact hz, fun p n => hw2 (.ref p) O' W' _ (st.trans sr.wf (Stp.same (same_upd n))) (sr'.same (same_upd n)) (rp_tup sr'.wf n (by rw [← ra.length]; exact hz) ra)⟩
    · exact hw2.elim
theorem ej_callTy {x : Str} {id : String} {r : List V → Hp → VK → Prop} {p : Pos} {es : List Expr} {pr : List D → Rs SD} (hc : CallR X (.type id) r) (hp : PrimR X cl r pr) (hg : Gl X x) (hm : X.mg x = none) (hv : bootBuiltins x = some (.type id)) (h : OJ X cl vs0 Wx (e :: es) fl)
    (hn : x ≠ "__name__" := by decide) (hdb : (x == ("__debug__" : Str)) = false := by decide) (he : starEach (e :: es) X.env = (false, eval e X.env) :: starEach es X.env := by rfl) (hpl : (backTo pos (starEach es X.env)).any (·.1) = false := by rfl) :
    EJ X cl vs0 Wx (.Call (.Name x p) (e :: es) [] pos) (xPrim fl pr) := by
  obtain ⟨ts, _, pa, q⟩ := h.ex
  exact ⟨⟨_, pe_callTy hc hg hm hv pa hn hdb he hpl, prim_core hp q⟩⟩
def pLen : List D → Rs SD
  | [.lst xs] => .ok (.sh (.int xs.length))
  | [.tup xs] => .ok (.sh (.int xs.length))
  | _ => .bad
def pList : List D → Rs SD
  | [.lst xs] => .ok (.own xs)
  | [.tup xs] => .ok (.own xs)
  | _ => .bad
def pTuple : List D → Rs SD
  | [.lst xs] => .ok (.sh (.tup xs))
  | [.tup xs] => .ok (.sh (.tup xs))
  | _ => .bad
def pInt : List D → Rs SD
  | [.int i] => .ok (.sh (.int i))
  | [.bl b] => .ok (.sh (.int (if b then 1 else 0)))
  | _ => .bad
theorem pr_int : PrimR X cl (fun xs H Q => (∃ i, xs = [.int i] ∧ Q (.int i) H) ∨ ∃ k, xs = [.bl k] ∧ Q (.int (if k then 1 else 0)) H) pInt := by
  intro O W H ds vs Q w ho hp
  unfold pInt at hp
  split at hp
  · obtain ⟨x, rfl, h1⟩ := ho.one
    exact .inl ⟨_, by rw [h1.int], hp _ H (Same.refl H) (by simp only [Rp])⟩
  · obtain ⟨x, rfl, h1⟩ := ho.one
    exact .inr ⟨_, by rw [h1.bl], hp _ H (Same.refl H) (by simp only [Rp])⟩
  · exact hp.elim
def pAbs : List D → Rs SD
  | [.int i] => .ok (.sh (.int (if i < 0 then -i else i)))
  | _ => .bad
def asInts : List D → Option (List Int)
  | [] => some []
  | .int i :: r => (asInts r).map (i :: ·)
  | _ :: _ => none
end
end Wm
end
section
namespace Wm
open PySem PySem.Spec PyProof.Rows L2
inductive BT where
  | int | bool | tuple | list | str | dict
def isB : BT → D → Option Bool
  | _, .ins _ _ => none
  | _, .exn _ _ => none
  | _, .scr _ => none
  | .dict, .dct _ => some true
  | .int, .int _ => some true
  | .int, .bl _ => some true
  | .bool, .bl _ => some true
  | .tuple, .tup _ => some true
  | .list, .lst _ => some true
  | .str, .str _ => some true
  | _, _ => some false
section
variable {X : Cx} {cl : Cl} {vs0 : List V} {Wx : WX}
def pIsi (t : BT) : List D → Rs SD
  | [d] => match isB t d with
    | some b => .ok (.sh (.bl b))
    | none => .bad
  | _ => .bad
variable {a b c e : Expr} {pos p2 : Pos} {fl : List LOp}
def Rs.tst : Rs (SD × List SD) → Rs (Bool × List SD)
  | .ok (.sh (.bl b), ρ) => .ok (b, ρ)
  | .exc c fs ρ => .exc c fs ρ
  | _ => .bad
theorem tst_core {G : Gx} {O W : List Addr} {σ : L2.St} {H : Hp} {Q : Bool → Hp → Prop} {r : Rs (SD × List SD)} (h : AftB G vs0 Wx O W σ H Q r.tst) : AftE G vs0 Wx O W σ H (fun x H' => ∃ k, x = .bl k ∧ Q k H') r := by
  cases r with
  | bad => exact h
  | exc c fs ρ => exact h
  | ok p =>
    obtain ⟨s, ρ⟩ := p
    cases s with
    | sh d =>
      cases d with
      | bl b =>
        intro v O' W' H' st sr rr
        have rr : Rp G O' H' (.bl b) v := rr
        simp only [Rp] at rr
        exact ⟨b, rr, h O' W' H' st sr⟩
      | _ => exact h.elim
    | _ => exact h.elim
def bT (f : Sx) : Sb := fun ρ => (f ρ).tst
theorem tj_cmp {op : CmpOp} {r : R2} {p : List D → Rs SD} (ho : OpR X (compareOp op) r) (hp : PrimR X cl (rd2 r) p) (h : OJ X cl vs0 Wx [a, b] fl) (hm : behindInMarks op b = false) : TJ X cl vs0 Wx (.Compare a [op] [b] pos) (bT (xPrim fl p)) := by
  obtain ⟨ta, tb, ha, hb, q⟩ := two_of h
  exact ⟨⟨_, pt_cmpR ho ha hb hm, fun O W σ H ρ Q sr hw => prim_core hp q O W σ H ρ _ sr (tst_core hw)⟩⟩
def truD : D → Option Bool
  | .non => some false
  | .bl b => some b
  | .int i => some (i != 0)
  | .tup xs => some (!xs.isEmpty)
  | .lst xs => some (!xs.isEmpty)
  | _ => none
def bTru (fl : List LOp) : Sb := fun ρ => (ops fl ρ).bind fun q => match q.1 with
  | [d] => match truD d with
    | some b => .ok (b, q.2)
    | none => .bad
  | _ => .bad
theorem RpA.emp {G : Gx} {O : List Addr} {H : Hp} {ds : List D} {vs : List V} (r : RpA G O H ds vs) : ds.isEmpty = vs.isEmpty := by
  have := r.length
  cases ds <;> cases vs <;> simp_all
theorem tj_tru (h : OJ X cl vs0 Wx [e] fl) (he : ∀ whole, isTrue e X.env whole = (do let v ← whole; standAt e.pos; holding [v] (truthy v)) := by intro _; rfl) : TJ X cl vs0 Wx e (bTru fl) := by
  obtain ⟨t, p, q⟩ := one_of h
  refine ⟨⟨_, pt_truth p he, fun O W σ H ρ Q sr hw => ?_⟩⟩
  refine q O W σ H ρ (fun vs H' => match vs with
    | [x] => ∃ k, TruV X.K x H' k ∧ Q k H'
    | _ => False) sr ?_
  unfold bTru at hw
  cases e : ops fl ρ with
  | bad => rw [e] at hw; exact hw
  | exc c fs ρ' => rw [e] at hw; exact hw
  | ok w =>
    obtain ⟨ds, ρ1⟩ := w
    rw [e] at hw
    intro vs O' W' H' st sr' ho
    cases ds with
    | nil => exact (show False from hw).elim
    | cons d ds =>
      cases ds with
      | cons _ _ => exact (show False from hw).elim
      | nil =>
        obtain ⟨v, rfl, h1⟩ := OpA.one ho
        have hw2 : AftB (gx X cl) vs0 Wx O W σ H Q (match truD d with
          | some b => .ok (b, ρ1)
          | none => .bad) := hw
        cases d with
        | non => rw [h1.non]; exact ⟨false, rfl, hw2 O' W' H' st sr'⟩
        | bl b => rw [h1.bl]; exact ⟨b, rfl, hw2 O' W' H' st sr'⟩
        | int b => rw [h1.int]; exact ⟨_, rfl, hw2 O' W' H' st sr'⟩
        | tup xs =>
          obtain ⟨a, vs, e, t, r⟩ := h1.tup
          subst e
          exact ⟨_, .inr (.inl ⟨vs, t.sq, by rw [← r.emp]⟩), hw2 O' W' H' st sr'⟩
        | lst xs =>
          obtain ⟨a, vs, e, t, z, r⟩ := h1.lst
          subst e
          exact ⟨_, .inl ⟨vs, SqL.of t, by rw [← r.emp]⟩, hw2 O' W' H' st sr'⟩
        | str _ => exact hw2.elim
        | ins _ _ => exact hw2.elim
        | exn _ _ => exact hw2.elim
        | scr _ => exact hw2.elim
        | dct _ => exact hw2.elim
structure WJ (X : Cx) (cl : Cl) (vs0 : List V) (Wx : WX) (e : Expr) (f : Sb) : Prop where
  ex : ∃ t, PW X e t ∧ ∀ O W σ H ρ Q, SR (gx X cl) vs0 O W σ H ρ → AftB (gx X cl) vs0 Wx O W σ H Q (f ρ) → t σ H Q
theorem WJ.tj {f : Sb} (h : WJ X cl vs0 Wx e f) : TJ X cl vs0 Wx e f := by
  obtain ⟨t, p, q⟩ := h.ex
  exact ⟨⟨t, p.pt, q⟩⟩
def bAnd (f g : Sb) : Sb := fun ρ => (f ρ).bind fun p => if p.1 then g p.2 else .ok (false, p.2)
def bOr (f g : Sb) : Sb := fun ρ => (f ρ).bind fun p => if p.1 then .ok (true, p.2) else g p.2
def bNot (f : Sb) : Sb := fun ρ => (f ρ).bind fun p => .ok (!p.1, p.2)
variable {f g : Sb} {rest : List Expr}
theorem wj_or1 (h : TJ X cl vs0 Wx a f) : WJ X cl vs0 Wx (.BoolOp .Or [a] pos) f := by
  obtain ⟨t, p, q⟩ := h.ex
  exact ⟨⟨t, pw_or1 p, q⟩⟩
theorem b2_core {G : Gx} {O W : List Addr} {σ : L2.St} {H : Hp} {R : Bool → Hp → Prop} {k : Bool × List SD → Rs (Bool × List SD)} {Q : Bool → Hp → Prop} {r : Rs (Bool × List SD)} (w : Wf O W H)
    (hw : AftB G vs0 Wx O W σ H Q (r.bind k)) (h : ∀ b ρ' O' W' H', SR G vs0 O' W' σ H' ρ' → AftB G vs0 Wx O' W' σ H' Q (k (b, ρ')) → R b H') : AftB G vs0 Wx O W σ H R r := by
  cases r with
  | bad => exact hw
  | exc c fs ρ => exact hw
  | ok p => exact fun O' W' H' st sr => h p.1 p.2 O' W' H' sr (AftB.back w st hw)
theorem wj_or (h : TJ X cl vs0 Wx a f) (hb : WJ X cl vs0 Wx (.BoolOp .Or (b :: rest) pos) g) : WJ X cl vs0 Wx (.BoolOp .Or (a :: b :: rest) pos) (bOr f g) := by
  obtain ⟨t, p, q⟩ := h.ex
  obtain ⟨t', p', q'⟩ := hb.ex
  refine ⟨⟨_, pw_or p p', fun O W σ H ρ Q sr hw => q O W σ H ρ _ sr (b2_core sr.wf hw fun b ρ' O' W' H' sr' hk => ?_)⟩⟩
  cases b with
  | false => exact q' O' W' σ H' ρ' Q sr' hk
  | true => exact hk O' W' H' Stp.refl sr'
theorem tj_not (h : TJ X cl vs0 Wx a f) : TJ X cl vs0 Wx (.UnaryOp .Not a pos) (bNot f) := by
  obtain ⟨t, p, q⟩ := h.ex
  refine ⟨⟨_, pt_not p, fun O W σ H ρ Q sr hw => q O W σ H ρ _ sr (b2_core sr.wf hw fun b ρ' O' W' H' sr' hk => ?_)⟩⟩
  exact hk O' W' H' Stp.refl sr'
def xAnd (f g : Sx) : Sx := fun ρ => (f ρ).tst.bind fun p => if p.1 then g p.2 else .ok (.sh (.bl false), p.2)
def xOr (f g : Sx) : Sx := fun ρ => (f ρ).tst.bind fun p => if p.1 then .ok (.sh (.bl true), p.2) else g p.2
def xNot (f : Sx) : Sx := fun ρ => (f ρ).tst.bind fun p => .ok (.sh (.bl (!p.1)), p.2)
theorem v2_core {G : Gx} {O W : List Addr} {σ : L2.St} {H : Hp} {R : VK} {k : Bool × List SD → Rs (SD × List SD)} {Q : VK} {r : Rs (SD × List SD)} (w : Wf O W H)
    (hw : AftE G vs0 Wx O W σ H Q (r.tst.bind k)) (h : ∀ b ρ' O' W' H', SR G vs0 O' W' σ H' ρ' → AftE G vs0 Wx O' W' σ H' Q (k (b, ρ')) → R (.bl b) H') : AftE G vs0 Wx O W σ H R r := by
  cases r with
  | bad => exact hw
  | exc c fs ρ => exact hw
  | ok p =>
    obtain ⟨s, ρ⟩ := p
    cases s with
    | sh d =>
      cases d with
      | bl b =>
        intro v O' W' H' st sr rr
        have rr : Rp G O' H' (.bl b) v := rr
        simp only [Rp] at rr
        rw [rr]
        exact h b ρ O' W' H' sr (AftE.back w st hw)
      | _ => exact hw.elim
    | _ => exact hw.elim
variable {fx gx' : Sx}
theorem rp_bl {G : Gx} {O : List Addr} {H : Hp} {b : Bool} : Rp G O H (.bl b) (.bl b) := by simp only [Rp]
theorem ej_not (h : EJ X cl vs0 Wx a fx) : EJ X cl vs0 Wx (.UnaryOp .Not a pos) (xNot fx) := by
  obtain ⟨t, p, q⟩ := h.ex
  refine ⟨⟨_, pe_not p, fun O W σ H ρ Q sr hw => q O W σ H ρ _ sr (v2_core sr.wf hw fun b ρ' O' W' H' sr' hk => ⟨b, rfl, ?_⟩)⟩⟩
  exact hk _ O' W' H' Stp.refl sr' (rp_bl (G := Wm.gx X cl) (O := O') (H := H'))
def xIf (t : Sb) (f g : Sx) : Sx := fun ρ => (t ρ).bind fun p => if p.1 then f p.2 else g p.2
end
end Wm
end
section
namespace Wm
open PySem PySem.Spec PyProof.Rows L2
def AftS (G : Gx) (vs0 : List V) (Wx : WX) (O W : List Addr) (H : Hp) (D : Ends) : Rs Fl → Prop
  | .ok (.nx ρ') => ∀ σ' O' W' H', Stp O W H O' W' H' → SR G vs0 O' W' σ' H' ρ' → D.nx σ' H'
  | .ok (.rt r ρ') => ∀ v σ' O' W' H', Stp O W H O' W' H' → SR G vs0 O' W' σ' H' ρ' → ResR G O' W' σ' H' ρ' v r → D.rt v H'
  | .ok (.bk ρ') => ∀ σ' O' W' H', Stp O W H O' W' H' → SR G vs0 O' W' σ' H' ρ' → D.bk σ' H'
  | .ok (.ct ρ') => ∀ σ' O' W' H', Stp O W H O' W' H' → SR G vs0 O' W' σ' H' ρ' → D.ct σ' H'
  | .exc c fs ρ' => ∀ σ', ExcA G vs0 Wx O W σ' H c fs ρ'
  | .bad => False
structure SJ (X : Cx) (cl : Cl) (vs0 : List V) (Wx : WX) (st : Stmt) (g : Ss) : Prop where
  ex : ∃ t, PS X st t ∧ ∀ O W σ H ρ D, SR (gx X cl) vs0 O W σ H ρ → AftS (gx X cl) vs0 Wx O W H D (g ρ) → t D σ H
structure BJ (X : Cx) (cl : Cl) (vs0 : List V) (Wx : WX) (sts : List Stmt) (g : Ss) : Prop where
  ex : ∃ t, PSs X sts t ∧ ∀ O W σ H ρ D, SR (gx X cl) vs0 O W σ H ρ → AftS (gx X cl) vs0 Wx O W H D (g ρ) → t D σ H
theorem AftS.back {G : Gx} {vs0 : List V} {Wx : WX} {O W O1 W1 : List Addr} {H H1 : Hp} {D : Ends} (w : Wf O W H) (s : Stp O W H O1 W1 H1) : ∀ {r : Rs Fl}, AftS G vs0 Wx O W H D r → AftS G vs0 Wx O1 W1 H1 D r
  | .ok (.nx _), h => fun σ' O' W' H' s' sr => h σ' O' W' H' (s.trans w s') sr
  | .ok (.rt _ _), h => fun v σ' O' W' H' s' sr rr => h v σ' O' W' H' (s.trans w s') sr rr
  | .ok (.bk _), h => fun σ' O' W' H' s' sr => h σ' O' W' H' (s.trans w s') sr
  | .ok (.ct _), h => fun σ' O' W' H' s' sr => h σ' O' W' H' (s.trans w s') sr
  | .exc _ _ _, h => fun σ' => ExcA.back w s (h σ')
  | .bad, h => h
section
variable {X : Cx} {cl : Cl} {vs0 : List V} {Wx : WX} {st : Stmt} {rest : List Stmt} {g h' : Ss} {e a b : Expr} {f : Sx} {pos : Pos}
def sNil : Ss := fun ρ => .ok (.nx ρ)
def sSeq (g h : Ss) : Ss := fun ρ => (g ρ).bind fun fl => match fl with
  | .nx ρ' => h ρ'
  | fl => .ok fl
theorem bj_nil : BJ X cl vs0 Wx [] sNil := ⟨⟨_, pss_nil, fun O W σ H ρ D sr h => h σ O W H Stp.refl sr⟩⟩
theorem bj_one (h : SJ X cl vs0 Wx st g) : BJ X cl vs0 Wx [st] g := by
  obtain ⟨t, p, q⟩ := h.ex
  exact ⟨⟨t, pss_one p, q⟩⟩
theorem bj_cons (h1 : SJ X cl vs0 Wx st g) (h2 : BJ X cl vs0 Wx rest h') : BJ X cl vs0 Wx (st :: rest) (sSeq g h') := by
  obtain ⟨t, p, q⟩ := h1.ex
  obtain ⟨t', p', q'⟩ := h2.ex
  refine ⟨⟨_, pss_cons p p', fun O W σ H ρ D sr hw => q O W σ H ρ _ sr ?_⟩⟩
  have hw : AftS (gx X cl) vs0 Wx O W H D ((g ρ).bind fun fl => match fl with
    | .nx ρ' => h' ρ'
    | fl => .ok fl) := hw
  cases e : g ρ with
  | bad => rw [e] at hw; exact hw
  | exc c fs ρ' => rw [e] at hw; exact hw
  | ok fl =>
    rw [e] at hw
    cases fl with
    | nx ρ' => exact fun σ' O' W' H' st sr' => q' O' W' σ' H' ρ' D sr' (AftS.back sr.wf st hw)
    | rt r ρ' => exact hw
    | bk ρ' => exact hw
    | ct ρ' => exact hw
theorem e_core {G : Gx} {O W : List Addr} {σ : L2.St} {H : Hp} {R : VK} {k : SD × List SD → Rs Fl} {D : Ends} {r : Rs (SD × List SD)} (w : Wf O W H)
    (hw : AftS G vs0 Wx O W H D (r.bind k)) (h : ∀ v s ρ' O' W' H', SR G vs0 O' W' σ H' ρ' → ResR G O' W' σ H' ρ' v s → AftS G vs0 Wx O' W' H' D (k (s, ρ')) → R v H') : AftE G vs0 Wx O W σ H R r := by
  cases r with
  | bad => exact hw
  | exc c fs ρ => exact hw σ
  | ok p => exact fun v O' W' H' st sr rr => h v p.1 p.2 O' W' H' sr rr (AftS.back w st hw)
theorem t_core {G : Gx} {O W : List Addr} {σ : L2.St} {H : Hp} {R : Bool → Hp → Prop} {k : Bool × List SD → Rs Fl} {D : Ends} {r : Rs (Bool × List SD)} (w : Wf O W H)
    (hw : AftS G vs0 Wx O W H D (r.bind k)) (h : ∀ b ρ' O' W' H', SR G vs0 O' W' σ H' ρ' → AftS G vs0 Wx O' W' H' D (k (b, ρ')) → R b H') : AftB G vs0 Wx O W σ H R r := by
  cases r with
  | bad => exact hw
  | exc c fs ρ => exact hw σ
  | ok p => exact fun O' W' H' st sr => h p.1 p.2 O' W' H' sr (AftS.back w st hw)
def sEx (f : Sx) : Ss := fun ρ => (f ρ).bind fun p => .ok (.nx p.2)
def sSet (i : Nat) (f : Sx) : Ss := fun ρ => (f ρ).bind fun p => .ok (.nx (p.2.set i p.1))
theorem sj_set {i : Nat} {x : Str} {pos' : Pos} (hN : X.N.Nodup) (hi : X.N[i]? = some x) (hx : Loc X.env.scope x) (h : EJ X cl vs0 Wx e f) (hs : swapsWith e (some (.Name x pos')) pos.line X.env = pure false := by rfl) (hf : X.fn x = true ∨ X.env.scope.names.lookup x = some .local := by first | exact .inl rfl | exact .inr rfl | assumption) :
    SJ X cl vs0 Wx (.Assign [.Name x pos'] e pos) (sSet i f) := by
  obtain ⟨t, p, q⟩ := h.ex
  exact ⟨⟨_, ps_set (i := i) hN hi hx p hs hf, fun O W σ H ρ D sr hw => q O W σ H ρ _ sr (e_core sr.wf hw fun v s ρ' O' W' H' sr' rr hk => hk _ O' W' H' Stp.refl (sr'.put rr))⟩⟩
def sRet (f : Sx) : Ss := fun ρ => (f ρ).bind fun p => .ok (.rt p.1 p.2)
theorem sj_ret (h : EJ X cl vs0 Wx e f) : SJ X cl vs0 Wx (.Return (some e) pos) (sRet f) := by
  obtain ⟨t, p, q⟩ := h.ex
  exact ⟨⟨_, ps_ret p, fun O W σ H ρ D sr hw => q O W σ H ρ _ sr (e_core sr.wf hw fun v s ρ' O' W' H' sr' rr hk => hk v σ O' W' H' Stp.refl sr' rr)⟩⟩
def sRetV (i : Nat) : Ss := fun ρ => match ρ[i]? with
  | some (.sh d) => .ok (.rt (.sh d) ρ)
  | some (.own xs) => .ok (.rt (.own xs) (ρ.set i .no))
  | some (.byr xs) => .ok (.rt (.sh (.lst xs)) (ρ.set i (.sh (.lst xs))))
  | some (.od kvs) => .ok (.rt (.od kvs) (ρ.set i .no))
  | some (.ow t) => .ok (.rt (.ow t) (ρ.set i .no))
  | _ => .bad
theorem SR.drop {G : Gx} {O W : List Addr} {σ : L2.St} {H : Hp} {ρ : List SD} (i : Nat) (r : SR G vs0 O W σ H ρ) : SR G vs0 O W σ H (ρ.set i .no) := r.set0
theorem SR.fre_drop {G : Gx} {O W : List Addr} {σ : L2.St} {H : Hp} {ρ : List SD} {i : Nat} {s0 : SD} {a : Addr} (sr : SR G vs0 O W σ H ρ) (e : ρ[i]? = some s0) (hm : s0.mine = true) (e1 : σ[i]? = some (some (.ref a))) : Fre G O W σ H (ρ.set i .no) a := ⟨fun j s q m z => by
    have nj : i ≠ j := fun y => by
      subst y
      rw [List.getElem?_set_self (List.getElem?_eq_some_iff.mp e).1] at q; cases q; cases m
    rw [List.getElem?_set_ne nj] at q
    exact nj (sr.apart i j _ s a e q hm m e1 z), fun j u v fp q ev o hb => by
    have nj : i ≠ j := fun y => by
      subst y
      rw [List.getElem?_set_self (List.getElem?_eq_some_iff.mp e).1] at q; cases q
    rw [List.getElem?_set_ne nj] at q
    obtain ⟨φ, h1, _, h3⟩ := sr.ows
    obtain ⟨v', ev', o'⟩ := h1 j u q
    rw [ev] at ev'; cases ev'
    exact h3 j i u _ a q e hm e1 (OwT.det o o' ▸ hb)⟩
theorem sj_retV {i : Nat} (h : PE X e (tVar i)) : SJ X cl vs0 Wx (.Return (some e) pos) (sRetV i) := by
  refine ⟨⟨_, ps_ret h, fun O W σ H ρ D sr hw => ?_⟩⟩
  unfold sRetV at hw
  split at hw
  · rename_i d e
    obtain ⟨v, e1, r⟩ := sr.get e
    exact ⟨v, e1, hw v σ O W H Stp.refl sr r⟩
  · rename_i xs e
    obtain ⟨a, e1, o⟩ := sr.getOwn e (.inl rfl)
    refine ⟨_, e1, hw (.ref a) σ O W H Stp.refl (sr.drop i) ⟨a, rfl, o, sr.fre_drop e rfl e1⟩⟩
  · rename_i xs e
    obtain ⟨a, O', W', e1, st, sr', r⟩ := sr.demote e (.inr rfl)
    exact ⟨_, e1, hw (.ref a) σ O' W' H st sr' r⟩
  · rename_i kvs e
    obtain ⟨a, e1, o⟩ := sr.getD e
    refine ⟨_, e1, hw (.ref a) σ O W H Stp.refl (sr.drop i) ⟨a, rfl, o, sr.fre_drop e rfl e1⟩⟩
  · rename_i t e
    obtain ⟨v, fp, e1, o, f⟩ := sr.getT e
    refine ⟨_, e1, hw v σ O W H Stp.refl (sr.drop i) ⟨fp, o, fun a ha => ?_⟩⟩
    rcases f a ha .no with z | z | ⟨_, z⟩
    · exact z
    · cases z
    · cases z
  · exact hw.elim
def sIf (t : Sb) (g h : Ss) : Ss := fun ρ => (t ρ).bind fun p => if p.1 then g p.2 else h p.2
theorem sj_if {c : Expr} {bs cs : List Stmt} {t : Sb} (hc : TJ X cl vs0 Wx c t) (h1 : BJ X cl vs0 Wx bs g) (h2 : BJ X cl vs0 Wx cs h') : SJ X cl vs0 Wx (.If c bs cs pos) (sIf t g h') := by
  obtain ⟨tc, pc, qc⟩ := hc.ex
  obtain ⟨t1, p1, q1⟩ := h1.ex
  obtain ⟨t2, p2, q2⟩ := h2.ex
  refine ⟨⟨_, ps_if pc p1 p2, fun O W σ H ρ D sr hw => qc O W σ H ρ _ sr (t_core sr.wf hw fun b ρ' O' W' H' sr' hk => ?_)⟩⟩
  cases b with
  | true => exact q1 O' W' σ H' ρ' D sr' hk
  | false => exact q2 O' W' σ H' ρ' D sr' hk
def setAll : List Nat → List D → List SD → Rs (List SD)
  | [], [], ρ => .ok ρ
  | i :: is, d :: ds, ρ => setAll is ds (ρ.set i (.sh d))
  | _, _, _ => .bad
def gNames : List Nat → TGs
  | [] => gNil
  | i :: is => gCons (gName i) (gNames is)
def sTup (is : List Nat) (f : Sx) : Ss := fun ρ => (f ρ).bind fun p => match p.1 with
  | .sh (.tup ds) => (setAll is ds p.2).bind fun ρ' => .ok (.nx ρ')
  | _ => .bad
end
end Wm
end
section
namespace Wm
open PySem PySem.Spec PyProof.Rows L2
theorem enum_new1 {v : Value} {o : Obj} {H : Heap → Prop} (B : Begins v o H) :
    Meets (Builtin.«enumerate.__new__» ⟨[.type "enumerate", v], []⟩) (fun _ R s => H s.heap ∧
      R (.ok (.ret (.ref (s.heap.push o).objs.size))) { s with heap := (s.heap.push o).push { cls := .type "enumerate", data := .fields #[.none, .bool false, .ref s.heap.objs.size, rawInt 0, .none, .none] } }) :=
  .of_wp fun prog w A R s h => by
    obtain ⟨hp, g, d, tk, os⟩ := s
    obtain ⟨h1, h⟩ := h
    have hsub := sub_enumerate
    have qq : ∀ {A' : Around} {E : Value → Shared → Prop} {Q : Value → Shared → Prop}, Q (.ref hp.objs.size) ⟨hp.push o, g, d, tk, os⟩ → wpAny (model prog w) A' (pyIter v) Q E ⟨hp, g, d, tk, os⟩ :=
      fun z => B.iter prog w _ _ ⟨hp, g, d, tk, os⟩ _ h1 z
    wp_walk using qq
    refine wpAny_stack_any fun st => wpAny_pure ?_
    split
    · rename_i c _ _ _ _ _
      cases (c == Value.type "enumerate") <;> (wp_walk using qq; exact ⟨_, rfl, h⟩)
    · wp_walk using qq
      exact ⟨_, rfl, h⟩
theorem enum_begins1 {prog : Program} {w : World} {A : Around} {E : Value → Shared → Prop} {s : Shared} {v : Value} {o : Obj} {H : Heap → Prop} {Q : Value → Shared → Prop} (B : Begins v o H) (h1 : H s.heap)
    (h : ∀ h', IsEnum h' (s.heap.objs.size + 1) s.heap.objs.size 0 .none → h'.get? s.heap.objs.size = some o → h'.objs.size = s.heap.objs.size + 2 →
      (∀ b o, s.heap.get? b = some o → h'.get? b = some o) → Q (.ref (s.heap.objs.size + 1)) { s with heap := h' }) :
    wpAny (model prog w) A (call (.type "enumerate") [v]) Q E s := by
  refine callType_new F.called_enumerate (by decide) (F.typeCall_enumerate_1 _) (F.newCall_enumerate_1 _) (fun obj => F.args_object_init_2 obj _) F.entry_enumerate_new (enum_new1 B) ⟨h1, ?_⟩
  have hz : (s.heap.push o).objs.size = s.heap.objs.size + 1 := Heap.size_push ..
  have he : IsEnum ((s.heap.push o).push { cls := .type "enumerate", data := .fields #[.none, .bool false, .ref s.heap.objs.size, rawInt 0, .none, .none] }) (s.heap.objs.size + 1) s.heap.objs.size 0 .none := by
    have z := Heap.get?_push_size (s.heap.push o) (o := { cls := .type "enumerate", data := .fields #[.none, .bool false, .ref s.heap.objs.size, rawInt 0, .none, .none] }) rfl
    rw [hz] at z
    exact z
  show _ ∧ _
  rw [hz]
  exact ⟨⟨_, he, rfl⟩, h _ he (Heap.get?_push_of_some _ (Heap.get?_push_size _ B.free)) (by rw [Heap.size_push, hz]) fun b o x => Heap.get?_push_of_some _ (Heap.get?_push_of_some _ x)⟩
inductive Kd where
  | l | t
def SqK (K : PySem.W.Frag) (H : Hp) (a : Addr) (xs : List V) : Kd → Prop
  | .l => SqL K H a xs
  | .t => SqT K H a xs
def IsK (h : Heap) (a : Addr) (its : Array Value) : Kd → Prop
  | .l => h.IsList a its
  | .t => h.IsTuple a its
def ItK (h : Heap) (it a : Addr) (i : Nat) : Kd → Prop
  | .l => h.IsListIter it a i
  | .t => h.IsTupleIter it a i
def obK (a : Addr) : Kd → Obj
  | .l => { cls := .type "list_iterator", data := .fields #[.ref a, .int 0 0] }
  | .t => { cls := .type "tuple_iterator", data := .fields #[.ref a, .int 0 0] }
theorem begK (k : Kd) (a : Addr) (its : Array Value) : Begins (.ref a) (obK a k) (fun h => IsK h a its k) := by
  cases k
  · exact begins_list a its
  · exact begins_tuple a its
theorem obK_it {h : Heap} {it a : Addr} {k : Kd} (e : h.get? it = some (obK a k)) : ItK h it a 0 k := by
  cases k
  · exact ⟨_, e, rfl, rfl⟩
  · exact ⟨_, e, rfl, rfl⟩
theorem ItK.at' {h h' : Heap} {it a : Addr} {i : Nat} {k : Kd} (x : ItK h it a i k) (q : ∀ o, h.get? it = some o → h'.get? it = some o) : ItK h' it a i k := by
  cases k
  · exact Heap.IsListIter.at x q
  · exact Heap.IsTupleIter.at x q
theorem ItK.ob {h : Heap} {it a : Addr} {i : Nat} {k : Kd} (x : ItK h it a i k) : ∃ o, h.get? it = some o ∧ ∀ v, o.data ≠ .cell v := by
  cases k
  · obtain ⟨o, e, c, d⟩ := x
    exact ⟨o, e, fun v z => by rw [d] at z; cases z⟩
  · obtain ⟨o, e, c, d⟩ := x
    exact ⟨o, e, fun v z => by rw [d] at z; cases z⟩
theorem drK {prog : Program} {w : World} {A : Around} (k : Kd) (hh : A.handled = none) (it a : Addr) (hne : a ≠ it) (its : Array Value) : Draws prog w A it [it, a] its.size (fun i v => its[i]? = some v) (fun i h => ItK h it a i k ∧ IsK h a its k) := by
  cases k
  · exact Draws.list hh it a hne its
  · exact Draws.tuple hh it a hne its
section
variable {X : Cx} {pins : List (Addr × Obj)} {σ : L2.St} {H : Hp} {s : Shared} {a : Addr} {xs : List V} {k : Kd}
theorem seqK (I : Inv X pins σ H s) (h : SqK X.K H a xs k) : ∃ its : List Value, Vals xs its ∧ IsK s.heap a its.toArray k := by
  cases k
  · obtain ⟨its, r, p, _⟩ := I.list h
    exact ⟨its, r, p.isList⟩
  · obtain ⟨its, r, p, _⟩ := I.tuple h
    exact ⟨its, r, p⟩
theorem seqK_inj (I : Inv X pins σ H s) {ys : List V} (h : SqK X.K H a xs k) (h' : SqK X.K H a ys k) : xs = ys := by
  cases k
  · exact I.list_inj h h'
  · exact I.tuple_inj h h'
theorem IsK.lt {h : Heap} {its : Array Value} (x : IsK h a its k) : a < h.objs.size := by
  cases k
  · obtain ⟨o, e, _⟩ := x; exact Heap.lt_size e
  · obtain ⟨o, e, _⟩ := x; exact Heap.lt_size e
end
def ItE (K : PySem.W.Frag) (a : Addr) (k : Kd) : It :=
  ⟨fun i H => ∃ (xs : List V) (x : V), SqK K H a xs k ∧ xs[i]? = some x,
   fun i H v H' => ∃ T x, v = .ref T ∧ H T = none ∧ H' = upd H T (.tup [.int (i : Nat), x]) ∧ ∀ xs, SqK K H a xs k → xs[i]? = some x,
   fun i H => ∃ xs : List V, SqK K H a xs k ∧ xs.length = i⟩
theorem turn_enumK {P : Program} {w : World} {K : PySem.W.Frag} {elts : List Expr} {kk : Nat} {tpos : Pos} (k : Kd) (a e it : Addr) :
    Turn P w K (.Tuple elts kk tpos) (ItE K a k) [e, it] e (fun i h => (∃ old, IsEnum h e it (0 + (i : Int)) old) ∧ ItK h it a i k ∧ e ≠ it ∧ a ≠ it ∧ a ≠ e) where
  mem := by simp
  obj := fun i h st b hb => by
    obtain ⟨⟨old, he⟩, hi, _⟩ := st
    rcases (show b = e ∨ b = it by simpa using hb) with z | z
    · rw [z]; exact ⟨_, he, fun v q => nomatch q⟩
    · rw [z]; exact hi.ob
  keep := fun i h h' st q => by
    obtain ⟨⟨old, he⟩, hi, hn⟩ := st
    exact ⟨⟨old, q e (by simp) _ he⟩, hi.at' fun o z => q it (by simp) o z, hn⟩
  item := by
    intro X hP hw hK hc i pins s σ H E I hf st hg
    subst hP hw hK
    obtain ⟨old, hit, hne, hai, hae⟩ := st
    obtain ⟨xs, x, hq, hx⟩ := hg
    obtain ⟨its, rv, p⟩ := seqK I hq
    obtain ⟨u, hu, ru⟩ := rv.get hx
    have hil : i < its.toArray.size := by
      rw [List.size_toArray]
      exact (List.getElem?_eq_some_iff.mp hu).1
    have D := drK (prog := X.prog) (w := X.w) (A := X.A.in1) k (I.ok.hd hc) it a hai its.toArray
    have N := GoesN.enumFrom (elts := elts) (x1 := kk) (pos := tpos) 0 D e hne (by simp [hne, Ne.symm hae]) (by simp)
    refine N.goes i s _ _ hil ⟨old, hit, p⟩ fun v h' tk hY st' hk htk => ?_
    obtain ⟨T, t, y, rfl, hTn, hy, hT⟩ := hY
    obtain ⟨hen, hit', _⟩ := st'
    have ey : y = u := by
      have h2 : its.toArray[i]? = some u := by simpa using hu
      exact Option.some.inj (hy.symm.trans h2)
    subst ey
    have new : ObjOk X.prog X.w (upd H T (.tup [.int (i : Nat), x])) h' T (.tup [.int (i : Nat), x]) := by
      refine ⟨by show 2 ≤ sizeLine; decide, [.int (0 + (i : Int)) t, y], .cons ⟨t, ?_⟩ (.cons ru .nil), hT⟩
      rw [Int.zero_add]
    have J : Inv X pins σ (upd H T (.tup [.int (i : Nat), x])) { s with heap := h', toks := tk } := I.turnedNew (ch := [e, it]) (fun b ob hb q => hk b ob hb q) hf hTn new
    refine ⟨.ref T, _, J, rfl, ⟨T, x, rfl, I.hok.fresh hTn, rfl, fun ys hy' => by rw [seqK_inj I hy' hq]; exact hx⟩, ⟨hen, hit', hne, hai, hae⟩, fun b hb => ?_⟩
    have hbl : b < s.heap.objs.size := by
      obtain ⟨ol, he⟩ := old
      rcases (show b = e ∨ b = it by simpa using hb) with z | z
      · rw [z]; exact Heap.lt_size he
      · rw [z]; obtain ⟨o, q, _⟩ := hit.ob; exact Heap.lt_size q
    rw [upd_ne (Nat.ne_of_lt (Nat.lt_of_lt_of_le hbl hTn))]
    exact (hf b hb).1
  done := by
    intro X hP hw hK hc i pins s σ H E I hf st hg
    subst hP hw hK
    obtain ⟨old, hit, hne, hai, hae⟩ := st
    obtain ⟨xs, hq, hx⟩ := hg
    obtain ⟨its, rv, p⟩ := seqK I hq
    have hl : its.toArray.size = i := by rw [List.size_toArray, ← rv.length]; exact hx
    have D := drK (prog := X.prog) (w := X.w) (A := X.A.in1) k (I.ok.hd hc) it a hai its.toArray
    have N := GoesN.enumFrom (elts := elts) (x1 := kk) (pos := tpos) 0 D e hne (by simp [hne, Ne.symm hae]) (by simp)
    refine N.stops s (fun s1 => Inv X pins σ H s1) E ?_ fun h' tk hk _ => I.turnedL (ch := [e, it]) (fun b o hb q => hk b o hb q) hf
    rw [hl]
    exact ⟨old, hit, p⟩
  self := fun A i s Q E st h => by
    obtain ⟨⟨_, he⟩, _⟩ := st
    exact wpAny_pyIter_enum he h
section
variable {X : Cx} {tg : Expr} {e e2 : Expr} {ta : TA} {te : TE} {p pos tpos : Pos} {elts : List Expr} {kk : Nat}
def itSeq (K : PySem.W.Frag) (a : Addr) : Kd → It
  | .l => Itl K a
  | .t => Itt K a
def iSeq (K : PySem.W.Frag) (te : TE) : TI := fun σ H R => te σ H fun x H1 => ∃ a k, x = .ref a ∧ (∃ xs, SqK K H1 a xs k) ∧ R (itSeq K a k) H1
theorem pi_seq (h : PE X e te) : PI X tg e (iSeq X.K te) := by
  refine ⟨fun pins s σ H R I hw => thn (h.run pins s σ H _ I hw) fun v s1 ⟨x, H1, I1, r1, q1⟩ => ?_⟩
  obtain ⟨a, k, rfl, ⟨xs, hq⟩, q⟩ := q1
  obtain rfl : v = Value.ref a := r1
  cases k with
  | l =>
    obtain ⟨its, rv, p, _⟩ := I1.list hq
    exact wpAny_pyIter_list p.isList (pi_one (tk := s1.toks) I1 _ (turn_list a _) ⟨_, Heap.get?_push_size _ rfl, rfl, rfl⟩ q)
  | t =>
    obtain ⟨its, rv, p, _⟩ := I1.tuple hq
    exact wpAny_pyIter_tuple p (pi_one (tk := s1.toks) I1 _ (turn_tuple a _) ⟨_, Heap.get?_push_size _ rfl, rfl, rfl⟩ q)
def iEnumK (K : PySem.W.Frag) (ta : TA) : TI := fun σ H R => ta σ H fun vs H1 => ∃ a k xs, vs = [.ref a] ∧ SqK K H1 a xs k ∧ R (ItE K a k) H1
theorem pi_enumK (hg : Gl X "enumerate") (hm : X.mg "enumerate" = none) (ha : PA X [e] ta) (hs : starEach [e] X.env = [(false, eval e X.env)] := by rfl) :
    PI X (.Tuple elts kk tpos) (.Call (.Name "enumerate" p) [e] [] pos) (iEnumK X.K ta) := by
  refine ⟨fun pins s σ H R I h => Call_ (ld_blt I hg hm boot_enumerate (PyProof.Rows.callWith_type1 (thn (ha.run pos pins s σ H _ I h) fun us s1 ⟨vs, H1, I1, r1, q1⟩ => ?_) hs rfl))⟩
  obtain ⟨a, k, xs, rfl, hq, q⟩ := q1
  obtain ⟨u, rfl, ru⟩ := vals1 r1
  obtain rfl : u = Value.ref a := ru
  obtain ⟨its, rv, p'⟩ := seqK I1 hq
  have la := p'.lt
  refine enum_begins1 (begK k a its.toArray) p' fun h' he hit hsz hk => wpAny_pyIter_enum he ?_
  have J : Inv X pins σ H1 { s1 with heap := h' } := I1.kept (t' := s1.toks) hk
  refine ⟨s1.heap.objs.size + 1, [s1.heap.objs.size + 1, s1.heap.objs.size], _, _, H1, rfl, J, turn_enumK k a (s1.heap.objs.size + 1) s1.heap.objs.size, ⟨⟨.none, he⟩, obK_it hit, Nat.succ_ne_self _, Nat.ne_of_lt la, Nat.ne_of_lt (Nat.lt_succ_of_lt la)⟩, fun b hb => ?_, q⟩
  have hle : s1.heap.objs.size ≤ b := by
    rcases (show b = s1.heap.objs.size + 1 ∨ b = s1.heap.objs.size by simpa using hb) with z | z
    · rw [z]; exact Nat.le_succ _
    · rw [z]; exact Nat.le_refl _
  exact I1.fpOk hle (I1.hok.fresh hle)
end
end Wm
end
section
namespace Wm
open PySem PySem.Spec PyProof.Rows L2
structure Itm where
  xs : List D
  bor : List (Nat × SD)
def Itm.keep (m : Itm) (ρ : List SD) : Prop := ∀ p ∈ m.bor, ρ[p.1]? = some p.2
def Itm.slots (m : Itm) (σ σ' : L2.St) : Prop := ∀ p ∈ m.bor, σ'[p.1]? = σ[p.1]?
abbrev Src := List SD → Rs (Itm × List SD)
structure Wlk (G : Gx) (vs0 : List V) (O W : List Addr) (σ : L2.St) (H : Hp) (J : It) (m : Itm) : Prop where
  len : m.xs.length ≤ sizeLine
  go : ∀ O2 W2 σ2 H2 ρ2 i d, Stp O W H O2 W2 H2 → SR G vs0 O2 W2 σ2 H2 ρ2 → m.slots σ σ2 → m.keep ρ2 → m.xs[i]? = some d → J.go i H2 ∧ ∀ x H3, J.yld i H2 x H3 → Same H2 H3 ∧ Rp G O2 H3 d x
  stop : ∀ O2 W2 σ2 H2 ρ2, Stp O W H O2 W2 H2 → SR G vs0 O2 W2 σ2 H2 ρ2 → m.slots σ σ2 → m.keep ρ2 → J.stop m.xs.length H2
def AftI (G : Gx) (vs0 : List V) (Wx : WX) (O W : List Addr) (σ : L2.St) (H : Hp) (R : It → Hp → Prop) : Rs (Itm × List SD) → Prop
  | .ok (m, ρ') => ∀ J O' W' H', Stp O W H O' W' H' → SR G vs0 O' W' σ H' ρ' → m.keep ρ' → Wlk G vs0 O' W' σ H' J m → R J H'
  | .exc c fs ρ' => ExcA G vs0 Wx O W σ H c fs ρ'
  | .bad => False
structure IJ (X : Cx) (cl : Cl) (vs0 : List V) (Wx : WX) (tg iter : Expr) (src : Src) : Prop where
  ex : ∃ wi, PI X tg iter wi ∧ (∀ x, foldedSetIterable iter X.env x = pure x) ∧ ∀ O W σ H ρ R, SR (gx X cl) vs0 O W σ H ρ → AftI (gx X cl) vs0 Wx O W σ H R (src ρ) → wi σ H R
def Cn (G : Gx) (vs0 : List V) (O W : List Addr) (σ : L2.St) (H : Hp) (v : V) (m : Itm) : Prop :=
  m.xs.length ≤ sizeLine ∧ ∃ a k, v = .ref a ∧ ∀ O2 W2 σ2 H2 ρ2, Stp O W H O2 W2 H2 → SR G vs0 O2 W2 σ2 H2 ρ2 → m.slots σ σ2 → m.keep ρ2 → ∃ vs, SqK G.K H2 a vs k ∧ RpA G O2 H2 m.xs vs
def AftC (G : Gx) (vs0 : List V) (Wx : WX) (O W : List Addr) (σ : L2.St) (H : Hp) (R : V → Hp → Prop) : Rs (Itm × List SD) → Prop
  | .ok (m, ρ') => ∀ v O' W' H', Stp O W H O' W' H' → SR G vs0 O' W' σ H' ρ' → m.keep ρ' → Cn G vs0 O' W' σ H' v m → R v H'
  | .exc c fs ρ' => ExcA G vs0 Wx O W σ H c fs ρ'
  | .bad => False
def itemsOf : D → Rs (List D)
  | .lst xs => .ok xs
  | .tup xs => .ok xs
  | _ => .bad
def conV (i : Nat) : Src := fun ρ => match ρ[i]? with
  | some (.sh d) => (itemsOf d).bind fun xs => .ok (⟨xs, []⟩, ρ)
  | some (.own xs) => .ok (⟨xs, [(i, .own xs)]⟩, ρ)
  | some (.byr xs) => .ok (⟨xs, [(i, .byr xs)]⟩, ρ)
  | _ => .bad
def con : LOp → Src
  | .va i, ρ => conV i ρ
  | .ex f, ρ => (f ρ).bind fun p => (itemsOf p.1.frz).bind fun xs => .ok (⟨xs, []⟩, p.2)
section
variable {X : Cx} {cl : Cl} {vs0 : List V} {Wx : WX}
theorem cn_data {G : Gx} {O W : List Addr} {σ : L2.St} {H : Hp} {d : D} {v : V} {xs : List D} (w : Wf O W H) (h : Rp G O H d v) (e : itemsOf d = .ok xs) : Cn G vs0 O W σ H v ⟨xs, []⟩ := by
  cases d with
  | lst ds =>
    cases e
    have h' := h
    simp only [Rp] at h'
    obtain ⟨a, vs, ev, t, r⟩ := h'
    refine ⟨by rw [r.length]; exact t.1, a, .l, ev, fun O2 W2 σ2 H2 ρ2 st sr _ _ => ⟨vs, (LO.step (G := G) w st t).sq, r.step w st⟩⟩
  | tup ds =>
    cases e
    have h' := h
    simp only [Rp] at h'
    obtain ⟨a, vs, ev, t, r⟩ := h'
    refine ⟨by rw [r.length]; exact t.1, a, .t, ev, fun O2 W2 σ2 H2 ρ2 st sr _ _ => ⟨vs, (TO.step (G := G) w st t).sq, r.step w st⟩⟩
  | _ => cases e
theorem itemsOf_noexc {d : D} {c : Str} {fs : List (Str × D)} {ρ : List SD} : itemsOf d ≠ .exc c fs ρ := by
  cases d <;> exact fun z => nomatch z
theorem cn_own {G : Gx} {O W : List Addr} {σ : L2.St} {H : Hp} {ρ : List SD} {i : Nat} {s : SD} {xs : List D} {a : Addr} (sr : SR G vs0 O W σ H ρ) (e : σ[i]? = some (some (.ref a))) (o : OwnAt G O W H a xs) (hs : s = .own xs ∨ s = .byr xs) : Cn G vs0 O W σ H (.ref a) ⟨xs, [(i, s)]⟩ := by
  obtain ⟨_, vs, _, h3, h4⟩ := o
  refine ⟨by rw [h4.length]; exact h3, a, .l, rfl, fun O2 W2 σ2 H2 ρ2 st sr2 hsl hk => ?_⟩
  have k1 : ρ2[i]? = some s := hk (i, s) (by simp)
  have k2 : σ2[i]? = σ[i]? := hsl (i, s) (by simp)
  obtain ⟨b, eb, _, vs', h2', _, h4'⟩ := sr2.getOwn k1 hs
  rw [k2, e] at eb; cases eb
  exact ⟨vs', SqL.of h2', h4'⟩
theorem con_core {e : Expr} {o : LOp} (h : LJ X cl vs0 Wx e o) : ∃ t, PE X e t ∧ ∀ O W σ H ρ R, SR (gx X cl) vs0 O W σ H ρ → AftC (gx X cl) vs0 Wx O W σ H R (con o ρ) → t σ H R := by
  cases o with
  | va i =>
    refine ⟨tVar i, h, fun O W σ H ρ R sr hw => ?_⟩
    have hw : AftC (gx X cl) vs0 Wx O W σ H R (conV i ρ) := hw
    unfold conV at hw
    split at hw
    · rename_i d e
      obtain ⟨v, ev, r⟩ := sr.get e
      cases e2 : itemsOf d with
      | bad => rw [e2] at hw; exact hw.elim
      | exc c fs ρ' => exact absurd e2 itemsOf_noexc
      | ok xs =>
        rw [e2] at hw
        exact ⟨v, ev, hw v O W H Stp.refl sr (fun p hp => absurd hp (by simp)) (cn_data sr.wf r e2)⟩
    · rename_i xs e
      obtain ⟨a, ea, oa⟩ := sr.getOwn e (.inl rfl)
      exact ⟨_, ea, hw (.ref a) O W H Stp.refl sr (fun p hp => by
        have : p = (i, SD.own xs) := by simpa using hp
        rw [this]; exact e) (cn_own sr ea oa (.inl rfl))⟩
    · rename_i xs e
      obtain ⟨a, ea, oa⟩ := sr.getOwn e (.inr rfl)
      exact ⟨_, ea, hw (.ref a) O W H Stp.refl sr (fun p hp => by
        have : p = (i, SD.byr xs) := by simpa using hp
        rw [this]; exact e) (cn_own sr ea oa (.inr rfl))⟩
    · exact hw.elim
  | ex f =>
    obtain ⟨t, q1, q2⟩ := h.ex
    refine ⟨t, q1, fun O W σ H ρ R sr hw => q2 O W σ H ρ _ sr ?_⟩
    have hw : AftC (gx X cl) vs0 Wx O W σ H R ((f ρ).bind fun p => (itemsOf p.1.frz).bind fun xs => .ok (⟨xs, []⟩, p.2)) := hw
    cases e : f ρ with
    | bad => rw [e] at hw; exact hw
    | exc c fs ρ' => rw [e] at hw; exact hw
    | ok p =>
      obtain ⟨r, ρ1⟩ := p
      rw [e] at hw
      have hw2 : AftC (gx X cl) vs0 Wx O W σ H R ((itemsOf r.frz).bind fun xs => .ok (⟨xs, []⟩, ρ1)) := hw
      intro v O1 W1 H1 st1 sr1 rr
      obtain ⟨O2, W2, st2, sr2, rp⟩ := rr.frz sr1
      cases e2 : itemsOf r.frz with
      | bad => rw [e2] at hw2; exact hw2.elim
      | exc c fs ρ' => exact absurd e2 itemsOf_noexc
      | ok xs =>
        rw [e2] at hw2
        exact hw2 v O2 W2 H1 (st1.trans sr.wf st2) sr2 (fun p hp => absurd hp (by simp)) (cn_data sr2.wf rp e2)
def CJ (X : Cx) (cl : Cl) (vs0 : List V) (Wx : WX) (e : Expr) (src : Src) : Prop := ∃ t, PE X e t ∧ ∀ O W σ H ρ R, SR (gx X cl) vs0 O W σ H ρ → AftC (gx X cl) vs0 Wx O W σ H R (src ρ) → t σ H R
def conF (i : Nat) : Src := fun ρ => match ρ[i]? with
  | some (.sh d) => (itemsOf d).bind fun xs => .ok (⟨xs, []⟩, ρ)
  | some (.own xs) => .ok (⟨xs, []⟩, ρ.set i (.sh (.lst xs)))
  | some (.byr xs) => .ok (⟨xs, [(i, .byr xs)]⟩, ρ)
  | _ => .bad
theorem cj_F {i : Nat} {e : Expr} (h : PE X e (tVar i)) : CJ X cl vs0 Wx e (conF i) := by
  refine ⟨tVar i, h, fun O W σ H ρ R sr hw => ?_⟩
  unfold conF at hw
  split at hw
  · rename_i d e
    obtain ⟨v, ev, r⟩ := sr.get e
    cases e2 : itemsOf d with
    | bad => rw [e2] at hw; exact hw.elim
    | exc c fs ρ' => exact absurd e2 itemsOf_noexc
    | ok xs =>
      rw [e2] at hw
      exact ⟨v, ev, hw v O W H Stp.refl sr (fun p hp => absurd hp (by simp)) (cn_data sr.wf r e2)⟩
  · rename_i xs e
    obtain ⟨a, O', W', e1, st, sr', r⟩ := sr.demote e (.inl rfl)
    exact ⟨_, e1, hw (.ref a) O' W' H st sr' (fun p hp => absurd hp (by simp)) (cn_data (d := .lst xs) sr'.wf r rfl)⟩
  · rename_i xs e
    obtain ⟨a, ea, oa⟩ := sr.getOwn e (.inr rfl)
    exact ⟨_, ea, hw (.ref a) O W H Stp.refl sr (fun p hp => by
      have : p = (i, SD.byr xs) := by simpa using hp
      rw [this]; exact e) (cn_own sr ea oa (.inr rfl))⟩
  · exact hw.elim
theorem ij_seqC {tg e : Expr} {src : Src} (h : CJ X cl vs0 Wx e src) (hs : ∀ x, foldedSetIterable e X.env x = pure x := by intro _; rfl) : IJ X cl vs0 Wx tg e src := by
  obtain ⟨t, p, q⟩ := h
  refine ⟨⟨_, pi_seq p, hs, fun O W σ H ρ R sr hw => q O W σ H ρ _ sr ?_⟩⟩
  cases e : src ρ with
  | bad => rw [e] at hw; exact hw
  | exc c fs ρ' => rw [e] at hw; exact hw
  | ok m =>
    obtain ⟨m, ρ1⟩ := m
    rw [e] at hw
    intro v O' W' H' st sr' hk ⟨hl, a, k, ev, hc⟩
    refine ⟨a, k, ev, ?_, hw _ O' W' H' st sr' hk ⟨hl, fun O2 W2 σ2 H2 ρ2 i d st2 sr2 h1 h2 hd => ?_, fun O2 W2 σ2 H2 ρ2 st2 sr2 h1 h2 => ?_⟩⟩
    · obtain ⟨vs, hq, _⟩ := hc O' W' σ H' ρ1 Stp.refl sr' (fun _ _ => rfl) hk
      exact ⟨vs, hq⟩
    · obtain ⟨vs, hq, ra⟩ := hc O2 W2 σ2 H2 ρ2 st2 sr2 h1 h2
      obtain ⟨v, hv, rv⟩ := ra.getD hd
      cases k with
      | l => exact ⟨⟨vs, v, hq, hv⟩, fun x H3 ⟨e3, hy⟩ => by
          subst e3
          have : x = v := Option.some.inj ((hy vs hq).symm.trans hv)
          subst this
          exact ⟨Same.refl _, rv⟩⟩
      | t => exact ⟨⟨vs, v, hq, hv⟩, fun x H3 ⟨e3, hy⟩ => by
          subst e3
          have : x = v := Option.some.inj ((hy vs hq).symm.trans hv)
          subst this
          exact ⟨Same.refl _, rv⟩⟩
    · obtain ⟨vs, hq, ra⟩ := hc O2 W2 σ2 H2 ρ2 st2 sr2 h1 h2
      cases k with
      | l => exact ⟨vs, hq, Nat.le_of_eq ra.length.symm⟩
      | t => exact ⟨vs, hq, Nat.le_of_eq ra.length.symm⟩
theorem ij_seq {tg e : Expr} {o : LOp} (h : LJ X cl vs0 Wx e o) (hs : ∀ x, foldedSetIterable e X.env x = pure x := by intro _; rfl) : IJ X cl vs0 Wx tg e (con o) := ij_seqC (con_core h) hs
theorem rp_tup' {G : Gx} {O W : List Addr} {H : Hp} {p : Addr} {vs : List V} {ds : List D} (w : Wf O W H) (n : H p = none) (hl : vs.length ≤ sizeLine) (h : RpA G O H ds vs) : Same H (upd H p (.tup vs)) ∧ Rp G O (upd H p (.tup vs)) (.tup ds) (.ref p) := ⟨same_upd n, rp_tup w n hl h⟩
def enumD (xs : List D) : List D := xs.mapIdx fun i x => .tup [.int (i : Nat), x]
def enumS (src : Src) : Src := fun ρ => (src ρ).bind fun p => .ok (⟨enumD p.1.xs, p.1.bor⟩, p.2)
abbrev srcEnum (o : LOp) : Src := enumS (con o)
theorem ij_enumC {e : Expr} {src : Src} {p pos tpos : Pos} {elts : List Expr} {kk : Nat} (hg : Gl X "enumerate") (hm : X.mg "enumerate" = none) (h : CJ X cl vs0 Wx e src) (hs : starEach [e] X.env = [(false, eval e X.env)] := by rfl) :
    IJ X cl vs0 Wx (.Tuple elts kk tpos) (.Call (.Name "enumerate" p) [e] [] pos) (enumS src) := by
  obtain ⟨t, p, q⟩ := h
  refine ⟨⟨_, pi_enumK hg hm (pa_cons p pa_nil hs) hs, fun _ => rfl, fun O W σ H ρ R sr hw => q O W σ H ρ _ sr ?_⟩⟩
  unfold enumS at hw
  cases e : src ρ with
  | bad => rw [e] at hw; exact hw
  | exc c fs ρ' => rw [e] at hw; exact hw
  | ok m =>
    obtain ⟨m, ρ1⟩ := m
    rw [e] at hw
    intro v O' W' H' st sr' hk ⟨hl, a, k, ev, hc⟩
    obtain ⟨vs, hq, _⟩ := hc O' W' σ H' ρ1 Stp.refl sr' (fun _ _ => rfl) hk
    refine ⟨a, k, vs, by rw [ev], hq, hw _ O' W' H' st sr' hk ⟨by simpa [enumD] using hl, fun O2 W2 σ2 H2 ρ2 i d st2 sr2 h1 h2 hd => ?_, fun O2 W2 σ2 H2 ρ2 st2 sr2 h1 h2 => ?_⟩⟩
    · obtain ⟨vs, hq, ra⟩ := hc O2 W2 σ2 H2 ρ2 st2 sr2 h1 h2
      have hd : (enumD m.xs)[i]? = some d := hd
      unfold enumD at hd
      rw [List.getElem?_mapIdx] at hd
      obtain ⟨x, hx, rfl⟩ := Option.map_eq_some_iff.mp hd
      obtain ⟨v, hv, rv⟩ := ra.getD hx
      refine ⟨⟨vs, v, hq, hv⟩, fun y H3 ⟨T, z, ey, hT, e3, hy⟩ => ?_⟩
      subst e3 ey
      have : z = v := Option.some.inj ((hy vs hq).symm.trans hv)
      subst this
      refine rp_tup' sr2.wf hT (by show 2 ≤ sizeLine; decide) ?_
      simp only [RpA, Rp]
      exact ⟨_, _, rfl, rfl, _, _, rfl, rv, rfl⟩
    · obtain ⟨vs, hq, ra⟩ := hc O2 W2 σ2 H2 ρ2 st2 sr2 h1 h2
      exact ⟨vs, hq, by simp [enumD, ra.length]⟩
theorem ij_enum {e : Expr} {o : LOp} {p pos tpos : Pos} {elts : List Expr} {kk : Nat} (hg : Gl X "enumerate") (hm : X.mg "enumerate" = none) (h : LJ X cl vs0 Wx e o) (hs : starEach [e] X.env = [(false, eval e X.env)] := by rfl) :
    IJ X cl vs0 Wx (.Tuple elts kk tpos) (.Call (.Name "enumerate" p) [e] [] pos) (srcEnum o) := ij_enumC hg hm (con_core h) hs
noncomputable instance (m : Itm) (ρ : List SD) : Decidable (m.keep ρ) := Classical.propDecidable _
def zipD (xs ys : List D) : List D := List.zipWith (fun x y => .tup [x, y]) xs ys
noncomputable def srcZip (o o2 : LOp) : Src := fun ρ => (con o ρ).bind fun p => (con o2 p.2).bind fun q => if p.1.keep q.2 then .ok (⟨zipD p.1.xs q.1.xs, p.1.bor ++ q.1.bor⟩, q.2) else .bad
def rangeD (lo : Int) (n : Nat) : List D := (List.range n).map fun (k : Nat) => .int (lo + k)
def rngOk (i : Int) : Prop := -(2 ^ 62) ≤ i ∧ i < 2 ^ 62
instance (i : Int) : Decidable (rngOk i) := by unfold rngOk; infer_instance
def rng1 (ρ : List SD) : List D → Rs (Itm × List SD)
  | [.int j] => if rngOk j ∧ j.toNat ≤ sizeLine then .ok (⟨rangeD 0 j.toNat, []⟩, ρ) else .bad
  | _ => .bad
def rng2 (ρ : List SD) : List D → Rs (Itm × List SD)
  | [.int i, .int j] => if rngOk i ∧ rngOk j ∧ (j - i).toNat ≤ sizeLine then .ok (⟨rangeD i (j - i).toNat, []⟩, ρ) else .bad
  | _ => .bad
def srcRng1 (fl : List LOp) : Src := fun ρ => (ops fl ρ).bind fun q => rng1 q.2 q.1
def srcRng2 (fl : List LOp) : Src := fun ρ => (ops fl ρ).bind fun q => rng2 q.2 q.1
theorem wlk_rng {G : Gx} {O W : List Addr} {σ : L2.St} {H : Hp} {lo : Int} {n : Nat} (h : n ≤ sizeLine) : Wlk G vs0 O W σ H (Itr lo n) ⟨rangeD lo n, []⟩ := by
  refine ⟨by simpa [rangeD] using h, fun O2 W2 σ2 H2 ρ2 i d st sr h1 h2 hd => ?_, fun O2 W2 σ2 H2 ρ2 st sr h1 h2 => ?_⟩
  · have hd : (rangeD lo n)[i]? = some d := hd
    unfold rangeD at hd
    rw [List.getElem?_map] at hd
    obtain ⟨k, hk, rfl⟩ := Option.map_eq_some_iff.mp hd
    obtain ⟨hl, e⟩ := List.getElem?_eq_some_iff.mp hk
    rw [List.getElem_range] at e
    subst e
    have hl' : i < n := by simpa using hl
    refine ⟨hl', fun x H3 ⟨e1, e2⟩ => ?_⟩
    subst e1 e2
    exact ⟨Same.refl _, by simp only [Rp]⟩
  · show n ≤ (rangeD lo n).length
    simp [rangeD]
theorem ij_rng1 {tg a : Expr} {fl : List LOp} {p pos : Pos} (hg : Gl X "range") (hm : X.mg "range" = none) (h : OJ X cl vs0 Wx [a] fl) (hs : starEach [a] X.env = [(false, eval a X.env)] := by rfl) : IJ X cl vs0 Wx tg (.Call (.Name "range" p) [a] [] pos) (srcRng1 fl) := by
  obtain ⟨ts, _, pa, q⟩ := h.ex
  refine ⟨⟨_, pi_range1 hg hm pa hs, fun _ => rfl, fun O W σ H ρ R sr hw => q O W σ H ρ _ sr ?_⟩⟩
  unfold srcRng1 at hw
  cases e : ops fl ρ with
  | bad => rw [e] at hw; exact hw
  | exc c fs ρ' => rw [e] at hw; exact hw
  | ok m =>
    obtain ⟨ds, ρ1⟩ := m
    rw [e] at hw
    intro vs O' W' H' st sr' ho
    have hw : AftI (gx X cl) vs0 Wx O W σ H R (rng1 ρ1 ds) := hw
    unfold rng1 at hw
    split at hw
    · split at hw
      · rename_i hz
        obtain ⟨v, ev, h1⟩ := ho.one
        refine ⟨_, by rw [ev, h1.int], hz.1.1, hz.1.2, hw _ O' W' H' st sr' (fun p hp => absurd hp (by simp)) (wlk_rng hz.2)⟩
      · exact hw.elim
    · exact hw.elim
end
end Wm
end
section
namespace Wm
open PySem PySem.Spec PyProof.Rows L2
abbrev Tg := D → List SD → Option (List SD)
structure GJ (X : Cx) (cl : Cl) (vs0 : List V) (tg : Expr) (st : Tg) (is : List Nat) : Prop where
  ex : ∃ g, PG X tg g ∧ ∀ O W σ H ρ ρ' d v Q, SR (gx X cl) vs0 O W σ H ρ → Rp (gx X cl) O H d v → st d ρ = some ρ' → (∀ σ', SR (gx X cl) vs0 O W σ' H ρ' → (∀ vs, (∀ i ∈ is, i ∈ vs) → wipe σ' vs = wipe σ vs) → Q σ' H) → g v σ H Q
theorem wipe_set {σ : L2.St} {i : Nat} {x : Option V} : ∀ {vs : List Nat}, i ∈ vs → wipe (σ.set i x) vs = wipe σ vs
  | [], h => absurd h (by simp)
  | v :: vs, h => by
    unfold wipe
    by_cases e : i ∈ vs
    · rw [wipe_set e]
    · have ev : i = v := by
        rcases List.mem_cons.mp h with z | z
        · exact z
        · exact absurd z e
      subst ev
      have key : ∀ {ws : List Nat}, i ∉ ws → wipe (σ.set i x) ws = (wipe σ ws).set i x := by
        intro ws
        induction ws with
        | nil => intro _; rfl
        | cons w ws ih =>
          intro hn
          have hw : w ≠ i := fun z => hn (by simp [z])
          unfold wipe
          rw [ih (fun z => hn (List.mem_cons_of_mem _ z)), List.set_comm _ _ (Ne.symm hw)]
      rw [key e, List.set_set]
def stN (i : Nat) : Tg := fun d ρ => some (ρ.set i (.sh d))
def setO : List Nat → List D → List SD → Option (List SD)
  | [], [], ρ => some ρ
  | i :: is, d :: ds, ρ => setO is ds (ρ.set i (.sh d))
  | _, _, _ => none
def stT (is : List Nat) : Tg := fun d ρ => match d with
  | .tup ds => setO is ds ρ
  | _ => none
section
variable {X : Cx} {cl : Cl} {vs0 : List V} {Wx : WX}
theorem gj_name {i : Nat} {x : Str} {pos : Pos} (hN : X.N.Nodup) (hi : X.N[i]? = some x) (hx : Loc X.env.scope x) (hf : X.fn x = true ∨ X.env.scope.names.lookup x = some .local := by first | exact .inl rfl | exact .inr rfl | assumption) : GJ X cl vs0 (.Name x pos) (stN i) [i] :=
  ⟨⟨_, pg_name hN hi hx hf, fun O W σ H ρ ρ' d v Q sr rp e q => by
    cases e
    exact q _ (sr.set rp) fun vs h => wipe_set (h i (by simp))⟩⟩
theorem gNamesO_ok {G : Gx} {O W : List Addr} {H : Hp} {Q : L2.St → Hp → Prop} : ∀ {is : List Nat} {ds : List D} {vs : List V} {σ : L2.St} {ρ ρ' : List SD}, SR G vs0 O W σ H ρ → RpA G O H ds vs → setO is ds ρ = some ρ' →
    (∀ σ', SR G vs0 O W σ' H ρ' → (∀ vs, (∀ i ∈ is, i ∈ vs) → wipe σ' vs = wipe σ vs) → Q σ' H) → gNames is vs σ H Q
  | [], [], vs, σ, ρ, ρ', sr, ra, h, q => by
    simp only [RpA] at ra
    cases h
    exact ⟨ra, q σ sr fun _ _ => rfl⟩
  | i :: is, d :: ds, vs, σ, ρ, ρ', sr, ra, h, q => by
    simp only [RpA] at ra
    obtain ⟨v, r, e, h1, h2⟩ := ra
    exact ⟨v, r, e, gNamesO_ok (sr.set h1) h2 h fun σ' sr' hw => q σ' sr' fun vs hv => (hw vs fun j hj => hv j (List.mem_cons_of_mem _ hj)).trans (wipe_set (hv i (by simp)))⟩
  | [], _ :: _, _, _, _, _, _, _, h, _ => by cases h
  | _ :: _, [], _, _, _, _, _, _, h, _ => by cases h
theorem setO_len : ∀ {is : List Nat} {ds : List D} {ρ ρ2 : List SD}, setO is ds ρ = some ρ2 → is.length = ds.length
  | [], [], _, _, _ => rfl
  | i :: is, d :: ds, _, _, h => congrArg (· + 1) (setO_len (is := is) (ds := ds) h)
  | [], _ :: _, _, _, h => by cases h
  | _ :: _, [], _, _, h => by cases h
theorem gj_tup {es : List Expr} {k n : Nat} {is : List Nat} {pos : Pos} (hc : X.calm = true) (hg : PGs X es (gNames is)) (hl : is.length = n) (hn : (assignEach es X.env).length = n := by rfl) (hst : (assignEach es X.env).findIdx? (·.1) = none := by rfl) : GJ X cl vs0 (.Tuple es k pos) (stT is) is := by
  refine ⟨⟨_, pg_tup hc hg hn hst, fun O W σ H ρ ρ' d v Q sr rp e q => ?_⟩⟩
  cases d with
  | tup ds =>
    have e : setO is ds ρ = some ρ' := e
    simp only [Rp] at rp
    obtain ⟨a, vs, ev, t, ra⟩ := rp
    exact ⟨a, vs, ev, t.sq, by rw [← ra.length, ← setO_len e]; exact hl, gNamesO_ok sr ra e q⟩
  | _ => cases e
def forL (st : Tg) (body : Ss) : List D → List SD → Rs Fl
  | [], ρ => .ok (.nx ρ)
  | d :: ds, ρ => match st d ρ with
    | some ρ1 => (body ρ1).bind fun fl => match fl with
      | .nx ρ2 => forL st body ds ρ2
      | .ct ρ2 => forL st body ds ρ2
      | .bk ρ2 => .ok (.nx ρ2)
      | .rt r ρ2 => .ok (.rt r ρ2)
    | none => .bad
noncomputable def forK (m : Itm) (st : Tg) (body : Ss) : List D → List SD → Rs Fl
  | [], ρ => if m.keep ρ then .ok (.nx ρ) else .bad
  | d :: ds, ρ => if m.keep ρ then (match st d ρ with
    | some ρ1 => (body ρ1).bind fun fl => match fl with
      | .nx ρ2 => forK m st body ds ρ2
      | .ct ρ2 => forK m st body ds ρ2
      | .bk ρ2 => .ok (.nx ρ2)
      | .rt r ρ2 => .ok (.rt r ρ2)
    | none => .bad) else .bad
def SD.isByr : SD → Bool
  | .byr _ => true
  | _ => false
noncomputable def sFor (src : Src) (st : Tg) (body : Ss) : Ss := fun ρ => (src ρ).bind fun p => match p.1.bor with
  | [] => forL st body p.1.xs p.2
  | bs => if bs.all (fun b => b.2.isByr) then forK p.1 st body p.1.xs p.2 else .bad
theorem sj_for {tg iter : Expr} {body : List Stmt} {src : Src} {st : Tg} {is : List Nat} {g : Ss} {pos : Pos} (hp : PassesOwn (model X.prog X.w) X.A X.env X.xe) (hc : X.calm = true) (hi : IJ X cl vs0 Wx tg iter src) (hg : GJ X cl vs0 tg st is) (hb : BJ X cl vs0 Wx body g) :
    SJ X cl vs0 Wx (.For tg iter body [] pos) (sFor src st g) := by
  obtain ⟨wi, p1, hs, q1⟩ := hi.ex
  obtain ⟨tg', p2, q2⟩ := hg.ex
  obtain ⟨tb, p3, q3⟩ := hb.ex
  refine ⟨⟨_, ps_for hp hc p1 p2 p3 hs, fun O W σ H ρ E sr hw => q1 O W σ H ρ _ sr ?_⟩⟩
  unfold sFor at hw
  cases e : src ρ with
  | bad => rw [e] at hw; exact hw
  | exc c fs ρ' => rw [e] at hw; exact hw σ
  | ok p =>
    obtain ⟨⟨xs, bor⟩, ρ1⟩ := p
    rw [e] at hw
    cases bor with
    | cons b bs =>
      have hw : AftS (gx X cl) vs0 Wx O W H E (if (b :: bs).all (fun b => b.2.isByr) then forK ⟨xs, b :: bs⟩ st g xs ρ1 else .bad) := hw
      split at hw
      · rename_i hby
        generalize hm : (⟨xs, b :: bs⟩ : Itm) = mm at hw
        intro J O1 W1 H1 st1 sr1 hk wk
        have hxs : mm.xs = xs := by rw [← hm]
        have byr : ∀ p ∈ mm.bor, p.2.isByr = true := fun p hp => List.all_eq_true.mp hby p (by rw [← hm] at hp; exact hp)
        have slo : ∀ {O2 W2 σ2 H2 ρ2}, SR (gx X cl) vs0 O2 W2 σ2 H2 ρ2 → mm.keep ρ2 → mm.slots σ σ2 := fun {O2 W2 σ2 H2 ρ2} sr2 hk2 p hp => by
          have k1 := hk p hp
          have k2 := hk2 p hp
          have kb := byr p hp
          obtain ⟨i, s⟩ := p
          cases s with
          | byr ys =>
            obtain ⟨a, e1, e2, _⟩ := sr1.slot i _ k1
            obtain ⟨c, f1, f2, _⟩ := sr2.slot i _ k2
            rw [e2] at f2
            cases f2
            show σ2[i]? = σ[i]?
            rw [join_some e1, join_some f1]
          | _ => cases kb
        refine ⟨fun i m σ' H' => ∃ O2 W2 ρ2 ds, m = ds.length ∧ i + ds.length = xs.length ∧ xs.drop i = ds ∧ Stp O1 W1 H1 O2 W2 H' ∧ SR (gx X cl) vs0 O2 W2 σ' H' ρ2 ∧ AftS (gx X cl) vs0 Wx O2 W2 H' E (forK mm st g ds ρ2),
          ⟨xs.length, O1, W1, ρ1, xs, rfl, Nat.zero_add _, rfl, Stp.refl, sr1, AftS.back sr.wf st1 hw⟩, ?_⟩
        rintro i m σ2 H2 ⟨O2, W2, ρ2, ds, rfl, hlen, hdrop, st2, sr2, hf⟩
        cases ds with
        | nil =>
          have hf : AftS (gx X cl) vs0 Wx O2 W2 H2 E (if mm.keep ρ2 then .ok (.nx ρ2) else .bad) := hf
          split at hf
          · rename_i hkk
            have hi : i = mm.xs.length := by rw [hxs]; simpa using hlen
            subst hi
            exact .inl ⟨wk.stop O2 W2 σ2 H2 ρ2 st2 sr2 (slo sr2 hkk) hkk, hf σ2 O2 W2 H2 Stp.refl sr2⟩
          · exact hf.elim
        | cons d ds =>
          have hf : AftS (gx X cl) vs0 Wx O2 W2 H2 E (if mm.keep ρ2 then (match st d ρ2 with
            | some ρ1 => (g ρ1).bind fun fl => match fl with
              | .nx ρ2 => forK mm st g ds ρ2
              | .ct ρ2 => forK mm st g ds ρ2
              | .bk ρ2 => .ok (.nx ρ2)
              | .rt r ρ2 => .ok (.rt r ρ2)
            | none => .bad) else .bad) := hf
          split at hf
          · rename_i hkk
            have hd : mm.xs[i]? = some d := by
              have : (xs.drop i)[0]? = some d := by rw [hdrop]; rfl
              rw [List.getElem?_drop] at this
              rw [hxs]
              simpa using this
            obtain ⟨hgo, hy⟩ := wk.go O2 W2 σ2 H2 ρ2 i d st2 sr2 (slo sr2 hkk) hkk hd
            refine .inr ⟨hgo, _, fun σ' H' hN => ⟨ds.length, Nat.lt_succ_self _, hN⟩, fun x H3 hyl => ?_⟩
            obtain ⟨sm, rp⟩ := hy x H3 hyl
            have sr3 := sr2.same sm
            have st3 : Stp O2 W2 H2 O2 W2 H3 := Stp.same sm
            cases es : st d ρ2 with
            | none => rw [es] at hf; exact hf.elim
            | some ρ3 =>
              rw [es] at hf
              refine q2 O2 W2 σ2 H3 ρ2 ρ3 d x _ sr3 rp es fun σ4 sr4 _ => q3 O2 W2 σ4 H3 ρ3 _ sr4 ?_
              have hf : AftS (gx X cl) vs0 Wx O2 W2 H3 E ((g ρ3).bind fun fl => match fl with
                | .nx ρ2 => forK mm st g ds ρ2
                | .ct ρ2 => forK mm st g ds ρ2
                | .bk ρ2 => .ok (.nx ρ2)
                | .rt r ρ2 => .ok (.rt r ρ2)) := AftS.back sr2.wf st3 hf
              have hdr : xs.drop (i + 1) = ds := by
                rw [← List.drop_drop, hdrop]; rfl
              have hln : i + 1 + ds.length = xs.length := by rw [← hlen, List.length_cons]; omega
              have st23 := st2.trans sr1.wf st3
              cases eb : g ρ3 with
              | bad => rw [eb] at hf; exact hf
              | exc c fs ρ' => rw [eb] at hf; exact hf
              | ok fl =>
                rw [eb] at hf
                cases fl with
                | nx ρ4 => exact fun σ5 O5 W5 H5 st5 sr5 => ⟨O5, W5, ρ4, ds, rfl, hln, hdr, st23.trans sr1.wf st5, sr5, AftS.back sr3.wf st5 hf⟩
                | ct ρ4 => exact fun σ5 O5 W5 H5 st5 sr5 => ⟨O5, W5, ρ4, ds, rfl, hln, hdr, st23.trans sr1.wf st5, sr5, AftS.back sr3.wf st5 hf⟩
                | bk ρ4 => exact hf
                | rt r ρ4 => exact hf
          · exact hf.elim
      · exact (show False from hw).elim
    | nil =>
      have hw : AftS (gx X cl) vs0 Wx O W H E (forL st g xs ρ1) := hw
      intro J O1 W1 H1 st1 sr1 hk wk
      refine ⟨fun i m σ' H' => ∃ O2 W2 ρ2 ds, m = ds.length ∧ i + ds.length = xs.length ∧ xs.drop i = ds ∧ Stp O1 W1 H1 O2 W2 H' ∧ SR (gx X cl) vs0 O2 W2 σ' H' ρ2 ∧ AftS (gx X cl) vs0 Wx O2 W2 H' E (forL st g ds ρ2),
        ⟨xs.length, O1, W1, ρ1, xs, rfl, Nat.zero_add _, rfl, Stp.refl, sr1, AftS.back sr.wf st1 hw⟩, ?_⟩
      rintro i m σ2 H2 ⟨O2, W2, ρ2, ds, rfl, hlen, hdrop, st2, sr2, hf⟩
      have hsl : Itm.slots ⟨xs, []⟩ σ σ2 := fun p hp => absurd hp (by simp)
      have hkk : Itm.keep ⟨xs, []⟩ ρ2 := fun p hp => absurd hp (by simp)
      cases ds with
      | nil =>
        have hi : i = xs.length := by simpa using hlen
        subst hi
        exact .inl ⟨wk.stop O2 W2 σ2 H2 ρ2 st2 sr2 hsl hkk, hf σ2 O2 W2 H2 Stp.refl sr2⟩
      | cons d ds =>
        have hd : xs[i]? = some d := by
          have : (xs.drop i)[0]? = some d := by rw [hdrop]; rfl
          rw [List.getElem?_drop] at this
          simpa using this
        obtain ⟨hgo, hy⟩ := wk.go O2 W2 σ2 H2 ρ2 i d st2 sr2 hsl hkk hd
        have hf : AftS (gx X cl) vs0 Wx O2 W2 H2 E (match st d ρ2 with
          | some ρ1 => (g ρ1).bind fun fl => match fl with
            | .nx ρ2 => forL st g ds ρ2
            | .ct ρ2 => forL st g ds ρ2
            | .bk ρ2 => .ok (.nx ρ2)
            | .rt r ρ2 => .ok (.rt r ρ2)
          | none => .bad) := hf
        refine .inr ⟨hgo, _, fun σ' H' hN => ⟨ds.length, Nat.lt_succ_self _, hN⟩, fun x H3 hyl => ?_⟩
        obtain ⟨sm, rp⟩ := hy x H3 hyl
        have sr3 := sr2.same sm
        have st3 : Stp O2 W2 H2 O2 W2 H3 := Stp.same sm
        cases es : st d ρ2 with
        | none => rw [es] at hf; exact hf.elim
        | some ρ3 =>
          rw [es] at hf
          refine q2 O2 W2 σ2 H3 ρ2 ρ3 d x _ sr3 rp es fun σ4 sr4 _ => q3 O2 W2 σ4 H3 ρ3 _ sr4 ?_
          have hf : AftS (gx X cl) vs0 Wx O2 W2 H3 E ((g ρ3).bind fun fl => match fl with
            | .nx ρ2 => forL st g ds ρ2
            | .ct ρ2 => forL st g ds ρ2
            | .bk ρ2 => .ok (.nx ρ2)
            | .rt r ρ2 => .ok (.rt r ρ2)) := AftS.back sr2.wf st3 hf
          have hdr : xs.drop (i + 1) = ds := by
            rw [← List.drop_drop, hdrop]; rfl
          have hln : i + 1 + ds.length = xs.length := by rw [← hlen, List.length_cons]; omega
          have st23 := st2.trans sr1.wf st3
          cases eb : g ρ3 with
          | bad => rw [eb] at hf; exact hf
          | exc c fs ρ' => rw [eb] at hf; exact hf
          | ok fl =>
            rw [eb] at hf
            cases fl with
            | nx ρ4 => exact fun σ5 O5 W5 H5 st5 sr5 => ⟨O5, W5, ρ4, ds, rfl, hln, hdr, st23.trans sr1.wf st5, sr5, AftS.back sr3.wf st5 hf⟩
            | ct ρ4 => exact fun σ5 O5 W5 H5 st5 sr5 => ⟨O5, W5, ρ4, ds, rfl, hln, hdr, st23.trans sr1.wf st5, sr5, AftS.back sr3.wf st5 hf⟩
            | bk ρ4 => exact hf
            | rt r ρ4 => exact hf
def whl (t : Sb) (body : Ss) : Nat → List SD → Rs Fl
  | 0, _ => .bad
  | n + 1, ρ => (t ρ).bind fun p => if p.1 then (body p.2).bind fun fl => match fl with
      | .nx ρ2 => whl t body n ρ2
      | .ct ρ2 => whl t body n ρ2
      | .bk ρ2 => .ok (.nx ρ2)
      | .rt r ρ2 => .ok (.rt r ρ2)
    else .ok (.nx p.2)
def sWhile (fuel : List SD → Nat) (t : Sb) (body : Ss) : Ss := fun ρ => whl t body (fuel ρ) ρ
abbrev WX0 : WX := fun _ _ _ _ => False
def wipeR (ρ : List SD) : List Nat → List SD
  | [] => ρ
  | v :: vs => (wipeR ρ vs).set v .no
def keptSD : Option SD → SD
  | some (.sh d) => .sh d
  | _ => .no
def backR (ρ0 ρ : List SD) : List Nat → List SD
  | [] => ρ
  | v :: vs => (backR ρ0 ρ vs).set v (keptSD ρ0[v]?)
theorem wipeR_len (ρ : List SD) : ∀ vs : List Nat, (wipeR ρ vs).length = ρ.length
  | [] => rfl
  | v :: vs => by unfold wipeR; rw [List.length_set, wipeR_len ρ vs]
theorem wipeR_get {ρ : List SD} {i : Nat} {s : SD} : ∀ {vs : List Nat}, (wipeR ρ vs)[i]? = some s → (i ∉ vs ∧ ρ[i]? = some s) ∨ (i ∈ vs ∧ s = .no)
  | [], h => .inl ⟨by simp, h⟩
  | v :: vs, h => by
    unfold wipeR at h
    by_cases hi : v = i
    · subst hi
      have hl : v < (wipeR ρ vs).length := by
        have := (List.getElem?_eq_some_iff.mp h).1
        rw [List.length_set] at this
        exact this
      rw [List.getElem?_set_self hl] at h
      cases h
      exact .inr ⟨by simp, rfl⟩
    · rw [List.getElem?_set_ne hi] at h
      rcases wipeR_get h with ⟨a, b⟩ | ⟨a, b⟩
      · exact .inl ⟨by simp only [List.mem_cons, not_or]; exact ⟨fun e => hi e.symm, a⟩, b⟩
      · exact .inr ⟨List.mem_cons_of_mem _ a, b⟩
theorem wipe_get {σ : L2.St} {i : Nat} : ∀ {vs : List Nat}, i ∉ vs → (wipe σ vs)[i]? = σ[i]?
  | [], _ => rfl
  | v :: vs, h => by
    unfold wipe
    rw [List.getElem?_set_ne (fun e => h (by simp [e])), wipe_get fun z => h (List.mem_cons_of_mem _ z)]
theorem backR_len (ρ0 ρ : List SD) : ∀ vs : List Nat, (backR ρ0 ρ vs).length = ρ.length
  | [] => rfl
  | v :: vs => by unfold backR; rw [List.length_set, backR_len ρ0 ρ vs]
theorem backR_get {ρ0 ρ : List SD} {i : Nat} {s : SD} : ∀ {vs : List Nat}, (backR ρ0 ρ vs)[i]? = some s → (i ∉ vs ∧ ρ[i]? = some s) ∨ (i ∈ vs ∧ s = keptSD ρ0[i]?)
  | [], h => .inl ⟨by simp, h⟩
  | v :: vs, h => by
    unfold backR at h
    by_cases hi : v = i
    · subst hi
      have hl : v < (backR ρ0 ρ vs).length := by
        have := (List.getElem?_eq_some_iff.mp h).1
        rw [List.length_set] at this
        exact this
      rw [List.getElem?_set_self hl] at h
      cases h
      exact .inr ⟨by simp, rfl⟩
    · rw [List.getElem?_set_ne hi] at h
      rcases backR_get h with ⟨a, b⟩ | ⟨a, b⟩
      · exact .inl ⟨by simp only [List.mem_cons, not_or]; exact ⟨fun e => hi e.symm, a⟩, b⟩
      · exact .inr ⟨List.mem_cons_of_mem _ a, b⟩
theorem noD_upd {H : Hp} {p b : Addr} {o' : HO} (hb : ¬ NoD H b) (ht' : ∀ ps, o' ≠ .tbl ps := by intro _ z; cases z) : ¬ NoD (upd H p o') b := by
  by_cases e : b = p
  · rw [e]; exact noD_not upd_same ht'
  · intro z; exact hb fun o h => z o (by rw [upd_ne e]; exact h)
theorem SR.wipe {G : Gx} {O W : List Addr} {σ : L2.St} {H : Hp} {ρ : List SD} (vs : List Nat) (r : SR G vs0 O W σ H ρ) : SR G vs0 O W (wipe σ vs) H (wipeR ρ vs) := by
  refine ⟨r.wf, by rw [wipe_length, wipeR_len, r.len], fun i s e => ?_, fun i j s t a e1 e2 m1 m2 s1 s2 => ?_, r.tabs, r.ows.mono (fun i t e => ?_) fun j s a e m z => ?_⟩
  · rcases wipeR_get e with ⟨h1, h2⟩ | ⟨_, h2⟩
    · rw [wipe_get h1]; exact r.slot i s h2
    · subst h2; trivial
  · rcases wipeR_get e1 with ⟨h1, h2⟩ | ⟨_, h2⟩
    · rcases wipeR_get e2 with ⟨h3, h4⟩ | ⟨_, h4⟩
      · rw [wipe_get h1] at s1
        rw [wipe_get h3] at s2
        exact r.apart i j s t a h2 h4 m1 m2 s1 s2
      · subst h4; cases m2
    · subst h2; cases m1
  · rcases wipeR_get e with ⟨h1, h2⟩ | ⟨_, h2⟩
    · exact ⟨h2, wipe_get h1⟩
    · cases h2
  · rcases wipeR_get e with ⟨h1, h2⟩ | ⟨_, h2⟩
    · rw [wipe_get h1] at z
      exact .inl ⟨s, h2, m, z⟩
    · subst h2; cases m
theorem SR.unwipe {G : Gx} {O W O' W' : List Addr} {σ : L2.St} {H H' : Hp} {ρ ρ' : List SD} {vs : List Nat} (r : SR G vs0 O W σ H ρ) (st : Stp O W H O' W' H') (r' : SR G vs0 O' W' (L2.wipe σ vs) H' ρ') : SR G vs0 O' W' σ H' (backR ρ ρ' vs) := by
  have nm : ∀ {i : Nat} {s : SD}, i ∈ vs → s = keptSD ρ[i]? → s.mine = true → False := fun {i s} _ e m => by
    rw [e] at m
    unfold keptSD at m
    split at m <;> cases m
  refine ⟨r'.wf, by rw [backR_len, ← r'.len, wipe_length], fun i s e => ?_, fun i j s t a e1 e2 m1 m2 s1 s2 => ?_, r'.tabs, r'.ows.mono (fun i t e => ?_) fun j s a e m z => ?_⟩
  · rcases backR_get e with ⟨h1, h2⟩ | ⟨h1, h2⟩
    · rw [← wipe_get (σ := σ) h1]; exact r'.slot i s h2
    · rw [h2]
      unfold keptSD
      split
      · rename_i d e3
        obtain ⟨v, e4, rp⟩ := r.slot i _ e3
        exact ⟨v, e4, rp.step r.wf st⟩
      · trivial
  · rcases backR_get e1 with ⟨h1, h2⟩ | ⟨h1, h2⟩
    · rcases backR_get e2 with ⟨h3, h4⟩ | ⟨h3, h4⟩
      · rw [← wipe_get (σ := σ) h1] at s1
        rw [← wipe_get (σ := σ) h3] at s2
        exact r'.apart i j s t a h2 h4 m1 m2 s1 s2
      · exact (nm h3 h4 m2).elim
    · exact (nm h1 h2 m1).elim
  · rcases backR_get e with ⟨h1, h2⟩ | ⟨h1, h2⟩
    · exact ⟨h2, (wipe_get h1).symm⟩
    · unfold keptSD at h2
      split at h2 <;> cases h2
  · rcases backR_get e with ⟨h1, h2⟩ | ⟨h1, h2⟩
    · rw [← wipe_get (σ := σ) h1] at z
      exact .inl ⟨s, h2, m, z⟩
    · exact (nm h1 h2 m).elim
theorem SR.grow {G : Gx} {O W : List Addr} {σ : L2.St} {H : Hp} {ρ : List SD} {p : Addr} {o o' : HO} (r : SR G vs0 O W σ H ρ) (hO : p ∈ O) (hW : p ∉ W) (hp : H p = some o) (ht' : ∀ ps, o' ≠ .tbl ps := by intro _ z; cases z) (ht : ∀ ps, o ≠ .tbl ps := by intro _ z; cases z) (hx : ∀ f, o ≠ .ext f := by intro _ z; cases z) : SR G vs0 O W σ (upd H p o') ρ ∧ (∀ {d v}, Rp G O H d v → Rp G O (upd H p o') d v) ∧ (∀ {ds vs}, RpA G O H ds vs → RpA G O (upd H p o') ds vs) := by
  have w2 : Wf O (p :: W) H := ⟨fun b hb => by
    rcases List.mem_cons.mp hb with e | e
    · rw [e]; exact hO
    · exact r.wf.sub b e, r.wf.trk⟩
  have trk : ∀ b, ¬ NoD H b → ¬ NoD (upd H p o') b := fun b hb => by
    by_cases e : b = p
    · rw [e]; exact noD_not upd_same ht'
    · intro z; exact hb fun o h => z o (by rw [upd_ne e]; exact h)
  have st : Stp O (p :: W) H O (p :: W) (upd H p o') := ⟨fun b u e hb _ => by
    rw [upd_ne (fun z => hb (by simp [z]))]; exact e, fun _ h => .inl h, fun _ h => .inl h, trk, fun _ h _ => h⟩
  have own : ∀ {a xs}, OwnAt G O W H a xs → OwnAt G O W (upd H p o') a xs := fun {a xs} h => by
    obtain ⟨h1, vs, h2, h3, h4⟩ := h
    exact ⟨h1, vs, by rw [upd_ne (show a ≠ p from fun z => hW (by rw [← z]; exact h1))]; exact h2, h3, h4.step w2 st⟩
  have owt : ∀ {t : OT} {v : V} {fp : List Addr}, OwT G O W H t v fp → OwT G O W (upd H p o') t v fp := fun {t v fp} q => by
    have o1 : OwT G O (p :: W) H t v fp := q.less (fun _ h => h) fun b hb => List.mem_cons_of_mem _ (q.sub b hb)
    have o2 : OwT G O (p :: W) (upd H p o') t v fp := o1.go w2 st fun b hb => ⟨o1.sub b hb, fun vs e => by rw [upd_ne (fun z => hW (by rw [← z]; exact q.sub b hb))]; exact e⟩
    exact o2.less (fun _ h => h) q.sub
  refine ⟨⟨⟨r.wf.sub, fun b hb => trk b (r.wf.trk b hb)⟩, r.len, fun i s e => ?_, r.apart, ⟨tabs_but r.tabs.tc hp (fun b u n h => by rw [upd_ne n]; exact h) ht hx, fun q hq => (r.tabs.k q hq).step w2 st⟩, r.ows.map fun _ _ _ _ _ _ o => owt o⟩, fun h => h.step w2 st, fun h => h.step w2 st⟩
  have q := r.slot i s e
  cases s with
  | no => trivial
  | sh d => obtain ⟨v, e, r⟩ := q; exact ⟨v, e, r.step w2 st⟩
  | own xs => obtain ⟨a, e, r⟩ := q; exact ⟨a, e, own r⟩
  | byr xs => obtain ⟨a, e, e0, r⟩ := q; exact ⟨a, e, e0, own r⟩
  | xn c fs => obtain ⟨a, q, gs, e, x, t, n, r⟩ := q; exact ⟨a, q, gs, e, x, (st.at w2 t n).1, n, RpF.step w2 st r⟩
  | gv => exact q
  | od kvs =>
    obtain ⟨a, e, h1, gs, h2, h4⟩ := q
    exact ⟨a, e, h1, gs, by rw [upd_ne (show a ≠ p from fun z => hW (by rw [← z]; exact h1))]; exact h2, RpD.step w2 st h4⟩
  | ow _ => trivial
theorem ej_all {ι : Type} {Xs : ι → Cx} {K : PySem.W.Frag} {e : Expr} {f : Sx} (hK : ∀ c, (Xs c).K = K) (h : ∀ c, EJ (Xs c) cl vs0 Wx e f) : ∃ t : TE, (∀ c, PE (Xs c) e t) ∧ ∀ O W σ H ρ Q, SR (gk K cl) vs0 O W σ H ρ → AftE (gk K cl) vs0 Wx O W σ H Q (f ρ) → t σ H Q := by
  refine ⟨fun σ H Q => ∃ O W ρ, SR (gk K cl) vs0 O W σ H ρ ∧ AftE (gk K cl) vs0 Wx O W σ H Q (f ρ), fun c => ⟨fun pins s σ H Q I hw => ?_⟩, fun O W σ H ρ Q sr hw => ⟨O, W, ρ, sr, hw⟩⟩
  obtain ⟨t, p, q⟩ := (h c).ex
  obtain ⟨O, W, ρ, sr, hw⟩ := hw
  have e := hK c
  subst e
  exact p.run pins s σ H Q I (q O W σ H ρ Q sr hw)
def bYes : Sb := fun ρ => .ok (true, ρ)
structure FJ (X : Cx) (cl : Cl) (vs0 : List V) (Wx : WX) (ifs : List Expr) (f : Sb) : Prop where
  ex : ∃ t, PTs X ifs t ∧ ∀ O W σ H ρ Q, SR (gx X cl) vs0 O W σ H ρ → AftB (gx X cl) vs0 Wx O W σ H Q (f ρ) → t σ H Q
theorem fj_all {ι : Type} {Xs : ι → Cx} {K : PySem.W.Frag} {ifs : List Expr} {f : Sb} (hK : ∀ c, (Xs c).K = K) (h : ∀ c, FJ (Xs c) cl vs0 Wx ifs f) :
    ∃ t : TT, (∀ c, PTs (Xs c) ifs t) ∧ ∀ O W σ H ρ Q, SR (gk K cl) vs0 O W σ H ρ → AftB (gk K cl) vs0 Wx O W σ H Q (f ρ) → t σ H Q := by
  refine ⟨fun σ H Q => ∃ O W ρ, SR (gk K cl) vs0 O W σ H ρ ∧ AftB (gk K cl) vs0 Wx O W σ H Q (f ρ), fun c => ⟨fun pins s σ H Q I hw => ?_⟩, fun O W σ H ρ Q sr hw => ⟨O, W, ρ, sr, hw⟩⟩
  obtain ⟨t, p, q⟩ := (h c).ex
  obtain ⟨O, W, ρ, sr, hw⟩ := hw
  have e := hK c
  subst e
  exact p.run pins s σ H Q I (q O W σ H ρ Q sr hw)
theorem gj_all {ι : Type} {Xs : ι → Cx} {K : PySem.W.Frag} {tg : Expr} {st : Tg} {is : List Nat} (hK : ∀ c, (Xs c).K = K) (h : ∀ c, GJ (Xs c) cl vs0 tg st is) :
    ∃ g : TG, (∀ c, PG (Xs c) tg g) ∧ ∀ O W σ H ρ ρ' d v Q, SR (gk K cl) vs0 O W σ H ρ → Rp (gk K cl) O H d v → st d ρ = some ρ' → (∀ σ', SR (gk K cl) vs0 O W σ' H ρ' → (∀ vs, (∀ i ∈ is, i ∈ vs) → L2.wipe σ' vs = L2.wipe σ vs) → Q σ' H) → g v σ H Q := by
  refine ⟨fun v σ H Q => ∃ O W ρ ρ' d, SR (gk K cl) vs0 O W σ H ρ ∧ Rp (gk K cl) O H d v ∧ st d ρ = some ρ' ∧ (∀ σ', SR (gk K cl) vs0 O W σ' H ρ' → (∀ vs, (∀ i ∈ is, i ∈ vs) → L2.wipe σ' vs = L2.wipe σ vs) → Q σ' H), fun c => ⟨fun pins s σ H v u Q I r hw => ?_⟩, fun O W σ H ρ ρ' d v Q sr rp e hw => ⟨O, W, ρ, ρ', d, sr, rp, e, hw⟩⟩
  obtain ⟨t, p, q⟩ := (h c).ex
  obtain ⟨O, W, ρ, ρ', d, sr, rp, es, hw⟩ := hw
  have e := hK c
  subst e
  exact p.run pins s σ H v u Q I r (q O W σ H ρ ρ' d v Q sr rp es hw)
theorem fj_nil : FJ X cl vs0 Wx [] bYes := ⟨⟨_, pts_nil, fun O W σ H ρ Q sr h => h O W H Stp.refl sr⟩⟩
noncomputable def lcL (m : Itm) (st : Tg) (test : Sb) (elt : Sx) (vs : List Nat) : List D → List SD → Rs (List D × List SD)
  | [], ρ => .ok ([], ρ)
  | d :: ds, ρ => match st d ρ with
    | some ρ1 => match test ρ1 with
      | .ok (true, ρ2) => match elt ρ2 with
        | .ok (r, ρ3) => if m.keep (wipeR ρ3 vs) then (lcL m st test elt vs ds (wipeR ρ3 vs)).bind fun q => .ok (r.frz :: q.1, q.2) else .bad
        | _ => .bad
      | .ok (false, ρ2) => if m.keep (wipeR ρ2 vs) then lcL m st test elt vs ds (wipeR ρ2 vs) else .bad
      | _ => .bad
    | none => .bad
noncomputable def xLc (src : Src) (st : Tg) (test : Sb) (elt : Sx) (vs : List Nat) : Sx := fun ρ => (src ρ).bind fun p => if p.1.keep (wipeR p.2 vs) ∧ (∀ b ∈ p.1.bor, b.1 ∉ vs) then
  match lcL p.1 st test elt vs p.1.xs (wipeR p.2 vs) with
  | .ok (ds, ρ') => .ok (.own ds, backR p.2 ρ' vs)
  | _ => .bad
  else .bad
end
end Wm
end
section
namespace Wm
open PySem PySem.Spec PyProof.Rows L2
section
variable {X : Cx} {cl : Cl} {vs0 : List V} {Wx : WX}
theorem wipe_wipe {σ : L2.St} : ∀ {vs : List Nat}, wipe (wipe σ vs) vs = wipe σ vs := by
  intro vs
  apply List.ext_getElem?
  intro i
  by_cases h : i ∈ vs
  · have key : ∀ (τ : L2.St) (ws : List Nat), i ∈ ws → (wipe τ ws)[i]? = if i < τ.length then some none else none := by
      intro τ ws
      induction ws with
      | nil => intro h; cases h
      | cons w ws ih =>
        intro h
        unfold wipe
        by_cases e : w = i
        · subst e
          by_cases hl : w < τ.length
          · rw [List.getElem?_set_self (by rw [wipe_length]; exact hl), if_pos hl]
          · rw [if_neg hl]
            exact List.getElem?_eq_none (by rw [List.length_set, wipe_length]; omega)
        · rw [List.getElem?_set_ne e]
          rcases List.mem_cons.mp h with z | z
          · exact absurd z.symm e
          · exact ih z
    rw [key _ _ h, key _ _ h, wipe_length]
  · rw [wipe_get h]
theorem SR.addW {G : Gx} {O W : List Addr} {σ : L2.St} {H : Hp} {ρ : List SD} {p : Addr} (r : SR G vs0 O W σ H ρ) (h : p ∈ O) : SR G vs0 O (p :: W) σ H ρ := by
  refine ⟨⟨fun b hb => ?_, r.wf.trk⟩, r.len, fun i s e => ?_, r.apart, r.tabs, r.ows.map fun _ _ _ _ _ _ o => o.less (fun _ h => h) fun b hb => List.mem_cons_of_mem _ (o.sub b hb)⟩
  · rcases List.mem_cons.mp hb with z | z
    · rw [z]; exact h
    · exact r.wf.sub b z
  · have q := r.slot i s e
    cases s with
    | no => trivial
    | sh d => exact q
    | own xs => obtain ⟨a, e, h1, r⟩ := q; exact ⟨a, e, List.mem_cons_of_mem _ h1, r⟩
    | byr xs => obtain ⟨a, e, e0, h1, r⟩ := q; exact ⟨a, e, e0, List.mem_cons_of_mem _ h1, r⟩
    | xn c fs => exact q
    | gv => exact q
    | od kvs => obtain ⟨a, e, h1, r⟩ := q; exact ⟨a, e, List.mem_cons_of_mem _ h1, r⟩
    | ow _ => trivial
theorem Stp.addW {O W O' W' : List Addr} {H H' : Hp} {p : Addr} (s : Stp O W H O' W' H') (n : H p = none) : Stp O W H O' (p :: W') H' :=
  ⟨s.keep, fun b hb => by
    rcases List.mem_cons.mp hb with z | z
    · right; rw [z]; exact noD_none n
    · exact s.wnew b z, s.onew, s.trk, s.ofz⟩
theorem Stp.addO {O W : List Addr} {H H' : Hp} {p : Addr} (h : Same H H') (n : H p = none) : Stp O W H (p :: O) W H' :=
  ⟨fun b o e _ _ => h b o e, fun b hb => .inl hb, fun b hb => by
    rcases List.mem_cons.mp hb with z | z
    · right; rw [z]; exact noD_none n
    · exact .inl z, (Stp.same (O := O) (W := W) h).trk, fun b hb _ => List.mem_cons_of_mem _ hb⟩
theorem RpA.snoc {G : Gx} {O : List Addr} {H : Hp} {ds : List D} {vs : List V} {d : D} {v : V} (r : RpA G O H ds vs) (h : Rp G O H d v) : RpA G O H (ds ++ [d]) (vs ++ [v]) := r.append (by simp only [RpA]; exact ⟨v, [], rfl, h, rfl⟩)
structure Held (p : Addr) (acc : List V) (O W : List Addr) (H : Hp) : Prop where
  o : p ∈ O
  w : p ∉ W
  h : H p = some (.lst acc)
theorem Held.step {p : Addr} {acc : List V} {O W O' W' : List Addr} {H H' : Hp} (h : Held p acc O W H) (s : Stp O W H O' W' H') : Held p acc O' W' H' :=
  ⟨s.ofz p h.o h.w, (fun z => by
    rcases s.wnew p z with q | q
    · exact h.w q
    · exact noD_not h.h (by intro _ z; cases z) q), s.keep p _ h.h h.w (fun _ z => by cases z)⟩
theorem lc_sound {wi : TI} {g : TG} {tt : TT} {te : TE} {src : Src} {st : Tg} {is : List Nat} {test : Sb} {f : Sx} {vs : List Nat} (his : ∀ i ∈ is, i ∈ vs)
    (q1 : ∀ O W σ H ρ R, SR (gx X cl) vs0 O W σ H ρ → AftI (gx X cl) vs0 Wx O W σ H R (src ρ) → wi σ H R)
    (q2 : ∀ O W σ H ρ ρ' d v Q, SR (gx X cl) vs0 O W σ H ρ → Rp (gx X cl) O H d v → st d ρ = some ρ' → (∀ σ', SR (gx X cl) vs0 O W σ' H ρ' → (∀ vs, (∀ i ∈ is, i ∈ vs) → wipe σ' vs = wipe σ vs) → Q σ' H) → g v σ H Q)
    (q3 : ∀ O W σ H ρ Q, SR (gx X cl) vs0 O W σ H ρ → AftB (gx X cl) vs0 WX0 O W σ H Q (test ρ) → tt σ H Q)
    (q4 : ∀ O W σ H ρ Q, SR (gx X cl) vs0 O W σ H ρ → AftE (gx X cl) vs0 WX0 O W σ H Q (f ρ) → te σ H Q) :
    ∀ O W σ H ρ Q, SR (gx X cl) vs0 O W σ H ρ → AftE (gx X cl) vs0 Wx O W σ H Q (xLc src st test f vs ρ) → tLc wi g tt te vs σ H Q := by
  intro O W σ H ρ Q sr hw
  refine q1 O W σ H ρ _ sr ?_
  unfold xLc at hw
  cases e : src ρ with
  | bad => rw [e] at hw; exact hw
  | exc c fs ρ' => rw [e] at hw; exact hw
  | ok pm =>
    obtain ⟨m, ρ1⟩ := pm
    rw [e] at hw
    have hw : AftE (gx X cl) vs0 Wx O W σ H Q (if m.keep (wipeR ρ1 vs) ∧ (∀ b ∈ m.bor, b.1 ∉ vs) then
      match lcL m st test f vs m.xs (wipeR ρ1 vs) with
      | .ok (ds, ρ') => .ok (.own ds, backR ρ1 ρ' vs)
      | _ => .bad
      else .bad) := hw
    intro J O1 W1 H1 st1 sr1 hk wk p np
    split at hw
    · rename_i hcond
      cases eL : lcL m st test f vs m.xs (wipeR ρ1 vs) with
      | bad => rw [eL] at hw; exact hw.elim
      | exc c fs ρ' => rw [eL] at hw; exact hw.elim
      | ok pe =>
        obtain ⟨all, ρe⟩ := pe
        rw [eL] at hw
        have hslots : m.slots σ (wipe σ vs) := fun b hb => wipe_get (hcond.2 b hb)
        have sm0 : Same H1 (upd H1 p (.lst [])) := same_upd np
        have st0 : Stp O1 W1 H1 (p :: O1) W1 (upd H1 p (.lst [])) := Stp.addO sm0 np
        have w0 : Wf (p :: O1) W1 (upd H1 p (.lst [])) := ⟨fun b hb => List.mem_cons_of_mem _ (sr1.wf.sub b hb), fun b hb => by
          rcases List.mem_cons.mp hb with z | z
          · rw [z]; exact noD_not upd_same
          · exact (sr1.wf.same sm0).trk b z⟩
        have pW : p ∉ W1 := fun z => sr1.wf.trk p (sr1.wf.sub p z) (noD_none np)
        have sr0 : SR (gx X cl) vs0 (p :: O1) W1 (wipe σ vs) (upd H1 p (.lst [])) (wipeR ρ1 vs) := (sr1.wipe vs).step w0 st0 (fun _ h => h) (fun b o _ e => sm0 b o e) (sr1.tabs.tc.ext sm0)
        refine ⟨fun i k H2 => ∃ O2 W2 ρ2 ds acc ads es, k = ds.length ∧ i + ds.length = m.xs.length ∧ m.xs.drop i = ds ∧ Stp O1 W1 H1 O2 W2 H2 ∧ Held p acc O2 W2 H2 ∧ acc.length ≤ i ∧ RpA (gx X cl) O2 H2 ads acc ∧
          SR (gx X cl) vs0 O2 W2 (wipe σ vs) H2 ρ2 ∧ m.keep ρ2 ∧ lcL m st test f vs ds ρ2 = .ok (es, ρe) ∧ ads ++ es = all,
          ⟨m.xs.length, p :: O1, W1, _, m.xs, [], [], all, rfl, Nat.zero_add _, rfl, st0, ⟨by simp, pW, upd_same⟩, Nat.le_refl _, by simp only [RpA], sr0, hcond.1, eL, rfl⟩, ?_⟩
        rintro i k H2 ⟨O2, W2, ρ2, ds, acc, ads, es, rfl, hlen, hdrop, st2, hd2, hal, ra, sr2, hkp, hL, hall⟩
        cases ds with
        | nil =>
          have hi : i = m.xs.length := by simpa using hlen
          subst hi
          have hL : Rs.ok (([] : List D), ρ2) = .ok (es, ρe) := hL
          injection hL with hL
          injection hL with e1 e2
          subst e1 e2
          rw [List.append_nil] at hall
          subst hall
          refine .inl ⟨wk.stop O2 W2 (wipe σ vs) H2 ρ2 st2 sr2 hslots hkp, ?_⟩
          refine hw (.ref p) O2 (p :: W2) H2 (st1.trans sr.wf (st2.addW np)) ((sr1.unwipe st2 sr2).addW hd2.o) ⟨p, rfl, ⟨List.mem_cons_self, acc, hd2.h, Nat.le_trans hal wk.len, ra⟩, (sr1.unwipe st2 sr2).fre_add hd2.w⟩
        | cons d ds =>
          have hd : m.xs[i]? = some d := by
            have : (m.xs.drop i)[0]? = some d := by rw [hdrop]; rfl
            rw [List.getElem?_drop] at this
            simpa using this
          have hlt : i < m.xs.length := (List.getElem?_eq_some_iff.mp hd).1
          obtain ⟨hgo, hy⟩ := wk.go O2 W2 (wipe σ vs) H2 ρ2 i d st2 sr2 hslots hkp hd
          have hdr : m.xs.drop (i + 1) = ds := by rw [← List.drop_drop, hdrop]; rfl
          have hln : i + 1 + ds.length = m.xs.length := by rw [← hlen, List.length_cons]; omega
          refine .inr ⟨hgo, _, fun H' hN => ⟨ds.length, Nat.lt_succ_self _, hN⟩, fun x H3 hyl => ?_⟩
          obtain ⟨sm, rp⟩ := hy x H3 hyl
          have sr3 := sr2.same sm
          have st3 : Stp O2 W2 H2 O2 W2 H3 := Stp.same sm
          have st13 := st2.trans sr1.wf st3
          have hd3 := hd2.step st3
          have ra3 := ra.step sr2.wf st3
          unfold lcL at hL
          cases es1 : st d ρ2 with
          | none => rw [es1] at hL; cases hL
          | some ρ3 =>
            rw [es1] at hL
            dsimp only at hL
            refine q2 O2 W2 (wipe σ vs) H3 ρ2 ρ3 d x _ sr3 rp es1 fun σ4 sr4 hwp => ?_
            have hwp : wipe σ4 vs = wipe σ vs := (hwp vs his).trans wipe_wipe
            refine ⟨hwp, q3 O2 W2 σ4 H3 ρ3 _ sr4 ?_⟩
            cases et : test ρ3 with
            | bad => rw [et] at hL; cases hL
            | exc c fs ρ' => rw [et] at hL; cases hL
            | ok bt =>
              obtain ⟨b, ρ4⟩ := bt
              intro O5 W5 H5 st5 sr5
              have hd5 := hd3.step st5
              have ra5 := ra3.step sr3.wf st5
              have st15 := st13.trans sr1.wf st5
              cases b with
              | false =>
                rw [et] at hL
                have hL : (if m.keep (wipeR ρ4 vs) then lcL m st test f vs ds (wipeR ρ4 vs) else .bad) = .ok (es, ρe) := hL
                split at hL
                · rename_i hkp5
                  have sr6 := sr5.wipe vs
                  rw [hwp] at sr6
                  exact ⟨O5, W5, _, ds, acc, ads, es, rfl, hln, hdr, st15, hd5, by omega, ra5, sr6, hkp5, hL, hall⟩
                · cases hL
              | true =>
                rw [et] at hL
                dsimp only at hL
                refine q4 O5 W5 σ4 H5 ρ4 _ sr5 ?_
                cases ef : f ρ4 with
                | bad => rw [ef] at hL; cases hL
                | exc c fs ρ' => rw [ef] at hL; cases hL
                | ok pr =>
                  obtain ⟨r, ρ5⟩ := pr
                  rw [ef] at hL
                  have hL : (if m.keep (wipeR ρ5 vs) then (lcL m st test f vs ds (wipeR ρ5 vs)).bind fun q => .ok (r.frz :: q.1, q.2) else .bad) = .ok (es, ρe) := hL
                  split at hL
                  · rename_i hkp6
                    intro y O6 W6 H6 st6 sr6 rr
                    obtain ⟨O7, W7, st7, sr7, rp7⟩ := rr.frz sr6
                    have hd7 := (hd5.step st6).step st7
                    have ra7 := (ra5.step sr5.wf st6).step sr6.wf st7
                    have st17 := (st15.trans sr1.wf st6).trans sr1.wf st7
                    refine ⟨acc, hd7.h, Nat.lt_of_le_of_lt hal (Nat.lt_of_lt_of_le hlt wk.len), ?_⟩
                    have sr8 := sr7.wipe vs
                    rw [hwp] at sr8
                    obtain ⟨sr9, gr, gra⟩ := sr8.grow (o' := .lst (acc ++ [y])) hd7.o hd7.w hd7.h
                    cases eq : lcL m st test f vs ds (wipeR ρ5 vs) with
                    | bad => rw [eq] at hL; cases hL
                    | exc c fs ρ' => rw [eq] at hL; cases hL
                    | ok qq =>
                      obtain ⟨es2, ρe2⟩ := qq
                      rw [eq] at hL
                      have hL : Rs.ok (r.frz :: es2, ρe2) = Rs.ok (es, ρe) := hL
                      injection hL with hL
                      injection hL with e1 e2
                      subst e1 e2
                      refine ⟨O7, W7, _, ds, acc ++ [y], ads ++ [r.frz], es2, rfl, hln, hdr, ?_, ⟨hd7.o, hd7.w, upd_same⟩, by rw [List.length_append]; simp only [List.length_cons, List.length_nil]; omega, (gra ra7).snoc (gr rp7), sr9, hkp6, eq, by rw [List.append_assoc]; exact hall⟩
                      have nop : ∀ b, H1 b ≠ none → b ≠ p := fun b hb z => hb (z ▸ np)
                      exact ⟨fun b o eo hb ht => by rw [upd_ne (nop b (by rw [eo]; simp))]; exact st17.keep b o eo hb ht, st17.wnew, st17.onew, fun b hb => noD_upd (st17.trk b hb), st17.ofz⟩
                  · cases hL
    · exact hw.elim
variable {elt tg iter : Expr} {ifs : List Expr} {scope : Scope} {own : List (Str × Nat)} {pos : Pos} {src : Src} {st : Tg} {is : List Nat} {test : Sb} {f : Sx}
theorem ej_lc (hc : X.calm = true) (hN : X.N.Nodup) (hi : IJ X cl vs0 Wx tg iter src) (ok : BlkOk X.N X.env.scope scope own)
    (hg : ∀ (s : Shared) (H : Hp) (C : Addr) (cs : List (Str × Addr)) (fp : List Addr), GJ (X.blk s H scope (compEnvC scope cs C X.env) fp) cl vs0 tg st is)
    (ht : ∀ (s : Shared) (H : Hp) (C : Addr) (cs : List (Str × Addr)) (fp : List Addr), FJ (X.blk s H scope (compEnvC scope cs C X.env) fp) cl vs0 WX0 ifs test)
    (he : ∀ (s : Shared) (H : Hp) (C : Addr) (cs : List (Str × Addr)) (fp : List Addr), EJ (X.blk s H scope (compEnvC scope cs C X.env) fp) cl vs0 WX0 elt f) (his : ∀ i ∈ is, i ∈ own.map (·.2)) :
    EJ X cl vs0 Wx (.ListComp elt [⟨tg, iter, ifs, 0⟩] scope pos) (xLc src st test f (own.map (·.2))) := by
  obtain ⟨wi, p1, hs, q1⟩ := hi.ex
  let Xs : Shared × Hp × Addr × List (Str × Addr) × List Addr → Cx := fun c => X.blk c.1 c.2.1 scope (compEnvC scope c.2.2.2.1 c.2.2.1 X.env) c.2.2.2.2
  obtain ⟨g, p2, q2⟩ := gj_all (Xs := Xs) (K := X.K) (fun _ => rfl) fun c => hg c.1 c.2.1 c.2.2.1 c.2.2.2.1 c.2.2.2.2
  obtain ⟨tt, p3, q3⟩ := fj_all (Xs := Xs) (K := X.K) (fun _ => rfl) fun c => ht c.1 c.2.1 c.2.2.1 c.2.2.2.1 c.2.2.2.2
  obtain ⟨te, p4, q4⟩ := ej_all (Xs := Xs) (K := X.K) (fun _ => rfl) fun c => he c.1 c.2.1 c.2.2.1 c.2.2.2.1 c.2.2.2.2
  exact ⟨⟨_, pe_lc hc hN p1 ok (fun s H C cs fp => p2 (s, H, C, cs, fp)) (fun s H C cs fp => p3 (s, H, C, cs, fp)) (fun s H C cs fp => p4 (s, H, C, cs, fp)) hs, lc_sound his q1 q2 q3 q4⟩⟩
end
end Wm
end
section
namespace Wm
open PySem PySem.Spec PyProof.Rows L2
abbrev Fn := List SD → Rs (SD × List SD)
abbrev wxE (E : XK) : WX := fun c d _ H => E c d H
def spF (G : Gx) (n : Nat) (F : Fn) : Sp := fun vs H Q E => vs.length = n ∧ ∃ O W as, SR G vs O W (vs.map some) H as ∧ AftE G vs (wxE E) O W (vs.map some) H Q (F as)
def trim1 : SD → SD
  | .byr xs => .byr xs
  | _ => .no
def trim (n : Nat) (ρ : List SD) : List SD := (List.range n).map fun i => trim1 (ρ[i]?.getD .no)
def bodyF (N : Nat) (g : Ss) : Fn := fun as => match g (as ++ List.replicate (N - as.length) .no) with
  | .ok (.rt r ρ') => .ok (r, trim as.length ρ')
  | .ok (.nx ρ') => .ok (.sh .non, trim as.length ρ')
  | .exc c fs ρ' => .exc c fs (trim as.length ρ')
  | _ => .bad
section
variable {G : Gx} {O W O' W' : List Addr} {σ : L2.St} {H H' : Hp} {ρ : List SD} {vs : List V} {as : List SD}
theorem trim_get {n i : Nat} {s : SD} (h : (trim n ρ)[i]? = some s) : i < n ∧ (s = .no ∨ ∃ xs, ρ[i]? = some (.byr xs) ∧ s = .byr xs) := by
  unfold trim at h
  rw [List.getElem?_map] at h
  obtain ⟨k, h1, h2⟩ := Option.map_eq_some_iff.mp h
  obtain ⟨hl, e⟩ := List.getElem?_eq_some_iff.mp h1
  rw [List.getElem_range] at e
  subst e
  refine ⟨by simpa using hl, ?_⟩
  cases q : ρ[i]? with
  | none => rw [q] at h2; exact .inl h2.symm
  | some s0 =>
    rw [q] at h2
    cases s0 with
    | byr xs => exact .inr ⟨xs, rfl, h2.symm⟩
    | no => exact .inl h2.symm
    | xn _ _ => exact .inl h2.symm
    | gv => exact .inl h2.symm
    | od _ => exact .inl h2.symm
    | ow _ => exact .inl h2.symm
    | sh d => exact .inl h2.symm
    | own xs => exact .inl h2.symm
theorem SR.enter {N : List Str} (r : SR G vs O W (vs.map some) H as) (hN : vs.length ≤ N.length) : SR G vs O W (L2.start N vs) H (as ++ List.replicate (N.length - as.length) .no) := by
  have hl : vs.length = as.length := by have := r.len; rw [List.length_map] at this; exact this
  have gs : ∀ {i : Nat} {s : SD}, (as ++ List.replicate (N.length - as.length) .no)[i]? = some s → (i < as.length ∧ as[i]? = some s) ∨ s = .no := fun {i s} e => by
    by_cases h : i < as.length
    · rw [List.getElem?_append_left h] at e; exact .inl ⟨h, e⟩
    · rw [List.getElem?_append_right (by omega), List.getElem?_replicate] at e
      split at e
      · cases e; exact .inr rfl
      · cases e
  have sg : ∀ {i : Nat}, i < as.length → (L2.start N vs)[i]? = (vs.map some)[i]? := fun {i} h => by
    unfold L2.start
    exact List.getElem?_append_left (by rw [List.length_map]; omega)
  refine ⟨r.wf, ?_, fun i s e => ?_, fun i j s t a e1 e2 m1 m2 s1 s2 => ?_, r.tabs, r.ows.mono (fun i t e => ?_) fun j s a e m z => ?_⟩
  · unfold L2.start
    rw [List.length_append, List.length_map, List.length_replicate, List.length_append, List.length_replicate, hl]
  · rcases gs e with ⟨h, e⟩ | e
    · rw [sg h]; exact r.slot i s e
    · subst e; trivial
  · rcases gs e1 with ⟨h1, e1⟩ | e1
    · rcases gs e2 with ⟨h2, e2⟩ | e2
      · rw [sg h1] at s1
        rw [sg h2] at s2
        exact r.apart i j s t a e1 e2 m1 m2 s1 s2
      · subst e2; cases m2
    · subst e1; cases m1
  · rcases gs e with ⟨h1, e1⟩ | e1
    · exact ⟨e1, sg h1⟩
    · cases e1
  · rcases gs e with ⟨h1, e1⟩ | e1
    · rw [sg h1] at z
      exact .inl ⟨s, e1, m, z⟩
    · subst e1; cases m
theorem SR.leave {n : Nat} (r : SR G vs O W σ H ρ) (hn : n = vs.length) : SR G vs O W (vs.map some) H (trim n ρ) := by
  have key : ∀ {i : Nat} {s0 : SD} {xs : List D}, ρ[i]? = some s0 → s0 = .byr xs → ∃ a, vs[i]? = some (.ref a) ∧ σ[i]? = some (some (.ref a)) ∧ OwnAt G O W H a xs := fun {i s0 xs} e h => by
    subst h
    obtain ⟨a, h1, h2, h3⟩ := r.slot i _ e
    exact ⟨a, h2, join_some h1, h3⟩
  have mi : ∀ {i : Nat} {s : SD}, (trim n ρ)[i]? = some s → s.mine = true → ∃ xs, ρ[i]? = some (.byr xs) ∧ s = .byr xs := fun {i s} e m => by
    rcases (trim_get e).2 with z | z
    · subst z; cases m
    · exact z
  have notrim : ∀ {i : Nat} {t : OT}, (trim n ρ)[i]? ≠ some (.ow t) := fun {i t} e => by
    rcases (trim_get e).2 with z | ⟨xs, _, z⟩ <;> cases z
  refine ⟨r.wf, ?_, fun i s e => ?_, fun i j s t a e1 e2 m1 m2 s1 s2 => ?_, r.tabs, OwS.nil fun i t => notrim⟩
  · unfold trim
    rw [List.length_map, List.length_map, List.length_range, hn]
  · rcases (trim_get e).2 with z | ⟨xs, h1, z⟩
    · subst z; trivial
    · subst z
      obtain ⟨a, h3, h4, h5⟩ := key h1 rfl
      refine ⟨a, ?_, h3, h5⟩
      rw [List.getElem?_map, h3]; rfl
  · obtain ⟨xs, h1, rfl⟩ := mi e1 m1
    obtain ⟨ys, h2, rfl⟩ := mi e2 m2
    obtain ⟨b, h3, h4, _⟩ := key h1 rfl
    obtain ⟨c, h5, h6, _⟩ := key h2 rfl
    rw [List.getElem?_map, h3] at s1
    rw [List.getElem?_map, h5] at s2
    cases s1
    cases s2
    exact r.apart i j _ _ a h1 h2 rfl rfl h4 h6
theorem Fre.leave {n : Nat} {a : Addr} (r : SR G vs O W σ H ρ) (hn : Fre G O W σ H ρ a) : Fre G O W (vs.map some) H (trim n ρ) a := ⟨fun i s es ms z => by
    rcases (trim_get es).2 with y | ⟨ys, h1, y⟩
    · subst y; cases ms
    · obtain ⟨b, q1, q2, _⟩ := r.slot i _ h1
      rw [List.getElem?_map, q2] at z
      cases z
      exact hn.m i _ h1 rfl (join_some q1), fun i u v fp es => by
    rcases (trim_get es).2 with y | ⟨ys, h1, y⟩ <;> cases y⟩
theorem ResR.leave {n : Nat} {v : V} {s : SD} (r : SR G vs O W σ H ρ) (h : ResR G O W σ H ρ v s) : ResR G O W (vs.map some) H (trim n ρ) v s := by
  cases s with
  | no => exact h
  | byr xs => exact h
  | xn _ _ => exact h
  | gv => exact h
  | sh d => exact h
  | own xs =>
    obtain ⟨a, e, o, hn⟩ := h
    exact ⟨a, e, o, hn.leave r⟩
  | od kvs =>
    obtain ⟨a, e, o, hn⟩ := h
    exact ⟨a, e, o, hn.leave r⟩
  | ow t =>
    obtain ⟨fp, o, hn⟩ := h
    exact ⟨fp, o, fun a ha => (hn a ha).leave r⟩
end
section
variable {P : Program} {w : World} {K : PySem.W.Frag} {mg : Str → Option Value} {base : Heap}
theorem fn_sound {qual : Str} {scope : Scope} {f : Addr} {cdv : Value} {A : Around} {outer : List Env} {s : Shared} {H : Hp} {N ps : List Str} {cl : Cl} {body : List Stmt} {g : Ss} {vs : List V} {Q : VK} {E : XK} (S : FnScope N ps scope) (hlen : vs.length = ps.length)
    (hb : BJ (cxOf (L2.CX P w) P w K mg base N qual scope f cdv A outer s H E) cl vs (wxE E) body g) (h : spF (gk K cl) ps.length (bodyF N.length g) vs H Q E) :
    ∃ t, PSs (cxOf (L2.CX P w) P w K mg base N qual scope f cdv A outer s H E) body t ∧ t { nx := fun _ H' => Q .non H', rt := Q } (L2.start N vs) H := by
  obtain ⟨t, p, q⟩ := hb.ex
  obtain ⟨_, O, W, as, sr, hw⟩ := h
  have hl : vs.length = as.length := by have := sr.len; rw [List.length_map] at this; exact this
  have hpl : ps.length ≤ N.length := by have := congrArg List.length S.pre; rw [List.length_take] at this; omega
  refine ⟨t, p, q O W (L2.start N vs) H _ _ (sr.enter (by omega)) ?_⟩
  unfold bodyF at hw
  cases e : g (as ++ List.replicate (N.length - as.length) .no) with
  | bad => rw [e] at hw; exact hw
  | exc c fs ρ' =>
    rw [e] at hw
    exact fun σ' p gs O' W' H' st sr' hp hf => hw p gs O' W' H' st (sr'.leave hl.symm) hp hf
  | ok fl =>
    rw [e] at hw
    cases fl with
    | nx ρ' =>
      exact fun σ' O' W' H' st sr' => hw .non O' W' H' st (sr'.leave hl.symm) (show Rp (gk K cl) O' H' .non .non by simp only [Rp])
    | rt r ρ' =>
      exact fun v σ' O' W' H' st sr' rr => hw v O' W' H' st (sr'.leave hl.symm) (rr.leave sr')
    | bk ρ' => exact hw.elim
    | ct ρ' => exact hw.elim
theorem fn_ok {x qual : Str} {st : Stmt} {f : Addr} {fd : FuncData} {N ps : List Str} {k : Nat} {cl : Cl} {g : Ss} (F : Fun K x qual st f fd) (S : FnScope N ps (defScope st))
    (hb : ∀ (cdv : Value) (A : Around) (outer : List Env) (s : Shared) (H : Hp) (vs : List V) (E : XK), Room k (A.deeper (envOfC qual (defScope st) s.heap.objs.size f cdv)) →
      BJ (cxOf (L2.CX P w) P w K mg base N qual (defScope st) f cdv A outer s H E) cl vs (wxE E) (defBody st) g) : FnOk P w K mg base (L2.CX P w) (k + 1) f fd ps (spF (gk K cl) ps.length (bodyF N.length g)) :=
  F.okX S (fun vs H Q E h => h.1) fun cdv A outer s H vs Q E hr h => fn_sound S h.1 (hb cdv A outer s H vs E hr) h
end
def argOf (ρ : List SD) (i : Nat) : Rs SD := match ρ[i]? with
  | some (.sh d) => .ok (.sh d)
  | some (.own xs) => .ok (.byr xs)
  | some (.byr xs) => .ok (.byr xs)
  | _ => .bad
def cargs : List LOp → List SD → Rs (List (SD × Option Nat) × List SD)
  | [], ρ => .ok ([], ρ)
  | .va i :: r, ρ => (argOf ρ i).bind fun _ => (cargs r ρ).bind fun p => (argOf p.2 i).bind fun s => .ok ((s, some i) :: p.1, p.2)
  | .ex f :: r, ρ => (f ρ).bind fun p => (cargs r p.2).bind fun q => .ok ((.sh p.1.frz, none) :: q.1, q.2)
def lent : List (SD × Option Nat) → List Nat
  | [] => []
  | (.byr _, some i) :: r => i :: lent r
  | _ :: r => lent r
def backS : SD → SD → SD
  | .own _, .byr xs => .own xs
  | .byr _, .byr xs => .byr xs
  | .sh d, _ => .sh d
  | _, _ => .no
def backAll : List (SD × Option Nat) → List SD → List SD → List SD
  | (.byr _, some i) :: r, s :: ss, ρ => (backAll r ss ρ).set i (backS (ρ[i]?.getD .no) s)
  | _ :: r, _ :: ss, ρ => backAll r ss ρ
  | _, _, ρ => ρ
def xCall (F : Fn) (fl : List LOp) : Sx := fun ρ => (cargs fl ρ).bind fun p => if (lent p.1).Nodup then
    match F (p.1.map (·.1)) with
    | .ok (r, as') => .ok (r, backAll p.1 as' p.2)
    | .exc c fs as' => .exc c fs (backAll p.1 as' p.2)
    | .bad => .bad
  else .bad
end Wm
end
section
namespace Wm
open PySem PySem.Spec PyProof.Rows L2
def CR1 (G : Gx) (O W : List Addr) (σ : L2.St) (H : Hp) (ρ : List SD) : SD × Option Nat → V → Prop
  | (.sh d, _), v => Rp G O H d v
  | (.byr xs, some i), v => ∃ a, v = .ref a ∧ σ[i]? = some (some (.ref a)) ∧ OwnAt G O W H a xs ∧ (ρ[i]? = some (.own xs) ∨ ρ[i]? = some (.byr xs))
  | _, _ => False
def CRs (G : Gx) (O W : List Addr) (σ : L2.St) (H : Hp) (ρ : List SD) : List (SD × Option Nat) → List V → Prop
  | [], vs => vs = []
  | p :: ps, vs => ∃ v r, vs = v :: r ∧ CR1 G O W σ H ρ p v ∧ CRs G O W σ H ρ ps r
def AftK (G : Gx) (vs0 : List V) (Wx : WX) (O W : List Addr) (σ : L2.St) (H : Hp) (Q : List V → Hp → Prop) : Rs (List (SD × Option Nat) × List SD) → Prop
  | .ok (ps, ρ') => ∀ vs O' W' H', Stp O W H O' W' H' → SR G vs0 O' W' σ H' ρ' → CRs G O' W' σ H' ρ' ps vs → Q vs H'
  | .exc c fs ρ' => ExcA G vs0 Wx O W σ H c fs ρ'
  | .bad => False
structure KJ (X : Cx) (cl : Cl) (vs0 : List V) (Wx : WX) (es : List Expr) (fl : List LOp) : Prop where
  ex : ∃ ts, PEs X es ts ∧ PA X es (tAll ts) ∧ ∀ O W σ H ρ R, SR (gx X cl) vs0 O W σ H ρ → AftK (gx X cl) vs0 Wx O W σ H R (cargs fl ρ) → tAll ts σ H R
section
variable {X : Cx} {cl : Cl} {vs0 : List V} {Wx : WX}
theorem argOf_noexc {ρ : List SD} {i : Nat} {c : Str} {fs : List (Str × D)} {ρ' : List SD} : argOf ρ i ≠ .exc c fs ρ' := by
  unfold argOf
  split <;> exact fun z => nomatch z
theorem argOf_sr {G : Gx} {O W : List Addr} {σ : L2.St} {H : Hp} {ρ : List SD} {i : Nat} {s : SD} (sr : SR G vs0 O W σ H ρ) (h : argOf ρ i = .ok s) : ∃ v, σ[i]? = some (some v) ∧ CR1 G O W σ H ρ (s, some i) v := by
  unfold argOf at h
  split at h
  · rename_i d e
    cases h
    obtain ⟨v, e1, r⟩ := sr.get e
    exact ⟨v, e1, r⟩
  · rename_i xs e
    cases h
    obtain ⟨a, e1, o⟩ := sr.getOwn e (.inl rfl)
    exact ⟨_, e1, a, rfl, e1, o, .inl e⟩
  · rename_i xs e
    cases h
    obtain ⟨a, e1, o⟩ := sr.getOwn e (.inr rfl)
    exact ⟨_, e1, a, rfl, e1, o, .inr e⟩
  · cases h
theorem kj_nil : KJ X cl vs0 Wx [] [] := ⟨⟨[], .nil, pa_nil, fun O W σ H ρ R sr h => h [] O W H Stp.refl sr rfl⟩⟩
theorem kj_cons {e : Expr} {es : List Expr} {o : LOp} {fl : List LOp} (h : LJ X cl vs0 Wx e o) (hr : KJ X cl vs0 Wx es fl) (hs : starEach (e :: es) X.env = (false, eval e X.env) :: starEach es X.env := by rfl) : KJ X cl vs0 Wx (e :: es) (o :: fl) := by
  obtain ⟨ts, p1, p2, p3⟩ := hr.ex
  cases o with
  | va i =>
    refine ⟨⟨tVar i :: ts, .cons h p1, pa_cons h p2 hs, fun O W σ H ρ R sr hw => ?_⟩⟩
    have hw' : AftK (gx X cl) vs0 Wx O W σ H R ((argOf ρ i).bind fun _ => (cargs fl ρ).bind fun p => (argOf p.2 i).bind fun s => .ok ((s, some i) :: p.1, p.2)) := hw
    cases e0 : argOf ρ i with
    | bad => rw [e0] at hw'; exact hw'.elim
    | exc c fs ρ' => exact absurd e0 argOf_noexc
    | ok d0 =>
      rw [e0] at hw'
      obtain ⟨v, ev, _⟩ := argOf_sr sr e0
      refine ⟨v, ev, p3 O W σ H ρ _ sr ?_⟩
      have hw2 : AftK (gx X cl) vs0 Wx O W σ H R ((cargs fl ρ).bind fun p => (argOf p.2 i).bind fun s => .ok ((s, some i) :: p.1, p.2)) := hw'
      cases e1 : cargs fl ρ with
      | bad => rw [e1] at hw2; exact hw2
      | exc c fs ρ' => rw [e1] at hw2; exact hw2
      | ok p =>
        obtain ⟨ps, ρ1⟩ := p
        rw [e1] at hw2
        have hw3 : AftK (gx X cl) vs0 Wx O W σ H R ((argOf ρ1 i).bind fun s => .ok ((s, some i) :: ps, ρ1)) := hw2
        intro vs O' W' H' st sr' ho
        cases e2 : argOf ρ1 i with
        | bad => rw [e2] at hw3; exact hw3.elim
        | exc c fs ρ' => exact absurd e2 argOf_noexc
        | ok d =>
          rw [e2] at hw3
          obtain ⟨v', ev', r'⟩ := argOf_sr sr' e2
          rw [ev] at ev'; cases ev'
          exact hw3 (v :: vs) O' W' H' st sr' ⟨v, vs, rfl, r', ho⟩
  | ex f =>
    obtain ⟨t, q1, q2⟩ := h.ex
    refine ⟨⟨t :: ts, .cons q1 p1, pa_cons q1 p2 hs, fun O W σ H ρ R sr hw => ?_⟩⟩
    have hw' : AftK (gx X cl) vs0 Wx O W σ H R ((f ρ).bind fun p => (cargs fl p.2).bind fun q => .ok ((.sh p.1.frz, none) :: q.1, q.2)) := hw
    refine q2 O W σ H ρ _ sr ?_
    cases e0 : f ρ with
    | bad => rw [e0] at hw'; exact hw'
    | exc c fs ρ' => rw [e0] at hw'; exact hw'
    | ok p =>
      obtain ⟨r, ρ1⟩ := p
      rw [e0] at hw'
      have hw2 : AftK (gx X cl) vs0 Wx O W σ H R ((cargs fl ρ1).bind fun q => .ok ((.sh r.frz, none) :: q.1, q.2)) := hw'
      intro v O1 W1 H1 st1 sr1 rr
      obtain ⟨O2, W2, st2, sr2, rp⟩ := rr.frz sr1
      have st12 := st1.trans sr.wf st2
      refine p3 O2 W2 σ H1 ρ1 _ sr2 ?_
      cases e1 : cargs fl ρ1 with
      | bad => rw [e1] at hw2; exact hw2
      | exc c fs ρ' => rw [e1] at hw2; exact ExcA.back sr.wf st12 hw2
      | ok q =>
        obtain ⟨ps, ρ2⟩ := q
        rw [e1] at hw2
        intro vs O' W' H' st sr' ho
        exact hw2 (v :: vs) O' W' H' (st12.trans sr.wf st) sr' ⟨v, vs, rfl, rp.step sr2.wf st, ho⟩
def wcs : List (SD × Option Nat) → List V → List Addr
  | (.byr _, some _) :: r, .ref a :: vr => a :: wcs r vr
  | _ :: r, _ :: vr => wcs r vr
  | _, _ => []
variable {G : Gx} {O W O' W' : List Addr} {σ : L2.St} {H H' : Hp} {ρ : List SD}
theorem CRs.len : ∀ {ps : List (SD × Option Nat)} {vs : List V}, CRs G O W σ H ρ ps vs → ps.length = vs.length
  | [], vs, h => by have h : vs = [] := h; rw [h]; rfl
  | p :: ps, vs, h => by
    obtain ⟨v, r, e, _, h2⟩ := h
    rw [e, List.length_cons, List.length_cons, CRs.len h2]
theorem CRs.get : ∀ {ps : List (SD × Option Nat)} {vs : List V} {j : Nat} {p : SD × Option Nat}, CRs G O W σ H ρ ps vs → ps[j]? = some p → ∃ v, vs[j]? = some v ∧ CR1 G O W σ H ρ p v
  | [], vs, j, p, h, e => by cases j <;> cases e
  | q :: ps, vs, j, p, h, e => by
    obtain ⟨v, r, ev, h1, h2⟩ := h
    subst ev
    cases j with
    | zero => cases e; exact ⟨v, rfl, h1⟩
    | succ j => exact CRs.get (j := j) h2 e
theorem mem_wcs : ∀ {ps : List (SD × Option Nat)} {vs : List V} {a : Addr}, CRs G O W σ H ρ ps vs → (a ∈ wcs ps vs ↔ ∃ (j : Nat) (xs : List D) (i : Nat), ps[j]? = some (SD.byr xs, some i) ∧ vs[j]? = some (V.ref a))
  | [], vs, a, h => by
    have h : vs = [] := h
    subst h
    constructor
    · intro z; cases z
    · rintro ⟨j, xs, i, h1, _⟩; cases j <;> cases h1
  | p :: ps, vs, a, h => by
    obtain ⟨v, r, ev, h1, h2⟩ := h
    subst ev
    have ih := mem_wcs (a := a) h2
    have shift : (∃ (j : Nat) (xs : List D) (i : Nat), ps[j]? = some (SD.byr xs, some i) ∧ r[j]? = some (V.ref a)) → ∃ (j : Nat) (xs : List D) (i : Nat), (p :: ps)[j]? = some (SD.byr xs, some i) ∧ (v :: r)[j]? = some (V.ref a) := fun ⟨j, xs, i, z1, z2⟩ => ⟨j + 1, xs, i, z1, z2⟩
    obtain ⟨s, o⟩ := p
    have plain : wcs ((s, o) :: ps) (v :: r) = wcs ps r → (∀ xs i, (s, o) ≠ (SD.byr xs, some i)) → (a ∈ wcs ((s, o) :: ps) (v :: r) ↔ ∃ (j : Nat) (xs : List D) (i : Nat), ((s, o) :: ps)[j]? = some (SD.byr xs, some i) ∧ (v :: r)[j]? = some (V.ref a)) := fun e hn => by
      rw [e, ih]
      refine ⟨shift, ?_⟩
      rintro ⟨j, xs, i, z1, z2⟩
      cases j with
      | zero => exact absurd (Option.some.inj z1) (hn xs i)
      | succ j => exact ⟨j, xs, i, z1, z2⟩
    cases s with
    | sh d => exact plain rfl fun xs i z => by cases z
    | no => exact h1.elim
    | own xs => exact h1.elim
    | xn _ _ => exact h1.elim
    | gv => exact h1.elim
    | od _ => exact h1.elim
    | ow _ => exact h1.elim
    | byr xs =>
      cases o with
      | none => exact h1.elim
      | some i =>
        obtain ⟨b, eb, h3, h4, h5⟩ := h1
        subst eb
        show a ∈ b :: wcs ps r ↔ _
        rw [List.mem_cons, ih]
        constructor
        · rintro (z | z)
          · exact ⟨0, xs, i, rfl, by rw [z]; rfl⟩
          · exact shift z
        · rintro ⟨j, ys, i', z1, z2⟩
          cases j with
          | zero =>
            left
            have z2 : some (V.ref b) = some (V.ref a) := z2
            cases z2; rfl
          | succ j => exact .inr ⟨j, ys, i', z1, z2⟩
theorem mem_lent : ∀ {ps : List (SD × Option Nat)} {i : Nat}, i ∈ lent ps ↔ ∃ (j : Nat) (xs : List D), ps[j]? = some (.byr xs, some i)
  | [], i => by
    constructor
    · intro z; cases z
    · rintro ⟨j, xs, h1⟩; cases j <;> cases h1
  | (s, o) :: ps, i => by
    have ih := mem_lent (ps := ps) (i := i)
    have plain : lent ((s, o) :: ps) = lent ps → (∀ xs i, (s, o) ≠ (SD.byr xs, some i)) → (i ∈ lent ((s, o) :: ps) ↔ ∃ (j : Nat) (xs : List D), ((s, o) :: ps)[j]? = some (.byr xs, some i)) := fun e hn => by
      rw [e, ih]
      constructor
      · rintro ⟨j, xs, z⟩; exact ⟨j + 1, xs, z⟩
      · rintro ⟨j, xs, z1⟩
        cases j with
        | zero => exact absurd (Option.some.inj z1) (hn xs i)
        | succ j => exact ⟨j, xs, z1⟩
    cases s with
    | sh d => exact plain rfl fun xs i z => by cases z
    | no => exact plain rfl fun xs i z => by cases z
    | own xs => exact plain rfl fun xs i z => by cases z
    | xn _ _ => exact plain rfl fun xs i z => by cases z
    | gv => exact plain rfl fun xs i z => by cases z
    | od _ => exact plain rfl fun xs i z => by cases z
    | ow _ => exact plain rfl fun xs i z => by cases z
    | byr xs =>
      cases o with
      | none => exact plain rfl fun xs i z => by cases z
      | some k =>
        show i ∈ k :: lent ps ↔ _
        rw [List.mem_cons, ih]
        constructor
        · rintro (z | ⟨j, ys, z⟩)
          · exact ⟨0, xs, by rw [z]; rfl⟩
          · exact ⟨j + 1, ys, z⟩
        · rintro ⟨j, ys, z1⟩
          cases j with
          | zero =>
            left
            have z1 : some (SD.byr xs, some k) = some (SD.byr ys, some i) := z1
            cases z1; rfl
          | succ j => exact .inr ⟨j, ys, z1⟩
theorem lent_inj : ∀ {ps : List (SD × Option Nat)} {i j k : Nat} {xs ys : List D}, (lent ps).Nodup → ps[j]? = some (.byr xs, some i) → ps[k]? = some (.byr ys, some i) → j = k
  | [], i, j, k, xs, ys, _, h, _ => by cases j <;> cases h
  | (s, o) :: ps, i, j, k, xs, ys, nd, h1, h2 => by
    have sub : (lent ps).Nodup := by
      cases s <;> cases o <;> first
        | exact nd
        | exact (List.nodup_cons.mp nd).2
    cases j with
    | zero =>
      cases k with
      | zero => rfl
      | succ k =>
        have h1 : some (s, o) = some (SD.byr xs, some i) := h1
        cases h1
        exact absurd (mem_lent.mpr ⟨k, ys, h2⟩) (List.nodup_cons.mp nd).1
    | succ j =>
      cases k with
      | zero =>
        have h2 : some (s, o) = some (SD.byr ys, some i) := h2
        cases h2
        exact absurd (mem_lent.mpr ⟨j, xs, h1⟩) (List.nodup_cons.mp nd).1
      | succ k => exact congrArg (· + 1) (lent_inj (j := j) (k := k) sub h1 h2)
theorem back_out : ∀ {ps : List (SD × Option Nat)} {as : List SD} {i : Nat}, i ∉ lent ps → (backAll ps as ρ)[i]? = ρ[i]?
  | [], as, i, _ => by cases as <;> rfl
  | (s, o) :: ps, [], i, _ => by cases s <;> cases o <;> rfl
  | (s, o) :: ps, a :: as, i, h => by
    have plain : backAll ((s, o) :: ps) (a :: as) ρ = backAll ps as ρ → lent ((s, o) :: ps) = lent ps → (backAll ((s, o) :: ps) (a :: as) ρ)[i]? = ρ[i]? := fun e1 e2 => by
      rw [e1]; rw [e2] at h; exact back_out h
    cases s with
    | sh d => exact plain rfl rfl
    | no => exact plain rfl rfl
    | own xs => exact plain rfl rfl
    | xn _ _ => exact plain rfl rfl
    | gv => exact plain rfl rfl
    | od _ => exact plain rfl rfl
    | ow _ => exact plain rfl rfl
    | byr xs =>
      cases o with
      | none => exact plain rfl rfl
      | some k =>
        have h : i ∉ k :: lent ps := h
        rw [List.mem_cons, not_or] at h
        show ((backAll ps as ρ).set k _)[i]? = _
        rw [List.getElem?_set_ne (Ne.symm h.1)]
        exact back_out h.2
theorem back_len : ∀ {ps : List (SD × Option Nat)} {as : List SD}, (backAll ps as ρ).length = ρ.length
  | [], as => by cases as <;> rfl
  | (s, o) :: ps, [] => by cases s <;> cases o <;> rfl
  | (s, o) :: ps, a :: as => by
    cases s <;> cases o <;> first
      | exact back_len (ps := ps) (as := as)
      | (show ((backAll ps as ρ).set _ _).length = _
         rw [List.length_set]; exact back_len (ps := ps) (as := as))
theorem back_in : ∀ {ps : List (SD × Option Nat)} {as : List SD} {i j : Nat} {xs : List D} {s : SD}, (lent ps).Nodup → ps[j]? = some (.byr xs, some i) → as[j]? = some s → i < ρ.length → (backAll ps as ρ)[i]? = some (backS (ρ[i]?.getD .no) s)
  | [], as, i, j, xs, s, _, h, _, _ => by cases j <;> cases h
  | (t, o) :: ps, [], i, j, xs, s, _, _, h, _ => by cases j <;> cases h
  | (t, o) :: ps, a :: as, i, j, xs, s, nd, h1, h2, hl => by
    cases j with
    | zero =>
      have h1 : some (t, o) = some (SD.byr xs, some i) := h1
      have h2 : some a = some s := h2
      cases h1
      cases h2
      show ((backAll ps as ρ).set i _)[i]? = _
      rw [List.getElem?_set_self (by rw [back_len]; exact hl)]
    | succ j =>
      have plain : backAll ((t, o) :: ps) (a :: as) ρ = backAll ps as ρ → lent ((t, o) :: ps) = lent ps → (backAll ((t, o) :: ps) (a :: as) ρ)[i]? = some (backS (ρ[i]?.getD .no) s) := fun e1 e2 => by
        rw [e1]; rw [e2] at nd; exact back_in (j := j) nd h1 h2 hl
      cases t with
      | sh d => exact plain rfl rfl
      | no => exact plain rfl rfl
      | own xs => exact plain rfl rfl
      | xn _ _ => exact plain rfl rfl
      | gv => exact plain rfl rfl
      | od _ => exact plain rfl rfl
      | ow _ => exact plain rfl rfl
      | byr ys =>
        cases o with
        | none => exact plain rfl rfl
        | some k =>
          have nd : (k :: lent ps).Nodup := nd
          have hk : i ≠ k := fun z => (List.nodup_cons.mp nd).1 (mem_lent.mpr ⟨j, xs, z ▸ h1⟩)
          show ((backAll ps as ρ).set k _)[i]? = _
          rw [List.getElem?_set_ne (Ne.symm hk)]
          exact back_in (j := j) (List.nodup_cons.mp nd).2 h1 h2 hl
end
end Wm
end
section
namespace Wm
open PySem PySem.Spec PyProof.Rows L2
section
variable {X : Cx} {cl : Cl} {vs0 : List V} {Wx : WX}
variable {G : Gx} {O W O' W' : List Addr} {σ : L2.St} {H H' : Hp} {ρ : List SD} {ps : List (SD × Option Nat)} {vs : List V} {as : List SD}
theorem call_enter (sr : SR G vs0 O W σ H ρ) (hc : CRs G O W σ H ρ ps vs) (nd : (lent ps).Nodup) : SR G vs O (wcs ps vs) (vs.map some) H (ps.map (·.1)) := by
  have pg : ∀ {i : Nat} {s : SD}, (ps.map (·.1))[i]? = some s → ∃ o, ps[i]? = some (s, o) := fun {i s} e => by
    rw [List.getElem?_map] at e
    obtain ⟨⟨s', o⟩, h1, h2⟩ := Option.map_eq_some_iff.mp e
    have h2 : s' = s := h2
    subst h2
    exact ⟨o, h1⟩
  have mi : ∀ {i : Nat} {s : SD}, (ps.map (·.1))[i]? = some s → s.mine = true → ∃ xs k, ps[i]? = some (SD.byr xs, some k) ∧ s = .byr xs := fun {i s} e m => by
    obtain ⟨o, h1⟩ := pg e
    obtain ⟨v, h2, h3⟩ := hc.get h1
    cases s with
    | byr xs =>
      cases o with
      | none => exact h3.elim
      | some k => exact ⟨xs, k, h1, rfl⟩
    | own xs => exact h3.elim
    | xn _ _ => cases m
    | gv => cases m
    | od _ => exact h3.elim
    | ow _ => exact h3.elim
    | no => cases m
    | sh d => cases m
  refine ⟨⟨fun b hb => ?_, sr.wf.trk⟩, by rw [List.length_map, List.length_map, hc.len], fun i s e => ?_, fun i j s t a e1 e2 m1 m2 s1 s2 => ?_, sr.tabs, OwS.nil fun i t e => ?_⟩
  · obtain ⟨j, xs, i, h1, h2⟩ := (mem_wcs hc).mp hb
    obtain ⟨v, h3, a, h4, h5, h6, _⟩ := hc.get h1
    rw [h2] at h3; cases h3; cases h4
    exact sr.wf.sub b h6.1
  · obtain ⟨o, h1⟩ := pg e
    obtain ⟨v, h2, h3⟩ := hc.get h1
    have e2 : ((vs.map some)[i]?).join = some v := by rw [List.getElem?_map, h2]; rfl
    rw [e2, h2]
    cases s with
    | sh d => exact ⟨v, rfl, h3⟩
    | xn _ _ => exact h3.elim
    | gv => exact h3.elim
    | od _ => exact h3.elim
    | ow _ => exact h3.elim
    | byr xs =>
      cases o with
      | none => exact h3.elim
      | some k =>
        obtain ⟨a, h4, h5, ⟨h6, h7⟩, _⟩ := h3
        subst h4
        exact ⟨a, rfl, rfl, (mem_wcs hc).mpr ⟨i, xs, k, h1, h2⟩, h7⟩
    | own xs => exact h3.elim
    | no => trivial
  · obtain ⟨xs, k, h1, rfl⟩ := mi e1 m1
    obtain ⟨ys, l, h2, rfl⟩ := mi e2 m2
    obtain ⟨v, h3, b, h4, h5, _, h6⟩ := hc.get h1
    obtain ⟨u, h7, c, h8, h9, _, h10⟩ := hc.get h2
    subst h4 h8
    rw [List.getElem?_map, h3] at s1
    rw [List.getElem?_map, h7] at s2
    cases s1
    cases s2
    have hkl : k = l := by
      rcases h6 with h6 | h6 <;> rcases h10 with h10 | h10 <;> exact sr.apart k l _ _ a h6 h10 rfl rfl h5 h9
    subst hkl
    exact lent_inj nd h1 h2
  · obtain ⟨o, h1⟩ := pg e
    obtain ⟨v, h2, h3⟩ := hc.get h1
    exact h3.elim
theorem back_step (sr : SR G vs0 O W σ H ρ) (hc : CRs G O W σ H ρ ps vs) (nd : (lent ps).Nodup) (st : Stp O (wcs ps vs) H O' W' H') (sr' : SR G vs O' W' (vs.map some) H' as) :
    ∃ W'', Stp O W H O' W'' H' ∧ SR G vs0 O' W'' σ H' (backAll ps as ρ) ∧ ∀ v r, ResR G O' W' (vs.map some) H' as v r → ResR G O' W'' σ H' (backAll ps as ρ) v r := by
  have wc : Wf O (wcs ps vs) H := (call_enter sr hc nd).wf
  have wsub : ∀ b ∈ wcs ps vs, b ∈ W := fun b hb => by
    obtain ⟨j, xs, i, h1, h2⟩ := (mem_wcs hc).mp hb
    obtain ⟨v, h3, a, h4, h5, h6, _⟩ := hc.get h1
    rw [h2] at h3; cases h3; cases h4
    exact h6.1
  have hlen : as.length = ps.length := by
    have := sr'.len
    rw [List.length_map] at this
    rw [← this, hc.len]
  have w2 : ∀ {b : Addr}, b ∈ W' ++ W.filter (fun b => decide (b ∉ wcs ps vs)) ↔ b ∈ W' ∨ (b ∈ W ∧ b ∉ wcs ps vs) := by
    intro b
    rw [List.mem_append, List.mem_filter, decide_eq_true_eq]
  have keptA : ∀ {i : Nat} {s : SD}, ρ[i]? = some s → s.mine = true → i ∉ lent ps → ∃ a, σ[i]? = some (some (.ref a)) ∧ a ∉ wcs ps vs := fun {i s} e hm hn => by
    obtain ⟨a, ea, _⟩ := sr.mineW e hm
    refine ⟨a, ea, fun z => ?_⟩
    obtain ⟨j, ys, k, z1, z2⟩ := (mem_wcs hc).mp z
    obtain ⟨v, z3, b, z4, z5, _, z6⟩ := hc.get z1
    rw [z2] at z3; cases z3; cases z4
    have : i = k := by rcases z6 with z6 | z6 <;> exact sr.apart i k s _ a e z6 hm rfl ea z5
    subst this
    exact hn (mem_lent.mpr ⟨j, ys, z1⟩)
  -- a slot of one's own that was not lent keeps its list
  have kept : ∀ {i : Nat} {s : SD} {xs : List D}, ρ[i]? = some s → (s = .own xs ∨ s = .byr xs) → i ∉ lent ps → ∃ a, σ[i]? = some (some (.ref a)) ∧ a ∉ wcs ps vs ∧ OwnAt G O' (W' ++ W.filter (fun b => decide (b ∉ wcs ps vs))) H' a xs := fun {i s xs} e hs hn => by
    obtain ⟨a, ea, h1, us, h2, h3, h4⟩ := sr.getOwn e hs
    have na : a ∉ wcs ps vs := fun z => by
      obtain ⟨j, ys, k, z1, z2⟩ := (mem_wcs hc).mp z
      obtain ⟨v, z3, b, z4, z5, _, z6⟩ := hc.get z1
      rw [z2] at z3; cases z3; cases z4
      have hm : s.mine = true := by rcases hs with rfl | rfl <;> rfl
      have : i = k := by rcases z6 with z6 | z6 <;> exact sr.apart i k s _ a e z6 hm rfl ea z5
      subst this
      exact hn (mem_lent.mpr ⟨j, ys, z1⟩)
    exact ⟨a, ea, na, w2.mpr (.inr ⟨h1, na⟩), us, st.keep a _ h2 na (fun _ z => by cases z), h3, h4.step wc st⟩
  -- a slot that was lent
  have lentS : ∀ {i : Nat}, i ∈ lent ps → ∃ (j : Nat) (xs : List D) (s : SD) (a : Addr), ps[j]? = some (SD.byr xs, some i) ∧ as[j]? = some s ∧ vs[j]? = some (V.ref a) ∧ σ[i]? = some (some (.ref a)) ∧ (ρ[i]? = some (.own xs) ∨ ρ[i]? = some (.byr xs)) ∧ (backAll ps as ρ)[i]? = some (backS (ρ[i]?.getD .no) s) := fun {i} hi => by
    obtain ⟨j, xs, h1⟩ := mem_lent.mp hi
    obtain ⟨v, h3, a, h4, h5, _, h6⟩ := hc.get h1
    subst h4
    have hj : j < as.length := by rw [hlen]; exact (List.getElem?_eq_some_iff.mp h1).1
    have hil : i < ρ.length := by
      rcases h6 with h6 | h6 <;> exact (List.getElem?_eq_some_iff.mp h6).1
    exact ⟨j, xs, as[j], a, h1, List.getElem?_eq_getElem hj, h3, h5, h6, back_in nd h1 (List.getElem?_eq_getElem hj) hil⟩
  have own' : ∀ {a : Addr} {xs : List D}, OwnAt G O' W' H' a xs → OwnAt G O' (W' ++ W.filter (fun b => decide (b ∉ wcs ps vs))) H' a xs := fun h => ⟨w2.mpr (.inl h.1), h.2⟩
  -- what stands in a slot that is one's own behind the call
  have mine : ∀ {i : Nat} {s : SD}, (backAll ps as ρ)[i]? = some s → s.mine = true → ∃ a, σ[i]? = some (some (.ref a)) ∧ ((a ∉ wcs ps vs ∧ a ∈ W ∧ ∃ s0, ρ[i]? = some s0 ∧ s0.mine = true) ∨ (∃ (j : Nat) (ys : List D), as[j]? = some (SD.byr ys) ∧ vs[j]? = some (V.ref a) ∧ ∃ s0, ρ[i]? = some s0 ∧ s0.mine = true)) := fun {i s} e m => by
    by_cases hi : i ∈ lent ps
    · obtain ⟨j, xs, s1, a, h1, h2, h3, h4, h5, h6⟩ := lentS hi
      rw [h6] at e
      cases e
      have h0 : ∃ s0, ρ[i]? = some s0 ∧ s0.mine = true := by rcases h5 with h5 | h5 <;> exact ⟨_, h5, rfl⟩
      cases s1 with
      | byr ys => exact ⟨a, h4, .inr ⟨j, ys, h2, h3, h0⟩⟩
      | no => rcases h5 with h5 | h5 <;> (rw [h5] at m; cases m)
      | xn _ _ => rcases h5 with h5 | h5 <;> (rw [h5] at m; cases m)
      | gv => rcases h5 with h5 | h5 <;> (rw [h5] at m; cases m)
      | od _ => rcases h5 with h5 | h5 <;> (rw [h5] at m; cases m)
      | ow _ => rcases h5 with h5 | h5 <;> (rw [h5] at m; cases m)
      | sh d => rcases h5 with h5 | h5 <;> (rw [h5] at m; cases m)
      | own ys => rcases h5 with h5 | h5 <;> (rw [h5] at m; cases m)
    · rw [back_out hi] at e
      obtain ⟨a, ea, na⟩ := keptA e m hi
      obtain ⟨b, eb, hb⟩ := sr.mineW e m
      rw [ea] at eb; cases eb
      exact ⟨a, ea, .inl ⟨na, hb, s, e, m⟩⟩
  have owb : ∀ {i : Nat} {t : OT}, (backAll ps as ρ)[i]? = some (.ow t) → i ∉ lent ps ∧ ρ[i]? = some (.ow t) := fun {i t} e => by
    by_cases hi : i ∈ lent ps
    · obtain ⟨j, xs, s1, a, h1, h2, h3, h4, h5, h6⟩ := lentS hi
      rw [h6] at e
      cases s1 <;> rcases h5 with h5 | h5 <;> rw [h5] at e <;> cases e
    · rw [back_out hi] at e
      exact ⟨hi, e⟩
  have owk : ∀ {i : Nat} {t : OT} {v : V} {fp : List Addr}, ρ[i]? = some (.ow t) → σ[i]? = some (some v) → OwT G O W H t v fp → (∀ b ∈ fp, b ∉ wcs ps vs) ∧ OwT G O' (W' ++ W.filter (fun b => decide (b ∉ wcs ps vs))) H' t v fp := fun {i t v fp} e ev o => by
    have nw : ∀ b ∈ fp, b ∉ wcs ps vs := fun b hb z => by
      obtain ⟨φ, w1, _, w3⟩ := sr.ows
      obtain ⟨v', ev', o'⟩ := w1 i t e
      rw [ev] at ev'; cases ev'
      obtain ⟨j, ys, k, z1, z2⟩ := (mem_wcs hc).mp z
      obtain ⟨v, z3, c, z4, z5, _, z6⟩ := hc.get z1
      rw [z2] at z3; cases z3; cases z4
      rcases z6 with z6 | z6 <;> exact w3 i k t _ b e z6 rfl z5 (OwT.det o o' ▸ hb)
    have key : ∀ {t : OT} {v : V} {fp : List Addr}, OwT G O W H t v fp → (∀ b ∈ fp, b ∉ wcs ps vs) → OwT G O' (W' ++ W.filter (fun b => decide (b ∉ wcs ps vs))) H' t v fp := fun {t v fp} o nw =>
      o.go wc st fun b hb => ⟨w2.mpr (.inr ⟨o.sub b hb, nw b hb⟩), fun x ex => st.keep b _ ex (nw b hb) (fun ps z => by cases z)⟩
    exact ⟨nw, key o nw⟩
  have fr : ∀ a, a ∈ W' → Fre G O' W' (vs.map some) H' as a → Fre G O' (W' ++ W.filter (fun b => decide (b ∉ wcs ps vs))) σ H' (backAll ps as ρ) a := fun a ha hn => ⟨fun i s e m z => by
      obtain ⟨b, hb, h⟩ := mine e m
      rw [hb] at z; cases z
      rcases h with ⟨n1, n2, _⟩ | ⟨j, ys, y1, y2, _⟩
      · rcases st.wnew a ha with y | y
        · exact n1 y
        · exact sr.wf.trk a (sr.wf.sub a n2) y
      · exact hn.m j _ y1 rfl (by rw [List.getElem?_map, y2]; rfl), fun i u v fp e ev o hb => by
      obtain ⟨_, e0⟩ := owb e
      obtain ⟨φ, w1, _, _⟩ := sr.ows
      obtain ⟨v', ev', o'⟩ := w1 i u e0
      rw [ev] at ev'; cases ev'
      obtain ⟨n1, o2⟩ := owk e0 ev o'
      rw [OwT.det o o2] at hb
      rcases st.wnew a ha with y | y
      · exact n1 a hb y
      · exact sr.wf.trk a (sr.wf.sub a (o'.sub a hb)) y⟩
  refine ⟨W' ++ W.filter (fun b => decide (b ∉ wcs ps vs)), ⟨fun b o e hb ht => st.keep b o e (fun z => hb (wsub b z)) ht, fun b hb => ?_, st.onew, st.trk, fun b hb hn => st.ofz b hb fun z => hn (wsub b z)⟩, ⟨⟨fun b hb => ?_, sr'.wf.trk⟩, by rw [back_len, sr.len], fun i s e => ?_, fun i j s t a e1 e2 m1 m2 s1 s2 => ?_, sr'.tabs, ?_⟩, fun v r hr => ?_⟩
  · rcases w2.mp hb with z | z
    · rcases st.wnew b z with y | y
      · exact .inl (wsub b y)
      · exact .inr y
    · exact .inl z.1
  · rcases w2.mp hb with z | z
    · exact sr'.wf.sub b z
    · exact st.ofz b (sr.wf.sub b z.1) z.2
  · by_cases hi : i ∈ lent ps
    · obtain ⟨j, xs, s1, a, h1, h2, h3, h4, h5, h6⟩ := lentS hi
      rw [h6] at e
      cases e
      cases s1 with
      | byr ys =>
        obtain ⟨b, z1, z2, z3⟩ := sr'.slot j _ h2
        rw [h3] at z2; cases z2
        rw [h4]
        rcases h5 with h5 | h5
        · rw [h5]; exact ⟨a, rfl, own' z3⟩
        · rw [h5]
          obtain ⟨b, q1, q2, _⟩ := sr.slot i _ h5
          rw [h4] at q1
          cases q1
          exact ⟨a, rfl, q2, own' z3⟩
      | no => rcases h5 with h5 | h5 <;> (rw [h5]; trivial)
      | xn _ _ => rcases h5 with h5 | h5 <;> (rw [h5]; trivial)
      | gv => rcases h5 with h5 | h5 <;> (rw [h5]; trivial)
      | od _ => rcases h5 with h5 | h5 <;> (rw [h5]; trivial)
      | ow _ => rcases h5 with h5 | h5 <;> (rw [h5]; trivial)
      | sh d => rcases h5 with h5 | h5 <;> (rw [h5]; trivial)
      | own ys => rcases h5 with h5 | h5 <;> (rw [h5]; trivial)
    · rw [back_out hi] at e
      have q := sr.slot i s e
      cases s with
      | no => trivial
      | xn c fs => obtain ⟨a, p, gs, e, x, t, n, r⟩ := q; exact ⟨a, p, gs, e, x, (st.at wc t n).1, (st.at wc t n).2, RpF.step wc st r⟩
      | gv => exact q
      | od kvs =>
        obtain ⟨a, ea, na⟩ := keptA e rfl hi
        obtain ⟨b, q1, hb, gs, h2, h4⟩ := q
        rw [ea] at q1; cases q1
        exact ⟨a, by rw [ea]; rfl, w2.mpr (.inr ⟨hb, na⟩), gs, st.keep a _ h2 na (fun _ z => by cases z), RpD.step wc st h4⟩
      | sh d => obtain ⟨v, ev, r⟩ := q; exact ⟨v, ev, r.step wc st⟩
      | ow _ => trivial
      | own xs =>
        obtain ⟨a, ea, _, o⟩ := kept e (.inl rfl) hi
        exact ⟨a, by rw [ea]; rfl, o⟩
      | byr xs =>
        obtain ⟨a, ea, _, o⟩ := kept e (.inr rfl) hi
        obtain ⟨b, q1, q2, _⟩ := q
        rw [ea] at q1
        cases q1
        exact ⟨a, by rw [ea]; rfl, q2, o⟩
  · have orig : ∀ {i : Nat} {s : SD}, (backAll ps as ρ)[i]? = some s → s.mine = true → ∃ s0, ρ[i]? = some s0 ∧ s0.mine = true := fun {i s} e m => by
      obtain ⟨_, _, h⟩ := mine e m
      rcases h with ⟨_, _, h⟩ | ⟨_, _, _, _, h⟩
      · exact h
      · exact h
    obtain ⟨u1, q1, q2⟩ := orig e1 m1
    obtain ⟨u2, q3, q4⟩ := orig e2 m2
    exact sr.apart i j u1 u2 a q1 q3 q2 q4 s1 s2
  · have ow1 : OwS G O' (W' ++ W.filter (fun b => decide (b ∉ wcs ps vs))) σ H' ρ := sr.ows.map fun i t v fp e ev o => (owk e ev o).2
    refine ow1.mono (fun i t e => ⟨(owb e).2, rfl⟩) fun j s a e m z => .inl ?_
    obtain ⟨b, hb, h⟩ := mine e m
    rcases h with ⟨_, _, s0, h1, h2⟩ | ⟨_, _, _, _, s0, h1, h2⟩
    · exact ⟨s0, h1, h2, z⟩
    · exact ⟨s0, h1, h2, z⟩
  · cases r with
    | sh d => exact hr
    | xn _ _ => exact hr
    | gv => exact hr
    | no => exact hr
    | byr xs => exact hr
    | own xs =>
      obtain ⟨a, ev, o, hn⟩ := hr
      exact ⟨a, ev, own' o, fr a o.1 hn⟩
    | od kvs =>
      obtain ⟨a, ev, o, hn⟩ := hr
      exact ⟨a, ev, ⟨w2.mpr (.inl o.1), o.2⟩, fr a o.1 hn⟩
    | ow t =>
      obtain ⟨fp, o, hn⟩ := hr
      exact ⟨fp, o.less (fun _ h => h) fun b hb => w2.mpr (.inl (o.sub b hb)), fun a ha => fr a (o.sub a ha) (hn a ha)⟩
theorem call_core {F : Fn} {n : Nat} {t : TA} {fl : List LOp} (hn : fl.length = n) (h : ∀ O W σ H ρ R, SR (gx X cl) vs0 O W σ H ρ → AftK (gx X cl) vs0 Wx O W σ H R (cargs fl ρ) → t σ H R) :
    ∀ O W σ H ρ Q (R : List V → Hp → Prop), SR (gx X cl) vs0 O W σ H ρ → AftE (gx X cl) vs0 Wx O W σ H Q (xCall F fl ρ) → (∀ vs H1, (spF (gx X cl) n F vs H1 Q fun c d H' => Wx c d σ H') → R vs H1) → t σ H R := by
  intro O W σ H ρ Q R sr hw hR
  refine h O W σ H ρ _ sr ?_
  have clen : ∀ {fl : List LOp} {ρ : List SD} {p : List (SD × Option Nat) × List SD}, cargs fl ρ = .ok p → p.1.length = fl.length := by
    intro fl
    induction fl with
    | nil => intro ρ p e; cases e; rfl
    | cons o fl ih =>
      intro ρ p e
      cases o with
      | va i =>
        have e : ((argOf ρ i).bind fun _ => (cargs fl ρ).bind fun p => (argOf p.2 i).bind fun s => .ok ((s, some i) :: p.1, p.2)) = .ok p := e
        cases e0 : argOf ρ i with
        | bad => rw [e0] at e; cases e
        | exc c fs ρ' => rw [e0] at e; cases e
        | ok d0 =>
          rw [e0] at e
          have e : ((cargs fl ρ).bind fun p => (argOf p.2 i).bind fun s => .ok ((s, some i) :: p.1, p.2)) = .ok p := e
          cases e1 : cargs fl ρ with
          | bad => rw [e1] at e; cases e
          | exc c fs ρ' => rw [e1] at e; cases e
          | ok q =>
            rw [e1] at e
            have e : ((argOf q.2 i).bind fun s => .ok ((s, some i) :: q.1, q.2)) = .ok p := e
            cases e2 : argOf q.2 i with
            | bad => rw [e2] at e; cases e
            | exc c fs ρ' => rw [e2] at e; cases e
            | ok d =>
              rw [e2] at e
              cases e
              exact congrArg (· + 1) (ih e1)
      | ex f =>
        have e : ((f ρ).bind fun p => (cargs fl p.2).bind fun q => .ok ((.sh p.1.frz, none) :: q.1, q.2)) = .ok p := e
        cases e0 : f ρ with
        | bad => rw [e0] at e; cases e
        | exc c fs ρ' => rw [e0] at e; cases e
        | ok d0 =>
          rw [e0] at e
          have e : ((cargs fl d0.2).bind fun q => .ok ((.sh d0.1.frz, none) :: q.1, q.2)) = .ok p := e
          cases e1 : cargs fl d0.2 with
          | bad => rw [e1] at e; cases e
          | exc c fs ρ' => rw [e1] at e; cases e
          | ok q =>
            rw [e1] at e
            cases e
            exact congrArg (· + 1) (ih e1)
  unfold xCall at hw
  cases e : cargs fl ρ with
  | bad => rw [e] at hw; exact hw
  | exc c fs ρ' => rw [e] at hw; exact hw
  | ok p =>
    have hl := clen e
    obtain ⟨ps, ρ1⟩ := p
    rw [e] at hw
    have hw : AftE (gx X cl) vs0 Wx O W σ H Q (if (lent ps).Nodup then
      match F (ps.map (·.1)) with
      | .ok (r, as') => .ok (r, backAll ps as' ρ1)
      | .exc c fs as' => .exc c fs (backAll ps as' ρ1)
      | .bad => .bad
      else .bad) := hw
    intro vs O1 W1 H1 st1 sr1 hc
    split at hw
    · rename_i nd
      refine hR _ _ ⟨by rw [← hc.len]; exact hl.trans hn, O1, _, _, call_enter sr1 hc nd, ?_⟩
      cases eF : F (ps.map (·.1)) with
      | bad => rw [eF] at hw; exact hw
      | exc c fs as' =>
        rw [eF] at hw
        intro p gs O2 W2 H2 st2 sr2 hp hf
        obtain ⟨W3, st3, sr3, _⟩ := back_step sr1 hc nd st2 sr2
        exact hw p gs O2 W3 H2 (st1.trans sr.wf st3) sr3 hp hf
      | ok q =>
        obtain ⟨r, as'⟩ := q
        rw [eF] at hw
        intro v O2 W2 H2 st2 sr2 rr
        obtain ⟨W3, st3, sr3, hr⟩ := back_step sr1 hc nd st2 sr2
        exact hw v O2 W3 H2 (st1.trans sr.wf st3) sr3 (hr v r rr)
    · exact hw.elim
variable {k : Nat} {f : Addr} {fd : FuncData} {pn : List Str} {F : Fn} {x : Str} {p pos : Pos} {e : Expr} {es : List Expr} {fl : List LOp} {n : Nat}
theorem ej_call (hF : FnOk X.prog X.w X.K X.mg X.base (L2.CX X.prog X.w) k f fd pn (spF (gx X cl) n F)) (hr : Room k X.A) (hg : Gl X x) (hm : X.mg x = some (.ref f)) (hk : PySem.W.keepIn X.K (.ref f) = true) (hb : Binds X.K fd pn []) (tk : Takes X Wx)
    (h : KJ X cl vs0 Wx (e :: es) fl) (hn : fl.length = n) (hdb : (x == ("__debug__" : Str)) = false := by decide) (he : starEach (e :: es) X.env = (false, eval e X.env) :: starEach es X.env := by rfl) (hpl : (backTo pos (starEach es X.env)).any (·.1) = false := by rfl) :
    EJ X cl vs0 Wx (.Call (.Name x p) (e :: es) [] pos) (xCall F fl) := by
  obtain ⟨ts, _, pa, q⟩ := h.ex
  refine ⟨⟨_, pe_callSD (dvs := []) (ds := []) (E := fun σ c d H => Wx c d σ H) hF hr hg hm hk hb .nil (fun σ => passAt tk σ) pa hdb he hpl, fun O W σ H ρ Q sr hw => ?_⟩⟩
  have z := call_core (F := F) hn q O W σ H ρ Q _ sr hw fun _ _ h => h
  unfold tCallSD
  simp only [List.append_nil]
  exact z
end
end Wm
end
section
namespace Wm
open PySem PySem.Spec PyProof.Rows L2
section
variable {X : Cx} {cl : Cl} {vs0 : List V} {Wx : WX}
def ownSet (ρ : List SD) (i : Nat) (xs : List D) : List SD := match ρ[i]? with
  | some (.own _) => ρ.set i (.own xs)
  | some (.byr _) => ρ.set i (.byr xs)
  | _ => ρ
def SD.like (ys : List D) : SD → SD
  | .byr _ => .byr ys
  | _ => .own ys
def ownGet (ρ : List SD) (i : Nat) : Rs (List D) := match ρ[i]? with
  | some (.own xs) => .ok xs
  | some (.byr xs) => .ok xs
  | _ => .bad
theorem ownGet_noexc {ρ : List SD} {i : Nat} {c : Str} {fs : List (Str × D)} {ρ' : List SD} : ownGet ρ i ≠ .exc c fs ρ' := by
  unfold ownGet
  split <;> exact fun z => nomatch z
theorem ownGet_at {G : Gx} {O W : List Addr} {σ : L2.St} {H : Hp} {ρ : List SD} {i : Nat} {xs : List D} (sr : SR G vs0 O W σ H ρ) (h : ownGet ρ i = .ok xs) : ∃ a, σ[i]? = some (some (.ref a)) ∧ OwnAt G O W H a xs := by
  unfold ownGet at h
  split at h
  · rename_i ys e
    cases h
    exact sr.getOwn e (.inl rfl)
  · rename_i ys e
    cases h
    exact sr.getOwn e (.inr rfl)
  · cases h
theorem SR.write {G : Gx} {O W : List Addr} {σ : L2.St} {H : Hp} {ρ : List SD} {i : Nat} {xs ys : List D} {a : Addr} {vs : List V} (sr : SR G vs0 O W σ H ρ) (h : ownGet ρ i = .ok xs) (ea : σ[i]? = some (some (.ref a))) (hl : vs.length ≤ sizeLine) (hr : RpA G O H ys vs) :
    Stp O W H O W (upd H a (.lst vs)) ∧ SR G vs0 O W σ (upd H a (.lst vs)) (ownSet ρ i ys) := by
  obtain ⟨b, eb, oW, us, h2, h3, h4⟩ := ownGet_at sr h
  rw [ea] at eb; cases eb
  have trk : ∀ b, ¬ NoD H b → ¬ NoD (upd H a (.lst vs)) b := fun b hb => noD_upd hb
  have st : Stp O W H O W (upd H a (.lst vs)) := ⟨fun b o e hb _ => by rw [upd_ne (show b ≠ a from fun z => hb (by rw [z]; exact oW))]; exact e, fun _ h => .inl h, fun _ h => .inl h, trk, fun _ h _ => h⟩
  have mine : ∃ s, ρ[i]? = some s ∧ s.mine = true ∧ (s = .own xs ∨ s = .byr xs) := by
    unfold ownGet at h
    split at h
    · rename_i zs e; cases h; exact ⟨_, e, rfl, .inl rfl⟩
    · rename_i zs e; cases h; exact ⟨_, e, rfl, .inr rfl⟩
    · cases h
  obtain ⟨s0, e0, m0, hs0⟩ := mine
  have other : ∀ {j : Nat} {s : SD} {zs : List D}, j ≠ i → ρ[j]? = some s → (s = .own zs ∨ s = .byr zs) → ∃ b, σ[j]? = some (some (.ref b)) ∧ OwnAt G O W (upd H a (.lst vs)) b zs := fun {j s zs} hj e hs => by
    obtain ⟨b, eb, h1, ws, h2', h3', h4'⟩ := sr.getOwn e hs
    have hm : s.mine = true := by rcases hs with rfl | rfl <;> rfl
    have nb : b ≠ a := fun z => by
      subst z
      exact hj (sr.apart j i s s0 b e e0 hm m0 eb ea)
    exact ⟨b, eb, h1, ws, by rw [upd_ne nb]; exact h2', h3', h4'.step sr.wf st⟩
  have il : i < ρ.length := (List.getElem?_eq_some_iff.mp e0).1
  have self : OwnAt G O W (upd H a (.lst vs)) a ys := ⟨oW, vs, upd_same, hl, hr.step sr.wf st⟩
  have os : ownSet ρ i ys = ρ.set i (s0.like ys) := by
    unfold ownSet
    rcases hs0 with rfl | rfl <;> rw [e0] <;> rfl
  rw [os]
  refine ⟨st, ⟨⟨sr.wf.sub, fun b hb => trk b (sr.wf.trk b hb)⟩, by rw [List.length_set, sr.len], fun j s e => ?_, fun j k s t b e1 e2 m1 m2 s1 s2 => ?_, ⟨tabs_but sr.tabs.tc h2 (fun b u n h => by rw [upd_ne n]; exact h), fun q hq => (sr.tabs.k q hq).step sr.wf st⟩, sr.ows.write sr.wf st e0 m0 ea (fun t z => by rcases hs0 with rfl | rfl <;> cases z)⟩⟩
  · by_cases hj : i = j
    · subst hj
      rw [List.getElem?_set_self il] at e
      rw [ea]
      rcases hs0 with rfl | rfl
      · cases e
        exact ⟨a, rfl, self⟩
      · cases e
        obtain ⟨b, q1, q2, _⟩ := sr.slot i _ e0
        rw [ea] at q1; cases q1
        exact ⟨a, rfl, q2, self⟩
    · rw [List.getElem?_set_ne hj] at e
      have q := sr.slot j s e
      cases s with
      | no => trivial
      | xn c fs => obtain ⟨a, p, gs, e, x, t, n, r⟩ := q; exact ⟨a, p, gs, e, x, (st.at sr.wf t n).1, (st.at sr.wf t n).2, RpF.step sr.wf st r⟩
      | gv => exact q
      | od kvs =>
        obtain ⟨b, q1, hb, gs, h2', h4'⟩ := q
        have nb : b ≠ a := fun z => hj (sr.apart i j _ _ a e0 e (by rcases hs0 with rfl | rfl <;> rfl) rfl ea (by rw [← z]; exact join_some q1))
        exact ⟨b, q1, hb, gs, (upd_ne nb).trans h2', RpD.step sr.wf st h4'⟩
      | sh d => obtain ⟨v, ev, r⟩ := q; exact ⟨v, ev, r.step sr.wf st⟩
      | ow _ => trivial
      | own zs =>
        obtain ⟨b, eb, ob⟩ := other (Ne.symm hj) e (.inl rfl)
        exact ⟨b, by rw [eb]; rfl, ob⟩
      | byr zs =>
        obtain ⟨b, eb, ob⟩ := other (Ne.symm hj) e (.inr rfl)
        obtain ⟨c, q1, q2, _⟩ := q
        rw [eb] at q1; cases q1
        exact ⟨b, by rw [eb]; rfl, q2, ob⟩
  · have orig : ∀ {j : Nat} {s : SD}, (ρ.set i (s0.like ys))[j]? = some s → s.mine = true → ∃ s', ρ[j]? = some s' ∧ s'.mine = true := fun {j s} e m => by
      by_cases hj : i = j
      · subst hj; exact ⟨s0, e0, m0⟩
      · rw [List.getElem?_set_ne hj] at e; exact ⟨s, e, m⟩
    obtain ⟨u1, q1, q2⟩ := orig e1 m1
    obtain ⟨u2, q3, q4⟩ := orig e2 m2
    exact sr.apart j k u1 u2 b q1 q3 q2 q4 s1 s2
def setAt (xs : List D) (k : Int) (d : D) : Option (List D) := (ixN xs.length k).map fun j => xs.set j d
def storeD (ρ : List SD) (x : Nat) (k d : D) : Rs Fl := match k with
  | .int k => (ownGet ρ x).bind fun xs => match setAt xs k d with
    | some ys => .ok (.nx (ownSet ρ x ys))
    | none => .bad
  | _ => .bad
theorem RpA.set {G : Gx} {O : List Addr} {H : Hp} {d : D} {v : V} (h : Rp G O H d v) : ∀ {ds : List D} {vs : List V} (j : Nat), RpA G O H ds vs → RpA G O H (ds.set j d) (vs.set j v)
  | [], vs, j, r => by simp only [RpA] at r; subst r; simp only [List.set_nil, RpA]
  | e :: ds, vs, 0, r => by
    simp only [RpA] at r
    obtain ⟨w, us, rfl, h1, h2⟩ := r
    simp only [List.set_cons_zero, RpA]
    exact ⟨v, us, rfl, h, h2⟩
  | e :: ds, vs, j + 1, r => by
    simp only [RpA] at r
    obtain ⟨w, us, rfl, h1, h2⟩ := r
    simp only [List.set_cons_succ, RpA]
    exact ⟨w, _, rfl, h1, RpA.set h j h2⟩
def sStore (x : Nat) (f : Sx) (o : LOp) : Ss := fun ρ => (f ρ).bind fun p => (ownGet p.2 x).bind fun _ => (ops [o] p.2).bind fun q => match q.1 with
  | [k] => storeD q.2 x k p.1.frz
  | _ => .bad
theorem sj_store {x : Nat} {ex ei e : Expr} {f : Sx} {o : LOp} {pos tpos : Pos} (hx : PE X ex (tVar x)) (hi : OJ X cl vs0 Wx [ei] [o]) (h : EJ X cl vs0 Wx e f)
    (ha : ∀ v, assign (.Subscript ex ei tpos) X.env v = (do
      let ov ← holding [v] (eval ex X.env)
      let iv ← holding [v, ov] (eval ei X.env)
      standAt tpos
      holding [v, ov, iv] (setItem ov iv v)
      release [v, ov, iv] []) := by intro _; rfl)
    (hs : swapsWithSole [.Subscript ex ei tpos] e pos.line X.env = pure false := by rfl) (hw : swappedStores [.Subscript ex ei tpos] e X.env = pure none := by rfl) (h1 : (assignEach [.Subscript ex ei tpos] X.env).map (·.2) = [assign (.Subscript ex ei tpos) X.env] := by rfl) :
    SJ X cl vs0 Wx (.Assign [.Subscript ex ei tpos] e pos) (sStore x f o) := by
  obtain ⟨t, p, q⟩ := h.ex
  obtain ⟨ti, pi, qi⟩ := one_of hi
  refine ⟨⟨_, ps_asg p (pg_sub hx pi set_list ha) hs hw h1, fun O W σ H ρ E sr hw => q O W σ H ρ _ sr (e_core sr.wf hw fun v s ρ1 O1 W1 H1 sr1 rr hk => ?_)⟩⟩
  obtain ⟨O2, W2, st2, sr2, rp⟩ := rr.frz sr1
  have hk := AftS.back sr1.wf st2 hk
  have hk : AftS (gx X cl) vs0 Wx O2 W2 H1 E ((ownGet ρ1 x).bind fun _ => (ops [o] ρ1).bind fun q => match q.1 with
    | [k] => storeD q.2 x k s.frz
    | _ => .bad) := hk
  cases eg : ownGet ρ1 x with
  | bad => rw [eg] at hk; exact hk.elim
  | exc c fs ρ' => exact absurd eg ownGet_noexc
  | ok xs0 =>
    rw [eg] at hk
    obtain ⟨a, ea, _⟩ := ownGet_at sr2 eg
    refine ⟨.ref a, ea, qi O2 W2 σ H1 ρ1 (fun vs H' => match vs with
      | [y] => rSetL (.ref a) y v H' fun H3 => E.nx σ H3
      | _ => False) sr2 ?_⟩
    have hk : AftS (gx X cl) vs0 Wx O2 W2 H1 E ((ops [o] ρ1).bind fun q => match q.1 with
      | [k] => storeD q.2 x k s.frz
      | _ => .bad) := hk
    cases eo : ops [o] ρ1 with
    | bad => rw [eo] at hk; exact hk
    | exc c fs ρ' => rw [eo] at hk; exact hk σ
    | ok w =>
      obtain ⟨ds, ρ2⟩ := w
      rw [eo] at hk
      intro vs O3 W3 H3 st3 sr3 ho
      have hk := AftS.back sr2.wf st3 hk
      cases ds with
      | nil => exact (show False from hk).elim
      | cons d ds =>
        cases ds with
        | cons _ _ => exact (show False from hk).elim
        | nil =>
          obtain ⟨y, rfl, h1⟩ := OpA.one ho
          have hk : AftS (gx X cl) vs0 Wx O3 W3 H3 E (storeD ρ2 x d s.frz) := hk
          cases d with
          | int k =>
            have hk : AftS (gx X cl) vs0 Wx O3 W3 H3 E ((ownGet ρ2 x).bind fun xs => match setAt xs k s.frz with
              | some ys => .ok (.nx (ownSet ρ2 x ys))
              | none => .bad) := hk
            cases eg2 : ownGet ρ2 x with
            | bad => rw [eg2] at hk; exact hk.elim
            | exc c fs ρ' => exact absurd eg2 ownGet_noexc
            | ok xs =>
              rw [eg2] at hk
              have hk : AftS (gx X cl) vs0 Wx O3 W3 H3 E (match setAt xs k s.frz with
                | some ys => .ok (.nx (ownSet ρ2 x ys))
                | none => .bad) := hk
              obtain ⟨b, eb, oW, us, h2, h3, h4⟩ := ownGet_at sr3 eg2
              rw [ea] at eb; cases eb
              unfold setAt at hk
              rw [h4.length] at hk
              cases ej : ixN us.length k with
              | none => rw [ej] at hk; exact hk.elim
              | some j =>
                rw [ej] at hk
                have rv := rp.step sr2.wf st3
                obtain ⟨st4, sr4⟩ := sr3.write (vs := us.set j v) eg2 ea (by rw [List.length_set]; exact h3) (h4.set rv j)
                exact ⟨a, us, k, j, rfl, h1.int, h2, ej, hk σ O3 W3 _ st4 sr4⟩
          | _ => exact hk.elim
def sApp (x : Nat) (f : Sx) : Ss := fun ρ => (ownGet ρ x).bind fun _ => (f ρ).bind fun p => (ownGet p.2 x).bind fun xs => if xs.length < sizeLine then .ok (.nx (ownSet p.2 x (xs ++ [p.1.frz]))) else .bad
def xCallT (F : Fn) (f : Sx) : Sx := fun ρ => (f ρ).bind fun p => match p.1 with
  | .own xs => match F [.byr xs] with
    | .ok (r, _) => .ok (r, p.2)
    | .exc c fs _ => .exc c fs p.2
    | .bad => .bad
  | _ => .bad
theorem ej_callT {k : Nat} {f : Addr} {fd : FuncData} {pn : List Str} {F : Fn} {x : Str} {p pos : Pos} {e : Expr} {fx : Sx} (hF : FnOk X.prog X.w X.K X.mg X.base (L2.CX X.prog X.w) k f fd pn (spF (gx X cl) 1 F)) (hr : Room k X.A) (hg : Gl X x) (hm : X.mg x = some (.ref f)) (hk : PySem.W.keepIn X.K (.ref f) = true) (hb : Binds X.K fd pn []) (tk : Takes X Wx)
    (h : EJ X cl vs0 Wx e fx) (hdb : (x == ("__debug__" : Str)) = false := by decide) (he : starEach [e] X.env = (false, eval e X.env) :: starEach [] X.env := by rfl) (hpl : (backTo pos (starEach [] X.env)).any (·.1) = false := by rfl) :
    EJ X cl vs0 Wx (.Call (.Name x p) [e] [] pos) (xCallT F fx) := by
  obtain ⟨t, pe, q⟩ := h.ex
  refine ⟨⟨_, pe_callSD (dvs := []) (ds := []) (E := fun σ c d H => Wx c d σ H) hF hr hg hm hk hb .nil (fun σ => passAt tk σ) (pa_cons pe pa_nil he) hdb he hpl, fun O W σ H ρ Q sr hw => ?_⟩⟩
  unfold xCallT at hw
  refine q O W σ H ρ _ sr ?_
  cases ef : fx ρ with
  | bad => rw [ef] at hw; exact hw
  | exc c fs ρ' => rw [ef] at hw; exact hw
  | ok w =>
    obtain ⟨s, ρ1⟩ := w
    rw [ef] at hw
    intro v O1 W1 H1 st1 sr1 rr
    cases s with
    | sh d => exact hw.elim
    | no => exact hw.elim
    | xn _ _ => exact hw.elim
    | gv => exact hw.elim
    | od _ => exact hw.elim
    | ow _ => exact hw.elim
    | byr xs => exact hw.elim
    | own xs =>
      have hw : AftE (gx X cl) vs0 Wx O W σ H Q (match F [.byr xs] with
        | .ok (r, _) => .ok (r, ρ1)
        | .exc c fs _ => .exc c fs ρ1
        | .bad => .bad) := hw
      obtain ⟨a, ev, oa, na⟩ := rr
      subst ev
      -- the callee's world: the list alone
      have en : SR (gx X cl) [.ref a] O1 [a] ([V.ref a].map some) H1 [.byr xs] := by
        refine ⟨⟨fun b hb => ?_, sr1.wf.trk⟩, rfl, fun i s e => ?_, fun i j s t b e1 e2 m1 m2 s1 s2 => ?_, sr1.tabs, OwS.nil fun i t e => by cases i <;> cases e⟩
        · have : b = a := by simpa using hb
          rw [this]; exact sr1.wf.sub a oa.1
        · cases i with
          | zero =>
            cases e
            exact ⟨a, rfl, rfl, by simp, oa.2⟩
          | succ i => cases e
        · cases i with
          | zero =>
            cases j with
            | zero => rfl
            | succ j => cases e2
          | succ i => cases e1
      have back : ∀ {O2 W2 : List Addr} {H2 : Hp}, Stp O1 [a] H1 O2 W2 H2 → Wf O2 W2 H2 → KT (gx X cl) O2 H2 → ∃ W3, Stp O1 W1 H1 O2 W3 H2 ∧ SR (gx X cl) vs0 O2 W3 σ H2 ρ1 ∧ (∀ b ∈ W2, b ∈ W3) ∧ ∀ b ∈ W2, Fre (gx X cl) O2 W3 σ H2 ρ1 b := fun {O2 W2 H2} st w2 tb => by
        have mW : ∀ {b : Addr}, b ∈ W2 ++ W1.filter (fun b => decide (b ≠ a)) ↔ b ∈ W2 ∨ (b ∈ W1 ∧ b ≠ a) := by
          intro b
          rw [List.mem_append, List.mem_filter, decide_eq_true_eq]
        have st3 : Stp O1 W1 H1 O2 (W2 ++ W1.filter (fun b => decide (b ≠ a))) H2 := ⟨fun b o e hb ht => st.keep b o e (fun z => hb (by rw [show b = a by simpa using z]; exact oa.1)) ht, fun b hb => by
          rcases mW.mp hb with z | z
          · rcases st.wnew b z with y | y
            · exact .inl (by rw [show b = a by simpa using y]; exact oa.1)
            · exact .inr y
          · exact .inl z.1, st.onew, st.trk, fun b hb hn => st.ofz b hb fun z => hn (by rw [show b = a by simpa using z]; exact oa.1)⟩
        have wf3 : Wf O2 (W2 ++ W1.filter (fun b => decide (b ≠ a))) H2 := ⟨fun b hb => by
          rcases mW.mp hb with z | z
          · exact w2.sub b z
          · exact st.ofz b (sr1.wf.sub b z.1) (by simpa using z.2), w2.trk⟩
        have own3 : ∀ {i : Nat} {s : SD} {zs : List D}, ρ1[i]? = some s → (s = .own zs ∨ s = .byr zs) → ∃ b, σ[i]? = some (some (.ref b)) ∧ b ≠ a ∧ OwnAt (gx X cl) O2 (W2 ++ W1.filter (fun b => decide (b ≠ a))) H2 b zs := fun {i s zs} e hs => by
          obtain ⟨b, eb, h1, us, h2, h3, h4⟩ := sr1.getOwn e hs
          have nb : b ≠ a := fun z => na.m i s e (by rcases hs with rfl | rfl <;> rfl) (by rw [← z]; exact eb)
          exact ⟨b, eb, nb, mW.mpr (.inr ⟨h1, nb⟩), us, st.keep b _ h2 (by simpa using nb) (fun _ z => by cases z), h3, h4.step en.wf st⟩
        have owk : ∀ {i : Nat} {t : OT} {v : V} {fp : List Addr}, ρ1[i]? = some (.ow t) → σ[i]? = some (some v) → OwT (gx X cl) O1 W1 H1 t v fp → OwT (gx X cl) O2 (W2 ++ W1.filter (fun b => decide (b ≠ a))) H2 t v fp := fun {i t v fp} e ev o =>
          o.go en.wf st fun b hb => by
            have nb : b ≠ a := fun z => na.t i t v fp e ev o (z ▸ hb)
            exact ⟨mW.mpr (.inr ⟨o.sub b hb, nb⟩), fun x ex => st.keep b _ ex (by simpa using nb) (fun _ z => by cases z)⟩
        refine ⟨_, st3, ⟨wf3, sr1.len, fun i s e => ?_, sr1.apart, tb, sr1.ows.map fun i t v fp e ev o => owk e ev o⟩, fun b hb => mW.mpr (.inl hb), fun b hb => ⟨fun i s e m z => ?_, fun i u v fp e ev o hb' => ?_⟩⟩
        · have qs := sr1.slot i s e
          cases s with
          | no => trivial
          | xn c fs => obtain ⟨a, p, gs, e, x, t, n, r⟩ := qs; exact ⟨a, p, gs, e, x, (st.at en.wf t n).1, (st.at en.wf t n).2, RpF.step en.wf st r⟩
          | gv => exact qs
          | od kvs =>
            obtain ⟨b, q1, hb, gs, h2, h4⟩ := qs
            have nb : b ≠ a := fun z => na.m i _ e rfl (by rw [← z]; exact join_some q1)
            exact ⟨b, q1, mW.mpr (.inr ⟨hb, nb⟩), gs, st.keep b _ h2 (by simpa using nb) (fun _ z => by cases z), RpD.step en.wf st h4⟩
          | sh d => obtain ⟨u, eu, r⟩ := qs; exact ⟨u, eu, r.step en.wf st⟩
          | ow _ => trivial
          | own zs =>
            obtain ⟨b, eb, _, ob⟩ := own3 e (.inl rfl)
            exact ⟨b, by rw [eb]; rfl, ob⟩
          | byr zs =>
            obtain ⟨b, eb, _, ob⟩ := own3 e (.inr rfl)
            obtain ⟨c, q1, q2, _⟩ := qs
            rw [eb] at q1; cases q1
            exact ⟨b, by rw [eb]; rfl, q2, ob⟩
        · obtain ⟨c, ec, h1⟩ := sr1.mineW e m
          have nc : c ≠ a := fun y => na.m i s e m (by rw [← y]; exact ec)
          rw [z] at ec
          cases ec
          rcases st.wnew b hb with y | y
          · exact nc (by simpa using y)
          · exact sr1.wf.trk b (sr1.wf.sub b h1) y
        · obtain ⟨φ, w1, _, _⟩ := sr1.ows
          obtain ⟨v', ev', o'⟩ := w1 i u e
          rw [ev] at ev'; cases ev'
          rw [OwT.det o (owk e ev o')] at hb'
          rcases st.wnew b hb with y | y
          · exact na.t i u v _ e ev o' (by rw [← show b = a by simpa using y]; exact hb')
          · exact sr1.wf.trk b (sr1.wf.sub b (o'.sub b hb')) y
      refine ⟨rfl, O1, [a], [.byr xs], en, ?_⟩
      cases eF : F [.byr xs] with
      | bad => rw [eF] at hw; exact hw
      | exc c fs as' =>
        rw [eF] at hw
        intro p gs O2 W2 H2 st2 sr2 hp hf
        obtain ⟨W3, st3, sr3, _⟩ := back st2 sr2.wf sr2.tabs
        exact hw p gs O2 W3 H2 (st1.trans sr.wf st3) sr3 hp hf
      | ok qq =>
        obtain ⟨r, as'⟩ := qq
        rw [eF] at hw
        intro u O2 W2 H2 st2 sr2 rr2
        obtain ⟨W3, st3, sr3, sub, np⟩ := back st2 sr2.wf sr2.tabs
        refine hw u O2 W3 H2 (st1.trans sr.wf st3) sr3 ?_
        cases r with
        | sh d => exact rr2
        | xn _ _ => exact rr2
        | gv => exact rr2
        | no => exact rr2
        | byr ys => exact rr2
        | own ys =>
          obtain ⟨b, eb, ob, _⟩ := rr2
          exact ⟨b, eb, ⟨sub b ob.1, ob.2⟩, np b ob.1⟩
        | od ys =>
          obtain ⟨b, eb, ob, _⟩ := rr2
          exact ⟨b, eb, ⟨sub b ob.1, ob.2⟩, np b ob.1⟩
        | ow t =>
          obtain ⟨fp, o, _⟩ := rr2
          exact ⟨fp, o.less (fun _ h => h) fun b hb => sub b (o.sub b hb), fun b hb => np b (o.sub b hb)⟩
end
end Wm
end
section
namespace Wm
open PySem PySem.Spec PyProof.Rows L2
section
variable {X : Cx} {cl : Cl} {vs0 : List V} {Wx : WX} {a b e : Expr} {pos : Pos} {fl : List LOp}
theorem lj_va {i : Nat} (h : PE X e (tVar i)) : LJ X cl vs0 Wx e (.va i) := h
theorem lj_ex {f : Sx} (h : EJ X cl vs0 Wx e f) : LJ X cl vs0 Wx e (.ex f) := h
theorem tj_gt (h : OJ X cl vs0 Wx [a, b] fl) : TJ X cl vs0 Wx (.Compare a [.Gt] [b] pos) (bT (xPrim fl pGt)) := tj_cmp op_gt (pr_I0 fun _ _ _ _ _ => by simp only [Rp]) h (nomark _)
theorem tj_ne (hu : X.A.units + 64 < cLine) (h : OJ X cl vs0 Wx [a, b] fl) : TJ X cl vs0 Wx (.Compare a [.NotEq] [b] pos) (bT (xPrim fl pNe)) := tj_cmp (op_neD hu) pr_ne h (nomark _)
def sPar (i j : Nat) (f g : Sx) : Ss := fun ρ => (mops [f, g] ρ).bind fun q => match q.1 with
  | [d, e] => .ok (.nx ((q.2.set i (.sh d)).set j (.sh e)))
  | _ => .bad
end
end Wm
end
section
namespace Wm
open PySem PySem.Spec PyProof.Rows L2
variable {α β : Type}
@[simp] theorem bind_bad (f : α → Rs β) : (Rs.bad : Rs α).bind f = .bad := (rfl)
@[simp] theorem bind_exc (c : Str) (fs : List (Str × D)) (ρ : List SD) (f : α → Rs β) : (Rs.exc c fs ρ : Rs α).bind f = .exc c fs ρ := (rfl)
def Rs.leave (n : Nat) : Rs Fl → Rs (SD × List SD)
  | .ok (.rt r ρ') => .ok (r, trim n ρ')
  | .ok (.nx ρ') => .ok (.sh .non, trim n ρ')
  | .exc c fs ρ' => .exc c fs (trim n ρ')
  | _ => .bad
@[simp] theorem bodyF_ap (N : Nat) (g : Ss) (as : List SD) : bodyF N g as = (g (as ++ List.replicate (N - as.length) .no)).leave as.length := by
  unfold bodyF Rs.leave
  cases g (as ++ List.replicate (N - as.length) .no) with
  | ok fl => cases fl <;> rfl
  | exc c fs ρ => rfl
  | bad => rfl
def Rs.home (ps : List (SD × Option Nat)) (ρ : List SD) : Rs (SD × List SD) → Rs (SD × List SD)
  | .ok (r, as') => .ok (r, backAll ps as' ρ)
  | .exc c fs as' => .exc c fs (backAll ps as' ρ)
  | .bad => .bad
@[simp] theorem xCall_ap (F : Fn) (fl : List LOp) (ρ : List SD) : xCall F fl ρ = (cargs fl ρ).bind fun p => if (lent p.1).Nodup then (F (p.1.map (·.1))).home p.1 p.2 else .bad := by
  unfold xCall
  refine congrArg _ (funext fun p => ?_)
  split
  · cases F (p.1.map (·.1)) with
    | ok q => rfl
    | exc c fs ρ => rfl
    | bad => rfl
  · rfl
def Rs.homeT (ρ : List SD) : Rs (SD × List SD) → Rs (SD × List SD)
  | .ok (r, _) => .ok (r, ρ)
  | .exc c fs _ => .exc c fs ρ
  | .bad => .bad
def ownArg (F : Fn) (ρ : List SD) : SD → Rs (SD × List SD)
  | .own xs => (F [.byr xs]).homeT ρ
  | _ => .bad
@[simp] theorem xCallT_ap (F : Fn) (f : Sx) (ρ : List SD) : xCallT F f ρ = (f ρ).bind fun p => ownArg F p.2 p.1 := by
  unfold xCallT
  refine congrArg _ (funext fun p => ?_)
  cases p.1 with
  | own xs =>
    dsimp only
    show _ = (F [.byr xs]).homeT p.2
    cases F [.byr xs] with
    | ok q => rfl
    | exc c fs ρ => rfl
    | bad => rfl
  | sh d => rfl
  | no => rfl
  | byr xs => rfl
  | xn _ _ => rfl
  | gv => rfl
  | od _ => rfl
  | ow _ => rfl
def Fl.next (h : Ss) : Fl → Rs Fl
  | .nx ρ' => h ρ'
  | fl => .ok fl
@[simp] theorem sSeq_ap (g h : Ss) (ρ : List SD) : sSeq g h ρ = (g ρ).bind (Fl.next h) := by
  unfold sSeq
  refine congrArg _ (funext fun fl => ?_)
  cases fl <;> rfl
@[simp] theorem sNil_ap (ρ : List SD) : sNil ρ = .ok (.nx ρ) := (rfl)
@[simp] theorem sEx_ap (f : Sx) (ρ : List SD) : sEx f ρ = (f ρ).bind fun p => .ok (.nx p.2) := (rfl)
@[simp] theorem sSet_ap (i : Nat) (f : Sx) (ρ : List SD) : sSet i f ρ = (f ρ).bind fun p => .ok (.nx (p.2.set i p.1)) := (rfl)
@[simp] theorem sRet_ap (f : Sx) (ρ : List SD) : sRet f ρ = (f ρ).bind fun p => .ok (.rt p.1 p.2) := (rfl)
def retV (i : Nat) (ρ : List SD) : Option SD → Rs Fl
  | some (.sh d) => .ok (.rt (.sh d) ρ)
  | some (.own xs) => .ok (.rt (.own xs) (ρ.set i .no))
  | some (.byr xs) => .ok (.rt (.sh (.lst xs)) (ρ.set i (.sh (.lst xs))))
  | some (.od kvs) => .ok (.rt (.od kvs) (ρ.set i .no))
  | some (.ow t) => .ok (.rt (.ow t) (ρ.set i .no))
  | _ => .bad
@[simp] theorem sRetV_ap (i : Nat) (ρ : List SD) : sRetV i ρ = retV i ρ ρ[i]? := by
  unfold sRetV retV
  split <;> first | rfl | (split <;> first | rfl | simp_all)
@[simp] theorem sIf_ap (t : Sb) (g h : Ss) (ρ : List SD) : sIf t g h ρ = (t ρ).bind fun p => if p.1 then g p.2 else h p.2 := (rfl)
@[simp] theorem xIf_ap (t : Sb) (f g : Sx) (ρ : List SD) : xIf t f g ρ = (t ρ).bind fun p => if p.1 then f p.2 else g p.2 := (rfl)
@[simp] theorem xC_ap (d : D) (ρ : List SD) : xC d ρ = .ok (.sh d, ρ) := (rfl)
def varV (i : Nat) (ρ : List SD) : Option SD → Rs (SD × List SD)
  | some (.sh d) => .ok (.sh d, ρ)
  | some (.own xs) => .ok (.sh (.lst xs), ρ.set i (.sh (.lst xs)))
  | some (.byr xs) => .ok (.sh (.lst xs), ρ.set i (.sh (.lst xs)))
  | some (.od kvs) => .ok (.sh (.dct kvs), ρ.set i (.sh (.dct kvs)))
  | some (.ow t) => .ok (.sh t.dt, ρ.set i (.sh t.dt))
  | _ => .bad
@[simp] theorem xVar_ap (i : Nat) (ρ : List SD) : xVar i ρ = varV i ρ ρ[i]? := by
  unfold xVar varV
  split <;> first | rfl | (split <;> first | rfl | simp_all)
def lookO : Option SD → Rs D
  | some (.sh d) => .ok d
  | some (.own xs) => .ok (.lst xs)
  | some (.byr xs) => .ok (.lst xs)
  | _ => .bad
@[simp] theorem lookD_ap (ρ : List SD) (i : Nat) : lookD ρ i = lookO ρ[i]? := by
  unfold lookD lookO
  split <;> first | rfl | (split <;> first | rfl | simp_all)
def argO : Option SD → Rs SD
  | some (.sh d) => .ok (.sh d)
  | some (.own xs) => .ok (.byr xs)
  | some (.byr xs) => .ok (.byr xs)
  | _ => .bad
@[simp] theorem argOf_ap (ρ : List SD) (i : Nat) : argOf ρ i = argO ρ[i]? := by
  unfold argOf argO
  split <;> first | rfl | (split <;> first | rfl | simp_all)
@[simp] theorem ops_nil (ρ : List SD) : ops [] ρ = .ok ([], ρ) := (rfl)
@[simp] theorem ops_va (i : Nat) (r : List LOp) (ρ : List SD) : ops (.va i :: r) ρ = (lookD ρ i).bind fun _ => (ops r ρ).bind fun p => (lookD p.2 i).bind fun d => .ok (d :: p.1, p.2) := (rfl)
@[simp] theorem ops_ex (f : Sx) (r : List LOp) (ρ : List SD) : ops (.ex f :: r) ρ = (f ρ).bind fun p => (ops r p.2).bind fun q => .ok (p.1.frz :: q.1, q.2) := (rfl)
@[simp] theorem cargs_nil (ρ : List SD) : cargs [] ρ = .ok ([], ρ) := (rfl)
@[simp] theorem cargs_va (i : Nat) (r : List LOp) (ρ : List SD) : cargs (.va i :: r) ρ = (argOf ρ i).bind fun _ => (cargs r ρ).bind fun p => (argOf p.2 i).bind fun s => .ok ((s, some i) :: p.1, p.2) := (rfl)
@[simp] theorem cargs_ex (f : Sx) (r : List LOp) (ρ : List SD) : cargs (.ex f :: r) ρ = (f ρ).bind fun p => (cargs r p.2).bind fun q => .ok ((.sh p.1.frz, none) :: q.1, q.2) := (rfl)
@[simp] theorem mops_nil (ρ : List SD) : mops [] ρ = .ok ([], ρ) := (rfl)
@[simp] theorem mops_cons (f : Sx) (r : List Sx) (ρ : List SD) : mops (f :: r) ρ = (f ρ).bind fun p => (mops r p.2).bind fun q => .ok (p.1.frz :: q.1, q.2) := (rfl)
@[simp] theorem xPrim_ap (fl : List LOp) (p : List D → Rs SD) (ρ : List SD) : xPrim fl p ρ = (ops fl ρ).bind fun q => (p q.1).fin q.2 := (rfl)
@[simp] theorem xLst_ap (fs : List Sx) (ρ : List SD) : xLst fs ρ = (mops fs ρ).bind fun q => if q.1.length ≤ sizeLine then .ok (.own q.1, q.2) else .bad := (rfl)
@[simp] theorem xTup_ap (fs : List Sx) (ρ : List SD) : xTup fs ρ = (mops fs ρ).bind fun q => if q.1.length ≤ sizeLine then .ok (.sh (.tup q.1), q.2) else .bad := (rfl)
@[simp] theorem bT_ap (f : Sx) (ρ : List SD) : bT f ρ = (f ρ).tst := (rfl)
def truL (ρ : List SD) : List D → Rs (Bool × List SD)
  | [d] => match truD d with
    | some b => .ok (b, ρ)
    | none => .bad
  | _ => .bad
@[simp] theorem bTru_ap (fl : List LOp) (ρ : List SD) : bTru fl ρ = (ops fl ρ).bind fun q => truL q.2 q.1 := by
  unfold bTru truL
  congr 1
@[simp] theorem bAnd_ap (f g : Sb) (ρ : List SD) : bAnd f g ρ = (f ρ).bind fun p => if p.1 then g p.2 else .ok (false, p.2) := (rfl)
@[simp] theorem bOr_ap (f g : Sb) (ρ : List SD) : bOr f g ρ = (f ρ).bind fun p => if p.1 then .ok (true, p.2) else g p.2 := (rfl)
@[simp] theorem bNot_ap (f : Sb) (ρ : List SD) : bNot f ρ = (f ρ).bind fun p => .ok (!p.1, p.2) := (rfl)
@[simp] theorem xAnd_ap (f g : Sx) (ρ : List SD) : xAnd f g ρ = (f ρ).tst.bind fun p => if p.1 then g p.2 else .ok (.sh (.bl false), p.2) := (rfl)
@[simp] theorem xOr_ap (f g : Sx) (ρ : List SD) : xOr f g ρ = (f ρ).tst.bind fun p => if p.1 then .ok (.sh (.bl true), p.2) else g p.2 := (rfl)
@[simp] theorem xNot_ap (f : Sx) (ρ : List SD) : xNot f ρ = (f ρ).tst.bind fun p => .ok (.sh (.bl (!p.1)), p.2) := (rfl)
def par2 (i j : Nat) (ρ : List SD) : List D → Rs Fl
  | [d, e] => .ok (.nx ((ρ.set i (.sh d)).set j (.sh e)))
  | _ => .bad
@[simp] theorem sPar_ap (i j : Nat) (f g : Sx) (ρ : List SD) : sPar i j f g ρ = (mops [f, g] ρ).bind fun q => par2 i j q.2 q.1 := by
  unfold sPar par2
  congr 1
def ownO : Option SD → Rs (List D)
  | some (.own xs) => .ok xs
  | some (.byr xs) => .ok xs
  | _ => .bad
@[simp] theorem ownGet_ap (ρ : List SD) (i : Nat) : ownGet ρ i = ownO ρ[i]? := by
  unfold ownGet ownO
  split <;> first | rfl | (split <;> first | rfl | simp_all)
def ownP (ρ : List SD) (i : Nat) (xs : List D) : Option SD → List SD
  | some (.own _) => ρ.set i (.own xs)
  | some (.byr _) => ρ.set i (.byr xs)
  | _ => ρ
@[simp] theorem ownSet_ap (ρ : List SD) (i : Nat) (xs : List D) : ownSet ρ i xs = ownP ρ i xs ρ[i]? := by
  unfold ownSet ownP
  split <;> first | rfl | (split <;> first | rfl | simp_all)
def putO (ρ : List SD) (x : Nat) : Option (List D) → Rs Fl
  | some ys => .ok (.nx (ownSet ρ x ys))
  | none => .bad
@[simp] theorem storeD_int (ρ : List SD) (x : Nat) (k : Int) (d : D) : storeD ρ x (.int k) d = (ownGet ρ x).bind fun xs => putO ρ x (setAt xs k d) := by
  unfold storeD putO
  congr 1
def storeL (x : Nat) (d : D) (ρ : List SD) : List D → Rs Fl
  | [k] => storeD ρ x k d
  | _ => .bad
@[simp] theorem sStore_ap (x : Nat) (f : Sx) (o : LOp) (ρ : List SD) : sStore x f o ρ = (f ρ).bind fun p => (ownGet p.2 x).bind fun _ => (ops [o] p.2).bind fun q => storeL x p.1.frz q.2 q.1 := by
  unfold sStore storeL
  congr 1
@[simp] theorem sApp_ap (x : Nat) (f : Sx) (ρ : List SD) : sApp x f ρ = (ownGet ρ x).bind fun _ => (f ρ).bind fun p => (ownGet p.2 x).bind fun xs => if xs.length < sizeLine then .ok (.nx (ownSet p.2 x (xs ++ [p.1.frz]))) else .bad := (rfl)
def tupD (is : List Nat) (ρ : List SD) : SD → Rs Fl
  | .sh (.tup ds) => (setAll is ds ρ).bind fun ρ' => .ok (.nx ρ')
  | _ => .bad
@[simp] theorem sTup_ap (is : List Nat) (f : Sx) (ρ : List SD) : sTup is f ρ = (f ρ).bind fun p => tupD is p.2 p.1 := by
  unfold sTup tupD
  congr 1
def Fl.turn (k : List SD → Rs Fl) : Fl → Rs Fl
  | .nx ρ2 => k ρ2
  | .ct ρ2 => k ρ2
  | .bk ρ2 => .ok (.nx ρ2)
  | .rt r ρ2 => .ok (.rt r ρ2)
def forT (body : Ss) (k : List SD → Rs Fl) : Option (List SD) → Rs Fl
  | some ρ1 => (body ρ1).bind (Fl.turn k)
  | none => .bad
@[simp] theorem forL_nil (st : Tg) (body : Ss) (ρ : List SD) : forL st body [] ρ = .ok (.nx ρ) := (rfl)
@[simp] theorem forL_cons (st : Tg) (body : Ss) (d : D) (ds : List D) (ρ : List SD) : forL st body (d :: ds) ρ = forT body (forL st body ds) (st d ρ) := by
  rw [forL]
  cases st d ρ with
  | none => rfl
  | some ρ1 =>
    dsimp only
    show _ = (body ρ1).bind _
    refine congrArg _ (funext fun fl => ?_)
    cases fl <;> rfl
noncomputable def forS (st : Tg) (body : Ss) (ρ : List SD) (m : Itm) : Rs Fl := match m.bor with
  | [] => forL st body m.xs ρ
  | bs => if bs.all (fun b => b.2.isByr) then forK m st body m.xs ρ else .bad
@[simp] theorem forS_byr (st : Tg) (body : Ss) (ρ : List SD) (xs ys : List D) (i : Nat) : forS st body ρ ⟨xs, [(i, .byr ys)]⟩ = forK ⟨xs, [(i, .byr ys)]⟩ st body xs ρ := (rfl)
@[simp] theorem forK_nil (m : Itm) (st : Tg) (body : Ss) (ρ : List SD) : forK m st body [] ρ = if m.keep ρ then .ok (.nx ρ) else .bad := (rfl)
@[simp] theorem forK_cons (m : Itm) (st : Tg) (body : Ss) (d : D) (ds : List D) (ρ : List SD) : forK m st body (d :: ds) ρ = if m.keep ρ then forT body (forK m st body ds) (st d ρ) else .bad := by
  rw [forK]
  split
  · cases st d ρ with
    | none => rfl
    | some ρ1 =>
      dsimp only
      show _ = (body ρ1).bind _
      refine congrArg _ (funext fun fl => ?_)
      cases fl <;> rfl
  · rfl
def conG (i : Nat) (ρ : List SD) : Option SD → Rs (Itm × List SD)
  | some (.sh d) => (itemsOf d).bind fun xs => .ok (⟨xs, []⟩, ρ)
  | some (.own xs) => .ok (⟨xs, []⟩, ρ.set i (.sh (.lst xs)))
  | some (.byr xs) => .ok (⟨xs, [(i, .byr xs)]⟩, ρ)
  | _ => .bad
@[simp] theorem conF_ap (i : Nat) (ρ : List SD) : conF i ρ = conG i ρ ρ[i]? := by
  unfold conF conG
  split <;> first | rfl | (split <;> first | rfl | simp_all)
@[simp] theorem conG_sh (i : Nat) (ρ : List SD) (d : D) : conG i ρ (some (.sh d)) = (itemsOf d).bind fun xs => .ok (⟨xs, []⟩, ρ) := (rfl)
@[simp] theorem conG_own (i : Nat) (ρ : List SD) (d : List D) : conG i ρ (some (.own d)) = .ok (⟨d, []⟩, ρ.set i (.sh (.lst d))) := (rfl)
@[simp] theorem conG_byr (i : Nat) (ρ : List SD) (d : List D) : conG i ρ (some (.byr d)) = .ok (⟨d, [(i, .byr d)]⟩, ρ) := (rfl)
@[simp] theorem forS_nil (st : Tg) (body : Ss) (ρ : List SD) (xs : List D) : forS st body ρ ⟨xs, []⟩ = forL st body xs ρ := (rfl)
@[simp] theorem sFor_ap (src : Src) (st : Tg) (body : Ss) (ρ : List SD) : sFor src st body ρ = (src ρ).bind fun p => forS st body p.2 p.1 := (rfl)
@[simp] theorem con_ex (f : Sx) (ρ : List SD) : con (.ex f) ρ = (f ρ).bind fun p => (itemsOf p.1.frz).bind fun xs => .ok (⟨xs, []⟩, p.2) := (rfl)
def conO (i : Nat) (ρ : List SD) : Option SD → Rs (Itm × List SD)
  | some (.sh d) => (itemsOf d).bind fun xs => .ok (⟨xs, []⟩, ρ)
  | some (.own xs) => .ok (⟨xs, [(i, .own xs)]⟩, ρ)
  | some (.byr xs) => .ok (⟨xs, [(i, .byr xs)]⟩, ρ)
  | _ => .bad
@[simp] theorem con_va (i : Nat) (ρ : List SD) : con (.va i) ρ = conO i ρ ρ[i]? := by
  unfold con conV conO
  split <;> first | rfl | (split <;> first | rfl | simp_all)
@[simp] theorem enumS_ap (src : Src) (ρ : List SD) : enumS src ρ = (src ρ).bind fun p => .ok (⟨enumD p.1.xs, p.1.bor⟩, p.2) := (rfl)
@[simp] theorem srcZip_ap (o o2 : LOp) (ρ : List SD) : srcZip o o2 ρ = (con o ρ).bind fun p => (con o2 p.2).bind fun q => if p.1.keep q.2 then .ok (⟨zipD p.1.xs q.1.xs, p.1.bor ++ q.1.bor⟩, q.2) else .bad := (rfl)
@[simp] theorem srcRng1_ap (fl : List LOp) (ρ : List SD) : srcRng1 fl ρ = (ops fl ρ).bind fun q => rng1 q.2 q.1 := (rfl)
@[simp] theorem srcRng2_ap (fl : List LOp) (ρ : List SD) : srcRng2 fl ρ = (ops fl ρ).bind fun q => rng2 q.2 q.1 := (rfl)
@[simp] theorem keep_nil (xs : List D) (ρ : List SD) : Itm.keep ⟨xs, []⟩ ρ ↔ True := ⟨fun _ => trivial, fun _ p hp => absurd hp (by simp)⟩
@[simp] theorem keep_cons (xs : List D) (i : Nat) (s : SD) (r : List (Nat × SD)) (ρ : List SD) : Itm.keep ⟨xs, (i, s) :: r⟩ ρ ↔ ρ[i]? = some s ∧ Itm.keep ⟨xs, r⟩ ρ := by
  unfold Itm.keep
  simp
def lcBack (vs : List Nat) (ρ : List SD) : Rs (List D × List SD) → Rs (SD × List SD)
  | .ok (ds, ρ') => .ok (.own ds, backR ρ ρ' vs)
  | _ => .bad
noncomputable def lcGo (st : Tg) (test : Sb) (elt : Sx) (vs : List Nat) (m : Itm) (ρ : List SD) : Rs (SD × List SD) := if m.keep (wipeR ρ vs) ∧ (∀ b ∈ m.bor, b.1 ∉ vs) then lcBack vs ρ (lcL m st test elt vs m.xs (wipeR ρ vs)) else .bad
@[simp] theorem xLc_ap (src : Src) (st : Tg) (test : Sb) (elt : Sx) (vs : List Nat) (ρ : List SD) : xLc src st test elt vs ρ = (src ρ).bind fun p => lcGo st test elt vs p.1 p.2 := by
  unfold xLc lcGo
  refine congrArg _ (funext fun p => ?_)
  split
  · unfold lcBack
    rfl
  · rfl
noncomputable def lcElt (m : Itm) (vs : List Nat) (k : List SD → Rs (List D × List SD)) : Rs (SD × List SD) → Rs (List D × List SD)
  | .ok (r, ρ3) => if m.keep (wipeR ρ3 vs) then (k (wipeR ρ3 vs)).bind fun q => .ok (r.frz :: q.1, q.2) else .bad
  | _ => .bad
noncomputable def lcTest (m : Itm) (elt : Sx) (vs : List Nat) (k : List SD → Rs (List D × List SD)) : Rs (Bool × List SD) → Rs (List D × List SD)
  | .ok (true, ρ2) => lcElt m vs k (elt ρ2)
  | .ok (false, ρ2) => if m.keep (wipeR ρ2 vs) then k (wipeR ρ2 vs) else .bad
  | _ => .bad
noncomputable def lcTg (m : Itm) (test : Sb) (elt : Sx) (vs : List Nat) (k : List SD → Rs (List D × List SD)) : Option (List SD) → Rs (List D × List SD)
  | some ρ1 => lcTest m elt vs k (test ρ1)
  | none => .bad
@[simp] theorem lcL_nil (m : Itm) (st : Tg) (test : Sb) (elt : Sx) (vs : List Nat) (ρ : List SD) : lcL m st test elt vs [] ρ = .ok ([], ρ) := (rfl)
@[simp] theorem lcL_cons (m : Itm) (st : Tg) (test : Sb) (elt : Sx) (vs : List Nat) (d : D) (ds : List D) (ρ : List SD) : lcL m st test elt vs (d :: ds) ρ = lcTg m test elt vs (lcL m st test elt vs ds) (st d ρ) := by
  rw [lcL]
  cases st d ρ with
  | none => rfl
  | some ρ1 =>
    dsimp only
    show _ = lcTest m elt vs _ (test ρ1)
    cases test ρ1 with
    | bad => rfl
    | exc c fs ρ => rfl
    | ok p =>
      obtain ⟨b, ρ2⟩ := p
      cases b with
      | false => rfl
      | true =>
        show _ = lcElt m vs _ (elt ρ2)
        dsimp only
        cases elt ρ2 with
        | bad => rfl
        | exc c fs ρ => rfl
        | ok q => rfl
end Wm
end
section
namespace Wm
open PySem PySem.Spec PyProof.Rows L2
theorem law_sp {K : PySem.W.Frag} {cl : Cl} {F : Fn} {H : Hp} {a : Addr} {ns : List Int} (hl : ns.length ≤ 63) (hS : SqL K H a (ns.map V.int)) (hT : KT (gk K cl) [] H) (hF : ∃ ρ, F [.sh (.scr ns)] = .ok (.sh (.bl true), ρ)) :
    spF (gk K cl) 1 F [.ref a] H (fun v _ => v = .bl true) fun _ _ _ => False := by
  obtain ⟨ρ, e⟩ := hF
  refine ⟨rfl, [], [], [.sh (.scr ns)], ⟨⟨fun _ h => h, fun _ h => absurd h (by simp)⟩, rfl, fun i s h => ?_, fun i j s t b h1 h2 m1 m2 _ _ => ?_, hT, OwS.nil fun i t e => by cases i <;> cases e⟩, ?_⟩
  · match i, h with
    | 0, h =>
      cases h
      refine ⟨.ref a, rfl, ?_⟩
      simp only [Rp]
      refine ⟨a, rfl, ?_, ?_⟩
      · rw [List.length_map]
        exact Nat.le_trans hl (by decide)
      · rcases hS with h | h
        · exact .inl ⟨h, by simp⟩
        · exact .inr h
    | i + 1, h => cases h
  · match i, h1 with
    | 0, h1 => cases h1; cases m1
    | i + 1, h1 => cases h1
  · rw [e]
    intro v O' W' H' _ _ r
    exact r
theorem law_cx {P : Program} {w : World} (H : Hp) (s : Shared) (e : Value) (s' : Shared) (h : L2.CX P w [] H s (fun _ _ _ => False) e s') : False := by
  obtain ⟨_, _, _, _, _, _, _, _, _, _, _, _, z⟩ := h
  exact z
end Wm
end
section
namespace Wm
open PySem PySem.Spec PyProof.Rows L2
variable {α β : Type}
@[simp] theorem bind_ok (a : α) (f : α → Rs β) : (Rs.ok a).bind f = f a := (rfl)
@[simp] theorem leave_rt (n : Nat) (r : SD) (ρ : List SD) : Rs.leave n (.ok (.rt r ρ)) = .ok (r, trim n ρ) := (rfl)
@[simp] theorem leave_nx (n : Nat) (ρ : List SD) : Rs.leave n (.ok (.nx ρ)) = .ok (.sh .non, trim n ρ) := (rfl)
@[simp] theorem home_ok (ps : List (SD × Option Nat)) (ρ : List SD) (r : SD) (as : List SD) : Rs.home ps ρ (.ok (r, as)) = .ok (r, backAll ps as ρ) := (rfl)
@[simp] theorem homeT_ok (ρ : List SD) (r : SD) (as : List SD) : Rs.homeT ρ (.ok (r, as)) = .ok (r, ρ) := (rfl)
@[simp] theorem ownArg_own (F : Fn) (ρ : List SD) (xs : List D) : ownArg F ρ (.own xs) = (F [.byr xs]).homeT ρ := (rfl)
@[simp] theorem next_nx (h : Ss) (ρ : List SD) : Fl.next h (.nx ρ) = h ρ := (rfl)
@[simp] theorem next_rt (h : Ss) (r : SD) (ρ : List SD) : Fl.next h (.rt r ρ) = .ok (.rt r ρ) := (rfl)
@[simp] theorem turn_nx (k : List SD → Rs Fl) (ρ : List SD) : Fl.turn k (.nx ρ) = k ρ := (rfl)
@[simp] theorem turn_rt (k : List SD → Rs Fl) (r : SD) (ρ : List SD) : Fl.turn k (.rt r ρ) = .ok (.rt r ρ) := (rfl)
@[simp] theorem retV_sh (i : Nat) (ρ : List SD) (d : D) : retV i ρ (some (.sh d)) = .ok (.rt (.sh d) ρ) := (rfl)
@[simp] theorem retV_own (i : Nat) (ρ : List SD) (d : List D) : retV i ρ (some (.own d)) = .ok (.rt (.own d) (ρ.set i .no)) := (rfl)
@[simp] theorem varV_sh (i : Nat) (ρ : List SD) (d : D) : varV i ρ (some (.sh d)) = .ok (.sh d, ρ) := (rfl)
@[simp] theorem varV_own (i : Nat) (ρ : List SD) (d : List D) : varV i ρ (some (.own d)) = .ok (.sh (.lst d), ρ.set i (.sh (.lst d))) := (rfl)
@[simp] theorem varV_byr (i : Nat) (ρ : List SD) (d : List D) : varV i ρ (some (.byr d)) = .ok (.sh (.lst d), ρ.set i (.sh (.lst d))) := (rfl)
@[simp] theorem lookO_sh (d : D) : lookO (some (.sh d)) = .ok d := (rfl)
@[simp] theorem lookO_own (d : List D) : lookO (some (.own d)) = .ok (.lst d) := (rfl)
@[simp] theorem lookO_byr (d : List D) : lookO (some (.byr d)) = .ok (.lst d) := (rfl)
@[simp] theorem argO_sh (d : D) : argO (some (.sh d)) = .ok (.sh d) := (rfl)
@[simp] theorem argO_own (d : List D) : argO (some (.own d)) = .ok (.byr d) := (rfl)
@[simp] theorem argO_byr (d : List D) : argO (some (.byr d)) = .ok (.byr d) := (rfl)
@[simp] theorem ownO_own (d : List D) : ownO (some (.own d)) = .ok d := (rfl)
@[simp] theorem ownO_byr (d : List D) : ownO (some (.byr d)) = .ok d := (rfl)
@[simp] theorem ownP_own (ρ : List SD) (i : Nat) (xs d : List D) : ownP ρ i xs (some (.own d)) = ρ.set i (.own xs) := (rfl)
@[simp] theorem ownP_byr (ρ : List SD) (i : Nat) (xs d : List D) : ownP ρ i xs (some (.byr d)) = ρ.set i (.byr xs) := (rfl)
@[simp] theorem putO_some (ρ : List SD) (i : Nat) (ys : List D) : putO ρ i (some ys) = .ok (.nx (ownSet ρ i ys)) := (rfl)
@[simp] theorem storeL_one (x : Nat) (d k : D) (ρ : List SD) : storeL x d ρ [k] = storeD ρ x k d := (rfl)
@[simp] theorem conO_sh (i : Nat) (ρ : List SD) (d : D) : conO i ρ (some (.sh d)) = (itemsOf d).bind fun xs => .ok (⟨xs, []⟩, ρ) := (rfl)
@[simp] theorem conO_own (i : Nat) (ρ : List SD) (d : List D) : conO i ρ (some (.own d)) = .ok (⟨d, [(i, .own d)]⟩, ρ) := (rfl)
@[simp] theorem conO_byr (i : Nat) (ρ : List SD) (d : List D) : conO i ρ (some (.byr d)) = .ok (⟨d, [(i, .byr d)]⟩, ρ) := (rfl)
@[simp] theorem items_lst (xs : List D) : itemsOf (.lst xs) = .ok xs := (rfl)
@[simp] theorem items_tup (xs : List D) : itemsOf (.tup xs) = .ok xs := (rfl)
@[simp] theorem frz_sh (d : D) : (SD.sh d).frz = d := (rfl)
@[simp] theorem frz_own (d : List D) : (SD.own d).frz = .lst d := (rfl)
@[simp] theorem fin_sh (ρ : List SD) (d : D) : Rs.fin ρ (.ok (.sh d)) = .ok (.sh d, ρ) := (rfl)
@[simp] theorem fin_own (ρ : List SD) (d : List D) : Rs.fin ρ (.ok (.own d)) = .ok (.own d, ρ) := (rfl)
@[simp] theorem fin_bad (ρ : List SD) : Rs.fin ρ .bad = .bad := (rfl)
@[simp] theorem tst_ok (b : Bool) (ρ : List SD) : Rs.tst (.ok (.sh (.bl b), ρ)) = .ok (b, ρ) := (rfl)
@[simp] theorem par2_two (i j : Nat) (ρ : List SD) (d e : D) : par2 i j ρ [d, e] = .ok (.nx ((ρ.set i (.sh d)).set j (.sh e))) := (rfl)
@[simp] theorem forT_some (body : Ss) (k : List SD → Rs Fl) (ρ : List SD) : forT body k (some ρ) = (body ρ).bind (Fl.turn k) := (rfl)
@[simp] theorem stN_ap (i : Nat) (d : D) (ρ : List SD) : stN i d ρ = some (ρ.set i (.sh d)) := (rfl)
@[simp] theorem stT_ap (is : List Nat) (ds : List D) (ρ : List SD) : stT is (.tup ds) ρ = setO is ds ρ := (rfl)
@[simp] theorem setO_nil (ρ : List SD) : setO [] [] ρ = some ρ := (rfl)
@[simp] theorem setO_cons (i : Nat) (is : List Nat) (d : D) (ds : List D) (ρ : List SD) : setO (i :: is) (d :: ds) ρ = setO is ds (ρ.set i (.sh d)) := (rfl)
@[simp] theorem tupD_tup (is : List Nat) (ρ : List SD) (ds : List D) : tupD is ρ (.sh (.tup ds)) = (setAll is ds ρ).bind fun ρ' => .ok (.nx ρ') := (rfl)
@[simp] theorem bYes_ap (ρ : List SD) : bYes ρ = .ok (true, ρ) := (rfl)
@[simp] theorem wipeR_nil (ρ : List SD) : wipeR ρ [] = ρ := (rfl)
@[simp] theorem wipeR_cons (ρ : List SD) (v : Nat) (vs : List Nat) : wipeR ρ (v :: vs) = (wipeR ρ vs).set v .no := (rfl)
@[simp] theorem backR_nil (ρ ρ' : List SD) : backR ρ ρ' [] = ρ' := (rfl)
@[simp] theorem backR_cons (ρ ρ' : List SD) (v : Nat) (vs : List Nat) : backR ρ ρ' (v :: vs) = (backR ρ ρ' vs).set v (keptSD ρ[v]?) := (rfl)
@[simp] theorem kept_sh (d : D) : keptSD (some (.sh d)) = .sh d := (rfl)
@[simp] theorem kept_no : keptSD (some .no) = .no := (rfl)
@[simp] theorem kept_own (xs : List D) : keptSD (some (.own xs)) = .no := (rfl)
@[simp] theorem lcBack_ok (vs : List Nat) (ρ : List SD) (ds : List D) (ρ' : List SD) : lcBack vs ρ (.ok (ds, ρ')) = .ok (.own ds, backR ρ ρ' vs) := (rfl)
@[simp] theorem trim_ap0 (ρ : List SD) : trim 0 ρ = [] := (rfl)
@[simp] theorem trim_ap1 (ρ : List SD) : trim 1 ρ = [trim1 (ρ[0]?.getD .no)] := (rfl)
@[simp] theorem trim_ap2 (ρ : List SD) : trim 2 ρ = [trim1 (ρ[0]?.getD .no), trim1 (ρ[1]?.getD .no)] := (rfl)
@[simp] theorem trim_ap3 (ρ : List SD) : trim 3 ρ = [trim1 (ρ[0]?.getD .no), trim1 (ρ[1]?.getD .no), trim1 (ρ[2]?.getD .no)] := (rfl)
@[simp] theorem trim1_byr (xs : List D) : trim1 (.byr xs) = .byr xs := (rfl)
@[simp] theorem trim1_own (xs : List D) : trim1 (.own xs) = .no := (rfl)
@[simp] theorem trim1_sh (d : D) : trim1 (.sh d) = .no := (rfl)
@[simp] theorem trim1_no : trim1 .no = .no := (rfl)
@[simp] theorem pI0_ev (g : Int → Int → D) (i j : Int) : pI0 g [.int i, .int j] = .ok (.sh (g i j)) := (rfl)
@[simp] theorem pI2_ev (C : Int → Int → Prop) [∀ i j, Decidable (C i j)] (g : Int → Int → D) (i j : Int) : pI2 C g [.int i, .int j] = if C i j then .ok (.sh (g i j)) else .bad := (rfl)
@[simp] theorem pAdd_int (i j : Int) : pAdd [.int i, .int j] = .ok (.sh (.int (i + j))) := (rfl)
@[simp] theorem pNeg_ev (i : Int) : pNeg [.int i] = .ok (.sh (.int (-i))) := (rfl)
@[simp] theorem cmd_iff (i j : Int) : CMd i j ↔ j ≠ 0 := Iff.rfl
def ixO : Option D → Rs SD
  | some d => .ok (.sh d)
  | none => .bad
@[simp] theorem ixO_some (d : D) : ixO (some d) = .ok (.sh d) := (rfl)
@[simp] theorem pIx_lst (xs : List D) (i : Int) : pIx [.lst xs, .int i] = ixO (atI xs i) := by
  show (match atI xs i with | some d => _ | none => _) = _
  cases atI xs i <;> rfl
@[simp] theorem pIx_tup (xs : List D) (i : Int) : pIx [.tup xs, .int i] = ixO (atI xs i) := by
  show (match atI xs i with | some d => _ | none => _) = _
  cases atI xs i <;> rfl
theorem atI_at (xs : List D) (i : Int) (d : D) (h0 : 0 ≤ i) (h : xs[i.toNat]? = some d) : atI xs i = some d := by
  have hl := (List.getElem?_eq_some_iff.mp h).1
  unfold atI ixN
  rw [if_pos h0, if_pos (by omega)]
  simpa using h
@[simp] theorem atI_0 (a : D) (r : List D) : atI (a :: r) 0 = some a := atI_at _ _ _ (by omega) rfl
@[simp] theorem atI_1 (a b : D) (r : List D) : atI (a :: b :: r) 1 = some b := atI_at _ _ _ (by omega) rfl
@[simp] theorem atI_2 (a b c : D) (r : List D) : atI (a :: b :: c :: r) 2 = some c := atI_at _ _ _ (by omega) rfl
theorem setAt_at (xs : List D) (i : Int) (d : D) (h0 : 0 ≤ i) (h : i.toNat < xs.length) : setAt xs i d = some (xs.set i.toNat d) := by
  unfold setAt ixN
  rw [if_pos h0, if_pos (by omega)]
  rfl
@[simp] theorem setAt_0 (a d : D) (r : List D) : setAt (a :: r) 0 d = some (d :: r) := setAt_at _ _ _ (by omega) (by simp)
@[simp] theorem setAt_1 (a b d : D) (r : List D) : setAt (a :: b :: r) 1 d = some (a :: d :: r) := setAt_at _ _ _ (by omega) (by simp)
@[simp] theorem setAt_2 (a b c d : D) (r : List D) : setAt (a :: b :: c :: r) 2 d = some (a :: b :: d :: r) := setAt_at _ _ _ (by omega) (by simp)
theorem pMul_int {i j : Int} (h : IntMulOk i j) : pMul [.int i, .int j] = .ok (.sh (.int (i * j))) := by
  show (if IntMulOk i j then _ else _) = _
  rw [if_pos h]
theorem mul_okL {i j : Int} (hi : i.natAbs < 2 ^ 64) : IntMulOk i j := IntMulOk.of_left (intBits_le_iff.mpr hi)
theorem mul_okR {i j : Int} (hj : j.natAbs < 2 ^ 64) : IntMulOk i j := IntMulOk.of_right (intBits_le_iff.mpr hj)
theorem cdv_small {i j : Int} (h : j ≠ 0) (hj : j.natAbs < 2 ^ 64) : CDv i j := ⟨h, (Nat.log2_lt (by omega)).mpr (Nat.lt_of_lt_of_le hj (Nat.pow_le_pow_right (by omega) (by omega)))⟩
end Wm
end
section
namespace Wm
open PySem PySem.Spec PyProof.Rows L2
variable {S : Type} {m : Itm} {st : Tg} {test : Sb} {elt : Sx} {vs : List Nat}
@[simp] theorem lcTg_some (k : List SD → Rs (List D × List SD)) (ρ : List SD) : lcTg m test elt vs k (some ρ) = lcTest m elt vs k (test ρ) := (rfl)
@[simp] theorem lcTest_true (k : List SD → Rs (List D × List SD)) (ρ : List SD) : lcTest m elt vs k (.ok (true, ρ)) = lcElt m vs k (elt ρ) := (rfl)
@[simp] theorem lcTest_false (k : List SD → Rs (List D × List SD)) (ρ : List SD) : lcTest m elt vs k (.ok (false, ρ)) = if m.keep (wipeR ρ vs) then k (wipeR ρ vs) else .bad := (rfl)
@[simp] theorem lcElt_ok (k : List SD → Rs (List D × List SD)) (r : SD) (ρ : List SD) : lcElt m vs k (.ok (r, ρ)) = if m.keep (wipeR ρ vs) then (k (wipeR ρ vs)).bind fun q => .ok (r.frz :: q.1, q.2) else .bad := (rfl)
@[simp] theorem lcGo_ap (m : Itm) (ρ : List SD) : lcGo st test elt vs m ρ = if m.keep (wipeR ρ vs) ∧ (∀ b ∈ m.bor, b.1 ∉ vs) then lcBack vs ρ (lcL m st test elt vs m.xs (wipeR ρ vs)) else .bad := (rfl)
@[simp] theorem rng1_ev (ρ : List SD) (j : Int) : rng1 ρ [.int j] = if rngOk j ∧ j.toNat ≤ sizeLine then .ok (⟨rangeD 0 j.toNat, []⟩, ρ) else .bad := (rfl)
@[simp] theorem rng2_ev (ρ : List SD) (i j : Int) : rng2 ρ [.int i, .int j] = if rngOk i ∧ rngOk j ∧ (j - i).toNat ≤ sizeLine then .ok (⟨rangeD i (j - i).toNat, []⟩, ρ) else .bad := (rfl)
@[simp] theorem pList_lst (xs : List D) : pList [.lst xs] = .ok (.own xs) := (rfl)
@[simp] theorem pTuple_lst (xs : List D) : pTuple [.lst xs] = .ok (.sh (.tup xs)) := (rfl)
@[simp] theorem pTuple_tup (xs : List D) : pTuple [.tup xs] = .ok (.sh (.tup xs)) := (rfl)
@[simp] theorem pInt_int (i : Int) : pInt [.int i] = .ok (.sh (.int i)) := (rfl)
@[simp] theorem pInt_bl (b : Bool) : pInt [.bl b] = .ok (.sh (.int (if b then 1 else 0))) := (rfl)
@[simp] theorem pLen_lst (xs : List D) : pLen [.lst xs] = .ok (.sh (.int xs.length)) := (rfl)
@[simp] theorem pLen_tup (xs : List D) : pLen [.tup xs] = .ok (.sh (.int xs.length)) := (rfl)
@[simp] theorem pEq_ev (x y : D) : pEq [x, y] = if okD x && okD y then .ok (.sh (.bl (eqD x y))) else .bad := (rfl)
@[simp] theorem pNe_ev (x y : D) : pNe [x, y] = if okD x && okD y then .ok (.sh (.bl (!eqD x y))) else .bad := (rfl)
@[simp] theorem okN_int (n : Nat) (i : Int) : okN n (.int i) = true := by cases n <;> rfl
@[simp] theorem okN_bl (n : Nat) (i : Bool) : okN n (.bl i) = true := by cases n <;> rfl
@[simp] theorem okN_non (n : Nat) : okN n .non = true := by cases n <;> rfl
@[simp] theorem okN_tup (n : Nat) (xs : List D) : okN (n + 1) (.tup xs) = okNs n xs := (rfl)
@[simp] theorem okN_lst (n : Nat) (xs : List D) : okN (n + 1) (.lst xs) = okNs n xs := (rfl)
@[simp] theorem okNs_nil (n : Nat) : okNs n [] = true := by cases n <;> rfl
@[simp] theorem okNs_cons (n : Nat) (x : D) (xs : List D) : okNs n (x :: xs) = (okN n x && okNs n xs) := by cases n <;> rfl
@[simp] theorem eqD_int (i j : Int) : eqD (.int i) (.int j) = (i == j) := (rfl)
@[simp] theorem eqD_lst (xs ys : List D) : eqD (.lst xs) (.lst ys) = eqDs xs ys := (rfl)
@[simp] theorem eqD_tup (xs ys : List D) : eqD (.tup xs) (.tup ys) = eqDs xs ys := (rfl)
@[simp] theorem eqDs_nil : eqDs [] [] = true := (rfl)
@[simp] theorem eqDs_cons (x y : D) (xs ys : List D) : eqDs (x :: xs) (y :: ys) = (eqD x y && eqDs xs ys) := (rfl)
@[simp] theorem eqDs_nil_cons (y : D) (ys : List D) : eqDs [] (y :: ys) = false := (rfl)
@[simp] theorem eqDs_cons_nil (y : D) (ys : List D) : eqDs (y :: ys) [] = false := (rfl)
@[simp] theorem lent_nil : lent [] = [] := (rfl)
@[simp] theorem lent_byr (xs : List D) (i : Nat) (r : List (SD × Option Nat)) : lent ((.byr xs, some i) :: r) = i :: lent r := (rfl)
@[simp] theorem lent_sh (d : D) (o : Option Nat) (r : List (SD × Option Nat)) : lent ((.sh d, o) :: r) = lent r := (rfl)
@[simp] theorem back_nil (as ρ : List SD) : backAll [] as ρ = ρ := (rfl)
@[simp] theorem back_byr (xs : List D) (i : Nat) (r : List (SD × Option Nat)) (s : SD) (ss ρ : List SD) : backAll ((.byr xs, some i) :: r) (s :: ss) ρ = (backAll r ss ρ).set i (backS (ρ[i]?.getD .no) s) := (rfl)
@[simp] theorem back_sh (d : D) (o : Option Nat) (r : List (SD × Option Nat)) (s : SD) (ss ρ : List SD) : backAll ((.sh d, o) :: r) (s :: ss) ρ = backAll r ss ρ := (rfl)
@[simp] theorem backS_own (xs ys : List D) : backS (.own xs) (.byr ys) = .own ys := (rfl)
@[simp] theorem backS_byr (xs ys : List D) : backS (.byr xs) (.byr ys) = .byr ys := (rfl)
@[simp] theorem setAll_nil (ρ : List SD) : setAll [] [] ρ = .ok ρ := (rfl)
@[simp] theorem setAll_cons (i : Nat) (is : List Nat) (d : D) (ds : List D) (ρ : List SD) : setAll (i :: is) (d :: ds) ρ = setAll is ds (ρ.set i (.sh d)) := (rfl)
@[simp] theorem pAdd_tup (xs ys : List D) : pAdd [.tup xs, .tup ys] = if xs.length + ys.length ≤ sizeLine then .ok (.sh (.tup (xs ++ ys))) else .bad := (rfl)
@[simp] theorem pAdd_lst (xs ys : List D) : pAdd [.lst xs, .lst ys] = if xs.length + ys.length ≤ sizeLine then .ok (.own (xs ++ ys)) else .bad := (rfl)
@[simp] theorem pAdd_scr (ns : List Int) (ys : List D) : pAdd [.scr ns, .lst ys] = if ns.length + ys.length ≤ sizeLine then .ok (.own (ns.map .int ++ ys)) else .bad := (rfl)
@[simp] theorem isi_ev (t : BT) (d : D) : pIsi t [d] = match isB t d with | some b => .ok (.sh (.bl b)) | none => .bad := (rfl)
end Wm
end
section
namespace Wm
open PySem PySem.Spec PyProof.Rows L2
variable {α : Type}
theorem cut_hi (xs : List α) (i : Int) (h : 0 ≤ i) : cutL xs none (some i) = xs.take i.toNat := by
  unfold cutL HT.sIx
  dsimp only
  rw [if_neg (by omega), List.drop_zero, Nat.sub_zero]
  by_cases h2 : i.toNat ≤ xs.length
  · rw [Nat.min_eq_left h2]
  · rw [Nat.min_eq_right (by omega), List.take_of_length_le (Nat.le_refl _), List.take_of_length_le (by omega)]
theorem slHi_lst (xs : List D) (i : Int) (h : 0 ≤ i) : pSlHi [.lst xs, .int i] = .ok (.own (xs.take i.toNat)) := by
  show Rs.ok (SD.own (cutL xs none (some i))) = _
  rw [cut_hi xs i h]
@[simp] theorem rangeD_0 (n : Nat) : rangeD 0 n = (List.range n).map fun (k : Nat) => D.int k := by
  unfold rangeD
  exact List.map_congr_left fun k _ => by rw [Int.zero_add]
def rw (m : Nat) (f : Nat → Int) : D := .tup ((List.range m).map fun j => .int (f j))
end Wm
namespace Wm
open PySem PySem.Spec PyProof.Rows L2
theorem szl : sizeLine = 16777216 := by decide
end Wm
end
section
namespace Wm
open PySem PySem.Spec PyProof.Rows L2
section
variable {X : Cx} {e : Expr} {es : List Expr} {ta : TA} {p1 p2 pos : Pos}
theorem pe_winit {x : Str} {CW : Addr} {mc : Value} {pl : Sem Bool} (hg : Gl X x) (hm : X.mg x = some (.ref CW)) (hga : PySem.W.specialIn X.K (.ref CW) "__getattribute__" = some (some (.builtin "type.__getattribute__"))) (hrd : PySem.W.readsIn X.K CW mc = true)
    (vV : PySem.W.findCls X.K (.ref CW) mc "__init__" = some (.val (.builtin "ValueError.__init__"))) (ha : PA X (e :: es) ta) (hdb : (x == ("__debug__" : Str)) = false := by decide)
    (hc : eval (.Call (.Attribute (.Name x p1) "__init__" p2) (e :: es) [] pos) X.env = (do
      let ov ← eval (.Name x p1) X.env
      standAt p2.atName
      let (f, first) ← holding [ov] (getMethod ov "__init__" pl)
      callWith pos f first (backTo pos (starEach (e :: es) X.env)) (backToKw pos (keywordEach [] X.env))) := by rfl)
    (he : starEach (e :: es) X.env = (false, eval e X.env) :: starEach es X.env := by rfl) (hpl : (backTo pos (starEach es X.env)).any (·.1) = false := by rfl) :
    PE X (.Call (.Attribute (.Name x p1) "__init__" p2) (e :: es) [] pos) (tVeI X.K ta) := by
  refine ⟨fun pins s σ H Q I h => ?_⟩
  refine PySem.W.methodCall_KW (ld_glob I hg hm ?_ hdb) hc
  refine PySem.W.method_cls I.kIn hga (PySem.W.cls_value I.kIn hrd vV (by decide +kernel) ?_)
  refine PyProof.Rows.callWith_method1 (thn (ha.run pos pins _ σ H _ (I.tok _) h) fun us s1 ⟨vs, H1, I1, r1, a, C, ws, ev, hl, T, ea, q⟩ => ?_) he hpl
  subst ev
  cases r1 with
  | @cons _ u0 _ ur ra rw' =>
    obtain rfl : u0 = Value.ref a := ra
    have hlen : ur.length ≤ sizeLine := by
      rw [← Paired.length rw', sizeLine_eq]
      omega
    exact oinit_ok T I1 ea hlen fun s' J => ⟨.non, H1, J, rfl, q⟩
end
end Wm
end
section
namespace Wm
open PySem PySem.Spec PyProof.Rows L2
def spI1 (K : PySem.W.Frag) (C : Addr) (f : Str) : Sp := fun vs H Q E => ∃ (a : Addr) (w : V), vs = [.ref a, w] ∧ OexC K C ∧ PySem.W.findIn K (.ref C) f = some none ∧ H a = some (exo a C none) ∧ ∀ dx, H dx = none → dx ≠ a → Q .non (upd (upd H dx (exd dx [(f, w)])) a (exo a C (some dx)))
theorem init1_sound {K : PySem.W.Frag} {C : Addr} {f : Str} {m : Str} {vs : List V} {H : Hp} {Q : VK} {E : XK} (h : spI1 K C f vs H Q E) :
    tSeq (tDrop (tVeI K (tCons (tVar 0) (tCons (tC (.str m)) tNil)))) (tOst K f (tVar 0) (tVar 1)) { nx := fun _ H' => Q .non H', rt := Q } (vs.map some) H := by
  obtain ⟨a, w, rfl, T, hf, ha, q⟩ := h
  refine ⟨_, rfl, a, C, _, rfl, by show 1 ≤ 1000; decide, T, ha, ?_⟩
  exact ⟨_, rfl, _, rfl, a, C, rfl, T, hf, .inl ⟨ha, fun dx n ne => q dx n ne⟩⟩
end Wm
end
section
namespace Wm
open PySem PySem.Spec PyProof.Rows L2
def excOne (c f : Str) (ρ : List SD) : List D → Rs Fl
  | [d] => .exc c [(f, d)] ρ
  | _ => .bad
def sRaise1 (c f : Str) (fx : Sx) : Ss := fun ρ => (mops [fx] ρ).bind fun q => excOne c f q.2 q.1
end Wm
end
section
namespace Wm
open PySem PySem.Spec PyProof.Rows L2
abbrev Cts := Addr → Value → Option Addr → TS
end Wm
end
section
namespace Wm
open PySem PySem.Spec PyProof.Rows L2
section
variable {G G' : Gx} {O W : List Addr} {H : Hp}
mutual
theorem Rp.re (hK : G.K = G'.K) (hc : G.cls = G'.cls) : ∀ {d : D} {v : V}, Rp G O H d v → Rp G' O H d v
  | .non, v, h => by simpa only [Rp] using h
  | .bl b, v, h => by simpa only [Rp] using h
  | .int i, v, h => by simpa only [Rp] using h
  | .str x, v, h => by simpa only [Rp] using h
  | .tup ds, v, h => by
    simp only [Rp] at h ⊢
    obtain ⟨a, vs, e, t, r⟩ := h
    exact ⟨a, vs, e, hK ▸ t, RpA.re hK hc r⟩
  | .lst ds, v, h => by
    simp only [Rp] at h ⊢
    obtain ⟨a, vs, e, t, r⟩ := h
    exact ⟨a, vs, e, hK ▸ t, RpA.re hK hc r⟩
  | .ins c fs, v, h => by
    simp only [Rp] at h ⊢
    obtain ⟨a, dx, gs, e, t, n, r⟩ := h
    exact ⟨a, dx, gs, e, hc ▸ t, n, RpF.re hK hc r⟩
  | .exn c fs, v, h => by
    simp only [Rp] at h ⊢
    obtain ⟨a, dx, gs, e, t, n, t2, n2, r⟩ := h
    exact ⟨a, dx, gs, e, hc ▸ t, n, t2, n2, RpF.re hK hc r⟩
  | .scr ns, v, h => by
    simp only [Rp] at h ⊢
    obtain ⟨a, e, t⟩ := h
    exact ⟨a, e, hK ▸ t⟩
  | .dct kvs, v, h => by
    simp only [Rp] at h ⊢
    obtain ⟨a, gs, e, t, n, r⟩ := h
    exact ⟨a, gs, e, t, n, RpD.re hK hc r⟩
theorem RpA.re (hK : G.K = G'.K) (hc : G.cls = G'.cls) : ∀ {ds : List D} {vs : List V}, RpA G O H ds vs → RpA G' O H ds vs
  | [], vs, h => by simpa only [RpA] using h
  | d :: ds, vs, h => by
    simp only [RpA] at h ⊢
    obtain ⟨v, r, e, h1, h2⟩ := h
    exact ⟨v, r, e, Rp.re hK hc h1, RpA.re hK hc h2⟩
theorem RpF.re (hK : G.K = G'.K) (hc : G.cls = G'.cls) : ∀ {ds : List (Str × D)} {vs : List (Str × V)}, RpF G O H ds vs → RpF G' O H ds vs
  | [], vs, h => by simpa only [RpF] using h
  | (n, d) :: ds, vs, h => by
    simp only [RpF] at h ⊢
    obtain ⟨v, r, e, h1, h2⟩ := h
    exact ⟨v, r, e, Rp.re hK hc h1, RpF.re hK hc h2⟩
theorem RpD.re (hK : G.K = G'.K) (hc : G.cls = G'.cls) : ∀ {ds : List (Int × D)} {vs : List (Key × V)}, RpD G O H ds vs → RpD G' O H ds vs
  | [], vs, h => by simpa only [RpD] using h
  | (n, d) :: ds, vs, h => by
    simp only [RpD] at h ⊢
    obtain ⟨v, r, e, h1, h2⟩ := h
    exact ⟨v, r, e, Rp.re hK hc h1, RpD.re hK hc h2⟩
end
def noXn : List SD → Bool
  | [] => true
  | .xn _ _ :: _ => false
  | _ :: r => noXn r
mutual
theorem OwT.re (hK : G.K = G'.K) (hc : G.cls = G'.cls) : ∀ {t : OT} {v : V} {fp : List Addr}, OwT G O W H t v fp → OwT G' O W H t v fp
  | .dat d, v, fp, h => by
    simp only [OwT] at h ⊢
    exact ⟨h.1, h.2.re hK hc⟩
  | .lst ts, v, fp, h => by
    simp only [OwT] at h ⊢
    obtain ⟨a, vs, fs, e, ef, h1, h2, h3, h4, h5⟩ := h
    exact ⟨a, vs, fs, e, ef, h1, h2, h3, h4, OwTs.re hK hc h5⟩
  | .tup ts, v, fp, h => by
    simp only [OwT] at h ⊢
    obtain ⟨a, vs, e, h3, h1, h4, h5⟩ := h
    exact ⟨a, vs, e, h3, h1, h4, OwTs.re hK hc h5⟩
theorem OwTs.re (hK : G.K = G'.K) (hc : G.cls = G'.cls) : ∀ {ts : List OT} {vs : List V} {fp : List Addr}, OwTs G O W H ts vs fp → OwTs G' O W H ts vs fp
  | [], vs, fp, h => by simpa only [OwTs] using h
  | t :: ts, vs, fp, h => by
    simp only [OwTs] at h ⊢
    obtain ⟨v, r, f, g, e, ef, h1, h2, h3⟩ := h
    exact ⟨v, r, f, g, e, ef, h1, OwT.re hK hc h2, OwTs.re hK hc h3⟩
end
end
structure Hd where
  cn : Str
  sl : Option Nat
  g : Ss
def Hd.into (h : Hd) (c : Str) (fs : List (Str × D)) (ρ : List SD) : List SD := match h.sl with
  | none => ρ
  | some i => ρ.set i (.xn c fs)
def Hd.off (h : Hd) (ρ : List SD) : List SD := match h.sl with
  | none => ρ
  | some i => ρ.set i .no
def flX (o : List SD → List SD) : Rs Fl → Rs Fl
  | .ok (.nx ρ) => if noXn (o ρ) then .ok (.nx (o ρ)) else .bad
  | .ok (.rt r ρ) => if noXn (o ρ) then .ok (.rt r (o ρ)) else .bad
  | .ok (.bk ρ) => if noXn (o ρ) then .ok (.bk (o ρ)) else .bad
  | .ok (.ct ρ) => if noXn (o ρ) then .ok (.ct (o ρ)) else .bad
  | _ => .bad
def catchS (E : Str → Str → Option Bool) : List Hd → Str → List (Str × D) → List SD → Rs Fl
  | [], c, fs, ρ => .exc c fs ρ
  | h :: r, c, fs, ρ => match E c h.cn with
    | some true => flX h.off (h.g (h.into c fs ρ))
    | some false => catchS E r c fs ρ
    | none => .bad
def sTry (E : Str → Str → Option Bool) (gb : Ss) (hs : List Hd) : Ss := fun ρ => match gb ρ with
  | .exc c fs ρ' => catchS E hs c fs ρ'
  | r => r
section
variable {X : Cx} {cl : Cl} {vs0 : List V} {Wx : WX}
def xFld (i : Nat) (cs : List Str) (f : Str) : Sx := fun ρ => match ρ[i]? with
  | some (.xn c fs) => if c ∈ cs then match fs.lookup f with
    | some d => .ok (.sh d, ρ)
    | none => .bad
    else .bad
  | _ => .bad
theorem RpF.look {G : Gx} {O : List Addr} {H : Hp} {f : Str} {d : D} : ∀ {fs : List (Str × D)} {gs : List (Str × V)}, RpF G O H fs gs → fs.lookup f = some d → ∃ v, gs.lookup f = some v ∧ Rp G O H d v
  | [], gs, _, e => by cases e
  | (n, d0) :: fs, gs, h, e => by
    simp only [RpF] at h
    obtain ⟨v, r, rfl, h1, h2⟩ := h
    rw [List.lookup_cons] at e ⊢
    by_cases hn : (f == n) = true
    · rw [hn] at e ⊢
      cases e
      exact ⟨v, rfl, h1⟩
    · rw [Bool.not_eq_true] at hn
      rw [hn] at e ⊢
      exact RpF.look h2 e
end
end Wm
end
section
namespace Wm
open PySem PySem.Spec PyProof.Rows L2
inductive SelI where
  | arg (j : Nat) | dfI (i : Int) | dfN
def pickA (as : List SD) : SelI → SD
  | .arg j => as[j]?.getD .no
  | .dfI i => .sh (.int i)
  | .dfN => .sh .non
def pickV (vs : List V) : SelI → V
  | .arg j => vs[j]?.getD .non
  | .dfI i => .int i
  | .dfN => .non
def unperm (inv : List Nat) (outs : List SD) : List SD := inv.map fun i => outs[i]?.getD .no
def permR (inv : List Nat) : Rs (SD × List SD) → Rs (SD × List SD)
  | .ok (r, outs) => .ok (r, unperm inv outs)
  | .exc c fs outs => .exc c fs (unperm inv outs)
  | .bad => .bad
def permF (sel : List SelI) (inv : List Nat) (F : Fn) : Fn := fun as => permR inv (F (sel.map (pickA as)))
structure KBs (K : PySem.W.Frag) (fd : FuncData) (ps : List Str) (n : Nat) (ks : List Str) (sel : List SelI) : Prop where
  ex : ∃ g, KBn K fd ps n ks g (fun vs zs => sel.map (pickV (vs ++ zs)))
def pickU (us : List Value) : Sum Nat Value → Value
  | .inl j => us[j]?.getD .none
  | .inr u => u
def selRel : List SelI → List (Sum Nat Value) → Prop
  | [], [] => True
  | .arg j :: r, .inl k :: t => j = k ∧ selRel r t
  | .dfI i :: r, .inr u :: t => (∃ k, u = .int i k) ∧ selRel r t
  | .dfN :: r, .inr u :: t => u = .none ∧ selRel r t
  | _, _ => False
theorem vals_get {vs : List V} {us : List Value} (h : Vals vs us) : ∀ j : Nat, RelV (vs[j]?.getD .non) (us[j]?.getD .none) := by
  induction h with
  | nil => intro j; exact rfl
  | cons h1 h2 ih =>
    intro j
    cases j with
    | zero => exact h1
    | succ j => exact ih j
theorem selRel_vals {vs : List V} {us : List Value} (h : Vals vs us) : ∀ {sel : List SelI} {su : List (Sum Nat Value)}, selRel sel su → Vals (sel.map (pickV vs)) (su.map (pickU us))
  | [], [], _ => .nil
  | .arg j :: r, .inl k :: t, q => by
    obtain ⟨rfl, q⟩ := q
    exact .cons (vals_get h j) (selRel_vals h q)
  | .dfI i :: r, .inr u :: t, q => by
    obtain ⟨⟨k, rfl⟩, q⟩ := q
    exact .cons ⟨k, rfl⟩ (selRel_vals h q)
  | .dfN :: r, .inr u :: t, q => by
    obtain ⟨rfl, q⟩ := q
    exact .cons rfl (selRel_vals h q)
theorem kbs_mk {K : PySem.W.Frag} {fd : FuncData} {ps : List Str} {n : Nat} {ks : List Str} {sel : List SelI} (su : List (Sum Nat Value)) (Dd : Addr) (dv : List (Str × Value)) (hr : selRel sel su) (hd : ∀ q ∈ dv, PySem.W.nsIn K Dd q.1 = some (some q.2))
    (h : ∀ us ws : List Value, us.length = n → ws.length = ks.length → KwChain Dd dv (bindArgs fd ⟨us, ks.zip ws⟩) (ps.zip (su.map (pickU (us ++ ws))))) : KBs K fd ps n ks sel :=
  ⟨fun us ws => su.map (pickU (us ++ ws)), ⟨fun s us ws X h1 h2 => BindsTo.of_looks fun M => KwChain.looks X hd (h us ws h1 h2), fun r1 r2 => selRel_vals (r1.append r2) hr⟩⟩
end Wm
end
section
namespace Wm
open PySem PySem.Spec PyProof.Rows L2
section
variable {X : Cx} {cl : Cl} {vs0 : List V} {Wx : WX} {a b c e : Expr} {pos p2 : Pos} {fl : List LOp}
def isrt (ns : List Int) : List Int := ns.mergeSort fun x y => decide (x ≤ y)
theorem isrt_perm (ns : List Int) : (isrt ns).Perm ns := List.mergeSort_perm ns _
theorem isrt_sorted (ns : List Int) : (isrt ns).Pairwise (· ≤ ·) := by
  have h := List.pairwise_mergeSort (le := fun (x y : Int) => decide (x ≤ y)) (fun x y z h1 h2 => by simp only [decide_eq_true_eq] at *; omega) (fun x y => by simp only [Bool.or_eq_true, decide_eq_true_eq]; omega) ns
  exact h.imp fun h => of_decide_eq_true h
theorem same_sorted {a b : List Int} (hp : a.Perm b) (ha : a.Pairwise (· ≤ ·)) (hb : b.Pairwise (· ≤ ·)) : a = b :=
  hp.eq_of_pairwise (fun x y _ _ h1 h2 => Int.le_antisymm h1 h2) ha hb
theorem isrt_of {ns ms : List Int} (h1 : ms.Perm ns) (h2 : ms.Pairwise (· ≤ ·)) : ms = isrt ns := same_sorted (h1.trans (isrt_perm ns).symm) h2 (isrt_sorted ns)
theorem isrt_self {ns : List Int} (h : ns.Pairwise (· ≤ ·)) : isrt ns = ns := (isrt_of (List.Perm.refl _) h).symm
def pIn (neg : Bool) : List D → Rs SD
  | [x, .lst ys] => if okN 60 x = true ∧ okN 60 (.lst ys) = true then .ok (.sh (.bl (neg ^^ ys.any fun y => eqD y x))) else .bad
  | _ => .bad
def pNotInR : List D → Rs SD
  | [.int i, .int n] => .ok (.sh (.bl (!decide (0 ≤ i ∧ i < n))))
  | _ => .bad
end
end Wm
end
section
namespace Wm
open PySem PySem.Spec PyProof.Rows L2
def clsBody : Stmt → List Stmt
  | .ClassDef _ _ _ b _ _ _ _ _ _ _ => b
  | _ => []
def inS (st : Stmt) (i : Nat) : Stmt := (clsBody st).getD i (.Pass ⟨0, 0, 0, 0⟩)
structure WayC (K : PySem.W.Frag) (mg : Str → Option Value) (x : Str) where
  C : Addr
  mc : Value
  m : mg x = some (.ref C)
  ga : PySem.W.specialIn K (.ref C) "__getattribute__" = some (some (.builtin "type.__getattribute__"))
  rd : PySem.W.readsIn K C mc = true
  vV : PySem.W.findCls K (.ref C) mc "__init__" = some (.val (.builtin "ValueError.__init__"))
structure ExcC (K : PySem.W.Frag) (mg : Str → Option Value) (cl : Cl) (c : Str) (fs : List Str) (qual : Str) (st : Stmt) where
  fI : Addr
  fd : FuncData
  m : mg c = some (.ref (cl.at' c))
  oex : OexC K (cl.at' c)
  nf : ∀ f ∈ fs, PySem.W.findIn K (.ref (cl.at' c)) f = some none
  iC : PySem.W.findIn K (.ref (cl.at' c)) "__init__" = some (some (.ref fI))
  tI : PySem.W.typeIn K (.ref fI) = some (.type "function")
  F : Fun K "__init__" qual st fI fd
  xf : XfC K (cl.at' c)
def AllM {α : Type} (P : α → Prop) : List α → Prop
  | [] => True
  | q :: r => P q ∧ AllM P r
abbrev Exm := List ((Str × Str) × Bool)
def ExmOk (K : PySem.W.Frag) (cl : Cl) (t : Exm) : Prop := AllM (fun q => PySem.W.exmOne K (.ref (cl.at' q.1.1)) (.ref (cl.at' q.1.2)) = some q.2) t
def clOf (l : List (Str × Addr)) (ts : TC := {}) : Cl := ⟨fun c => (l.lookup c).getD 0, fun _ => none, ts⟩
theorem passF {X : Cx} {Wx : WX} (tk : Takes X Wx) : Passes (L2.CX X.prog X.w) X (fun _ _ _ => False) := fun pins σ H s e s' I h => by
  obtain ⟨_, _, _, _, _, _, _, _, _, _, _, _, z⟩ := h
  exact z.elim
theorem spI1_len {K : PySem.W.Frag} {C : Addr} {f : Str} : ∀ vs H Q E, spI1 K C f vs H Q E → vs.length = 2 := fun vs H Q E h => by
  obtain ⟨a, w, rfl, _⟩ := h
  rfl
end Wm
end
section
namespace Wm
open PySem PySem.Spec PyProof.Rows L2
section
variable {X : Cx} {cl : Cl} {vs0 : List V} {Wx : WX} {a b c e : Expr} {pos p2 : Pos} {fl : List LOp}
def trB : D → Bool
  | .int i => i != 0
  | .bl b => b
  | _ => false
def okB : D → Bool
  | .int _ => true
  | .bl _ => true
  | _ => false
def pAnyK (f : List Bool → Bool) : List D → Rs SD
  | [.tup xs] => if xs.all okB then .ok (.sh (.bl (f (xs.map trB)))) else .bad
  | [.lst xs] => if xs.all okB then .ok (.sh (.bl (f (xs.map trB)))) else .bad
  | _ => .bad
def maxL : List Int → Int
  | [] => 0
  | [x] => x
  | x :: y :: r => let m := maxL (y :: r); if x < m then m else x
def minL : List Int → Int
  | [] => 0
  | [x] => x
  | x :: y :: r => let m := minL (y :: r); if m < x then m else x
def pMax : List D → Rs SD
  | [.int i, .int j] => .ok (.sh (.int (if i < j then j else i)))
  | [.lst ds] => match asInts ds with
    | some ns => if 0 < ns.length then .ok (.sh (.int (maxL ns))) else .bad
    | none => .bad
  | _ => .bad
def pMin : List D → Rs SD
  | [.int i, .int j] => .ok (.sh (.int (if j < i then j else i)))
  | [.lst ds] => match asInts ds with
    | some ns => if 0 < ns.length then .ok (.sh (.int (minL ns))) else .bad
    | none => .bad
  | _ => .bad
end
end Wm
end
section
namespace Wm
open PySem PySem.Spec PyProof.Rows L2
def spA (K : PySem.W.Frag) (n : Nat) (F : Fn) : Sp := fun vs H Q E => ∀ cl : Cl, cl.tabs = {} → spF (gk K cl) n F vs H Q E
theorem spA_sp {K : PySem.W.Frag} {F : Fn} {H : Hp} {a : Addr} {ns : List Int} (hl : ns.length ≤ 63) (hS : SqL K H a (ns.map V.int)) (hF : ∃ ρ, F [.sh (.scr ns)] = .ok (.sh (.bl true), ρ)) :
    spA K 1 F [.ref a] H (fun v _ => v = .bl true) fun _ _ _ => False := fun cl ht => law_sp hl hS (KT.nil ht) hF
theorem spA_ok {P : Program} {w : World} {K : PySem.W.Frag} {mg : Str → Option Value} {base : Heap} {CX : CXT} {k n : Nat} {f : Addr} {fd : FuncData} {ps : List Str} {cl : Cl} {F : Fn} (h : FnOk P w K mg base CX k f fd ps (spF (gk K cl) n F)) (ht : cl.tabs = {} := by rfl) : FnOk P w K mg base CX k f fd ps (spA K n F) := h.imp fun vs H Q E q => q cl ht
@[simp] theorem permF_ap (sel : List SelI) (inv : List Nat) (F : Fn) (as : List SD) : permF sel inv F as = permR inv (F (sel.map (pickA as))) := (rfl)
@[simp] theorem permR_ok (inv : List Nat) (r : SD) (outs : List SD) : permR inv (.ok (r, outs)) = .ok (r, inv.map fun i => outs[i]?.getD .no) := (rfl)
@[simp] theorem permR_exc (inv : List Nat) (c : Str) (fs : List (Str × D)) (outs : List SD) : permR inv (.exc c fs outs) = .exc c fs (inv.map fun i => outs[i]?.getD .no) := (rfl)
@[simp] theorem pickA_arg (as : List SD) (j : Nat) : pickA as (.arg j) = as[j]?.getD .no := (rfl)
@[simp] theorem pickA_dfI (as : List SD) (j : Int) : pickA as (.dfI j) = .sh (.int j) := (rfl)
@[simp] theorem pickA_dfN (as : List SD) : pickA as .dfN = .sh .non := (rfl)
@[simp] theorem sRaise1_ap (c f : Str) (fx : Sx) (ρ : List SD) : sRaise1 c f fx ρ = (mops [fx] ρ).bind fun q => excOne c f q.2 q.1 := (rfl)
@[simp] theorem excOne_ev (c f : Str) (ρ : List SD) (d : D) : excOne c f ρ [d] = .exc c [(f, d)] ρ := (rfl)
@[simp] theorem leave_exc (n : Nat) (c : Str) (fs : List (Str × D)) (ρ : List SD) : Rs.leave n (.exc c fs ρ) = .exc c fs (trim n ρ) := (rfl)
@[simp] theorem home_exc (ps : List (SD × Option Nat)) (ρ : List SD) (c : Str) (fs : List (Str × D)) (as : List SD) : Rs.home ps ρ (.exc c fs as) = .exc c fs (backAll ps as ρ) := (rfl)
@[simp] theorem homeT_exc (ρ : List SD) (c : Str) (fs : List (Str × D)) (as : List SD) : Rs.homeT ρ (.exc c fs as) = .exc c fs ρ := (rfl)
def tryR (E : Str → Str → Option Bool) (hs : List Hd) : Rs Fl → Rs Fl
  | .exc c fs ρ => catchS E hs c fs ρ
  | r => r
@[simp] theorem sTry_ap (E : Str → Str → Option Bool) (gb : Ss) (hs : List Hd) (ρ : List SD) : sTry E gb hs ρ = tryR E hs (gb ρ) := by
  unfold sTry tryR
  rfl
@[simp] theorem tryR_ok (E : Str → Str → Option Bool) (hs : List Hd) (fl : Fl) : tryR E hs (.ok fl) = .ok fl := (rfl)
@[simp] theorem tryR_exc (E : Str → Str → Option Bool) (hs : List Hd) (c : Str) (fs : List (Str × D)) (ρ : List SD) : tryR E hs (.exc c fs ρ) = catchS E hs c fs ρ := (rfl)
@[simp] theorem catch_nil (E : Str → Str → Option Bool) (c : Str) (fs : List (Str × D)) (ρ : List SD) : catchS E [] c fs ρ = .exc c fs ρ := (rfl)
def catchO (E : Str → Str → Option Bool) (h : Hd) (r : List Hd) (c : Str) (fs : List (Str × D)) (ρ : List SD) : Option Bool → Rs Fl
  | some true => flX h.off (h.g (h.into c fs ρ))
  | some false => catchS E r c fs ρ
  | none => .bad
@[simp] theorem catch_cons (E : Str → Str → Option Bool) (h : Hd) (r : List Hd) (c : Str) (fs : List (Str × D)) (ρ : List SD) : catchS E (h :: r) c fs ρ = catchO E h r c fs ρ (E c h.cn) := by
  unfold catchO
  rw [catchS]
  try (rcases E c h.cn with _ | b <;> first | rfl | (cases b <;> rfl))
@[simp] theorem catchO_true (E : Str → Str → Option Bool) (h : Hd) (r : List Hd) (c : Str) (fs : List (Str × D)) (ρ : List SD) : catchO E h r c fs ρ (some true) = flX h.off (h.g (h.into c fs ρ)) := (rfl)
@[simp] theorem catchO_false (E : Str → Str → Option Bool) (h : Hd) (r : List Hd) (c : Str) (fs : List (Str × D)) (ρ : List SD) : catchO E h r c fs ρ (some false) = catchS E r c fs ρ := (rfl)
@[simp] theorem into_none (cn : Str) (g : Ss) (c : Str) (fs : List (Str × D)) (ρ : List SD) : Hd.into ⟨cn, none, g⟩ c fs ρ = ρ := (rfl)
@[simp] theorem into_some (cn : Str) (i : Nat) (g : Ss) (c : Str) (fs : List (Str × D)) (ρ : List SD) : Hd.into ⟨cn, some i, g⟩ c fs ρ = ρ.set i (.xn c fs) := (rfl)
@[simp] theorem off_none (cn : Str) (g : Ss) (ρ : List SD) : Hd.off ⟨cn, none, g⟩ ρ = ρ := (rfl)
@[simp] theorem off_some (cn : Str) (i : Nat) (g : Ss) (ρ : List SD) : Hd.off ⟨cn, some i, g⟩ ρ = ρ.set i .no := (rfl)
@[simp] theorem flX_nx (o : List SD → List SD) (ρ : List SD) : flX o (.ok (.nx ρ)) = if noXn (o ρ) then .ok (.nx (o ρ)) else .bad := (rfl)
@[simp] theorem flX_rt (o : List SD → List SD) (r : SD) (ρ : List SD) : flX o (.ok (.rt r ρ)) = if noXn (o ρ) then .ok (.rt r (o ρ)) else .bad := (rfl)
@[simp] theorem noXn_nil : noXn [] = true := (rfl)
@[simp] theorem noXn_no (r : List SD) : noXn (.no :: r) = noXn r := (rfl)
@[simp] theorem noXn_sh (d : D) (r : List SD) : noXn (.sh d :: r) = noXn r := (rfl)
@[simp] theorem noXn_own (d : List D) (r : List SD) : noXn (.own d :: r) = noXn r := (rfl)
@[simp] theorem noXn_byr (d : List D) (r : List SD) : noXn (.byr d :: r) = noXn r := (rfl)
def fldO (cs : List Str) (f : Str) (ρ : List SD) : Option SD → Rs (SD × List SD)
  | some (.xn c fs) => if c ∈ cs then (match fs.lookup f with
    | some d => .ok (.sh d, ρ)
    | none => .bad) else .bad
  | _ => .bad
@[simp] theorem xFld_ap (i : Nat) (cs : List Str) (f : Str) (ρ : List SD) : xFld i cs f ρ = fldO cs f ρ ρ[i]? := by
  unfold xFld fldO
  cases ρ[i]? with
  | none => rfl
  | some s =>
    cases s with
    | xn c fs =>
      first
      | (dsimp only; done)
      | (dsimp only
         by_cases h : c ∈ cs
         · rw [if_pos h, if_pos h]
           try (cases fs.lookup f <;> rfl)
         · rw [if_neg h, if_neg h])
    | _ => rfl
@[simp] theorem fldO_one (c f : Str) (d : D) (ρ : List SD) : fldO [c] f ρ (some (.xn c [(f, d)])) = .ok (.sh d, ρ) := by
  unfold fldO
  simp
@[simp] theorem pAnyK_tup (f : List Bool → Bool) (xs : List D) : pAnyK f [.tup xs] = if xs.all okB then .ok (.sh (.bl (f (xs.map trB)))) else .bad := (rfl)
@[simp] theorem pAnyK_lst (f : List Bool → Bool) (xs : List D) : pAnyK f [.lst xs] = if xs.all okB then .ok (.sh (.bl (f (xs.map trB)))) else .bad := (rfl)
@[simp] theorem pMax_two (i j : Int) : pMax [.int i, .int j] = .ok (.sh (.int (if i < j then j else i))) := (rfl)
@[simp] theorem pMin_two (i j : Int) : pMin [.int i, .int j] = .ok (.sh (.int (if j < i then j else i))) := (rfl)
@[simp] theorem pNotInR_ev (i n : Int) : pNotInR [.int i, .int n] = .ok (.sh (.bl (!decide (0 ≤ i ∧ i < n)))) := (rfl)
@[simp] theorem pIn_ev (neg : Bool) (x : D) (ys : List D) : pIn neg [x, .lst ys] = if okN 60 x = true ∧ okN 60 (.lst ys) = true then .ok (.sh (.bl (neg ^^ ys.any fun y => eqD y x))) else .bad := (rfl)
@[simp] theorem varV_none (i : Nat) (ρ : List SD) : varV i ρ (some .no) = .bad := (rfl)
@[simp] theorem truL_one (ρ : List SD) (d : D) : truL ρ [d] = match truD d with | some b => .ok (b, ρ) | none => .bad := (rfl)
@[simp] theorem truD_bl (b : Bool) : truD (.bl b) = some b := (rfl)
@[simp] theorem truD_int (i : Int) : truD (.int i) = some (i != 0) := (rfl)
@[simp] theorem truD_non : truD .non = some false := (rfl)
@[simp] theorem truD_tup (xs : List D) : truD (.tup xs) = some (!xs.isEmpty) := (rfl)
@[simp] theorem truD_lst (xs : List D) : truD (.lst xs) = some (!xs.isEmpty) := (rfl)
@[simp] theorem eqD_bl (a b : Bool) : eqD (.bl a) (.bl b) = (a == b) := (rfl)
@[simp] theorem eqD_str (a b : Str) : eqD (.str a) (.str b) = (a == b) := (rfl)
@[simp] theorem eqD_non : eqD .non .non = true := (rfl)
@[simp] theorem okN_str (n : Nat) (x : Str) : okN n (.str x) = PyData.strOk x := by cases n <;> rfl
@[simp] theorem kept_byr (xs : List D) : keptSD (some (.byr xs)) = .no := (rfl)
@[simp] theorem tst_exc (c : Str) (fs : List (Str × D)) (ρ : List SD) : Rs.tst (.exc c fs ρ) = .exc c fs ρ := (rfl)
section
variable {S α : Type} {m : Itm} {st : Tg} {test : Sb} {elt : Sx} {vs : List Nat}
theorem lc_mapL {g f : α → D} {ρ : List SD} : ∀ {xs : List α}, (∀ x ∈ xs, ∀ k, lcTg m test elt vs k (st (g x) ρ) = (k ρ).bind fun q => .ok (f x :: q.1, q.2)) → lcL m st test elt vs (xs.map g) ρ = .ok (xs.map f, ρ)
  | [], _ => rfl
  | x :: xs, h => by
    rw [List.map_cons, lcL_cons, h x (by simp), lc_mapL fun y hy => h y (List.mem_cons_of_mem _ hy)]
    rfl
theorem enum_map {g : α → D} (xs : List α) : enumD (xs.map g) = xs.zipIdx.map fun p => D.tup [.int (p.2 : Nat), g p.1] := by
  unfold enumD
  refine List.ext_getElem? fun i => ?_
  simp only [List.getElem?_mapIdx, List.getElem?_map, List.getElem?_zipIdx]
  cases xs[i]? <;> simp
end
@[simp] theorem sWhile_ap (fuel : List SD → Nat) (t : Sb) (body : Ss) (ρ : List SD) : sWhile fuel t body ρ = whl t body (fuel ρ) ρ := (rfl)
end Wm
end
section
namespace Wm
open PySem PySem.Spec PyProof.Rows L2
section
variable {X : Cx} {cl : Cl} {vs0 : List V} {Wx : WX}
section
variable {G : Gx} {O W O' W' : List Addr} {H H' : Hp} {σ : L2.St} {ρ : List SD}
def frz1 (ρ : List SD) (i : Nat) : List SD := match ρ[i]? with
  | some (.own xs) => ρ.set i (.sh (.lst xs))
  | some (.byr xs) => ρ.set i (.sh (.lst xs))
  | _ => ρ
def frzAt : List Nat → List SD → List SD
  | [], ρ => ρ
  | i :: r, ρ => frzAt r (frz1 ρ i)
def keep1 : SD → SD
  | .sh d => .sh d
  | _ => .no
def viewN (is : List Nat) : Nat → List SD → List SD
  | _, [] => []
  | k, s :: r => (if k ∈ is then keep1 s else .no) :: viewN is (k + 1) r
end
def SD.kt : SD → SD
  | .ow t => .ow t
  | s => .sh s.frz
def askO : Rs (SD × List SD) → List SD → Rs (SD × List SD)
  | .ok (r, _), ρ => .ok (r.kt, ρ)
  | .exc c fs _, ρ => .exc c fs ρ
  | .bad, _ => .bad
def xAsk (out : Rs (SD × List SD)) : Sx := fun ρ => match (ρ[(0 : Nat)]? : Option SD) with
  | some SD.gv => askO out ρ
  | _ => .bad
def lamR (ρ : List SD) : Rs Fl → Rs (SD × List SD)
  | .ok (.rt r _) => .ok (r.kt, ρ)
  | .ok (.nx _) => .ok (.sh .non, ρ)
  | _ => .bad
def xLam (is : List Nat) (n : Nat) (gA : Sx → Ss) (fl : Sx) : Sx := fun ρ =>
  lamR (frzAt is ρ) (gA (xAsk (fl (viewN is 0 (frzAt is ρ)))) (.gv :: List.replicate (n - 1) .no))
def sBad : Ss := fun _ => .bad
@[simp] theorem sBad_ap (ρ : List SD) : sBad ρ = .bad := (rfl)
@[simp] theorem xLam_ap (is : List Nat) (n : Nat) (gA : Sx → Ss) (fl : Sx) (ρ : List SD) : xLam is n gA fl ρ = lamR (frzAt is ρ) (gA (xAsk (fl (viewN is 0 (frzAt is ρ)))) (.gv :: List.replicate (n - 1) .no)) := (rfl)
@[simp] theorem lamR_rt (ρ : List SD) (r : SD) (ρ' : List SD) : lamR ρ (.ok (.rt r ρ')) = .ok (r.kt, ρ) := (rfl)
@[simp] theorem kt_sh (d : D) : (SD.sh d).kt = .sh d := (rfl)
@[simp] theorem kt_own (xs : List D) : (SD.own xs).kt = .sh (.lst xs) := (rfl)
@[simp] theorem kt_ow (t : OT) : (SD.ow t).kt = .ow t := (rfl)
@[simp] theorem kt_od (kvs : List (Int × D)) : (SD.od kvs).kt = .sh (.dct kvs) := (rfl)
@[simp] theorem lamR_nx (ρ : List SD) (ρ' : List SD) : lamR ρ (.ok (.nx ρ')) = .ok (.sh .non, ρ) := (rfl)
@[simp] theorem xAsk_gv (out : Rs (SD × List SD)) (r : List SD) : xAsk out (.gv :: r) = askO out (.gv :: r) := (rfl)
@[simp] theorem askO_ok (r : SD) (ρ' ρ : List SD) : askO (.ok (r, ρ')) ρ = .ok (r.kt, ρ) := (rfl)
@[simp] theorem askO_exc (c : Str) (fs : List (Str × D)) (ρ' ρ : List SD) : askO (.exc c fs ρ') ρ = .exc c fs ρ := (rfl)
@[simp] theorem noXn_gv (r : List SD) : noXn (.gv :: r) = noXn r := (rfl)
@[simp] theorem viewN_nil (is : List Nat) (k : Nat) : viewN is k [] = [] := (rfl)
@[simp] theorem viewN_cons (is : List Nat) (k : Nat) (s : SD) (r : List SD) : viewN is k (s :: r) = (if k ∈ is then keep1 s else .no) :: viewN is (k + 1) r := (rfl)
@[simp] theorem keep1_sh (d : D) : keep1 (.sh d) = .sh d := (rfl)
@[simp] theorem frzAt_nil (ρ : List SD) : frzAt [] ρ = ρ := (rfl)
@[simp] theorem frzAt_cons (i : Nat) (r : List Nat) (ρ : List SD) : frzAt (i :: r) ρ = frzAt r (frz1 ρ i) := (rfl)
def frzO (ρ : List SD) (i : Nat) : Option SD → List SD
  | some (.own xs) => ρ.set i (.sh (.lst xs))
  | some (.byr xs) => ρ.set i (.sh (.lst xs))
  | _ => ρ
@[simp] theorem frz1_ap (ρ : List SD) (i : Nat) : frz1 ρ i = frzO ρ i ρ[i]? := by
  unfold frz1 frzO
  rcases ρ[i]? with _ | s
  · rfl
  · cases s <;> rfl
@[simp] theorem frzO_sh (ρ : List SD) (i : Nat) (d : D) : frzO ρ i (some (.sh d)) = ρ := (rfl)
@[simp] theorem frzO_own (ρ : List SD) (i : Nat) (xs : List D) : frzO ρ i (some (.own xs)) = ρ.set i (.sh (.lst xs)) := (rfl)
@[simp] theorem frzO_byr (ρ : List SD) (i : Nat) (xs : List D) : frzO ρ i (some (.byr xs)) = ρ.set i (.sh (.lst xs)) := (rfl)
end
end Wm
end
section
namespace Wm
open PySem PySem.Spec PyProof.Rows L2
section
variable {G : Gx} {x C dx : Addr} {gs : List (Str × V)} {O W O' W' O1 W1 : List Addr} {H H' H1 : Hp} {vs0 : List V} {σ : L2.St} {ρ : List SD}
def putD (f : Str) (d : D) : List (Str × D) → List (Str × D)
  | [] => [(f, d)]
  | (g, e) :: r => if g = f then (f, d) :: r else (g, e) :: putD f d r
end
abbrev Sn := List (Str × D) → List SD → Rs (List (Str × D) × List SD)
section
variable {X : Cx} {cl : Cl} {vs0 : List V} {Wx : WX} {c : Str}
def nNil : Sn := fun fs ρ => .ok (fs, ρ)
def nSeqR (f : Sn) (fs : List (Str × D)) : Rs Fl → Rs (List (Str × D) × List SD)
  | .ok (.nx ρ') => f fs ρ'
  | .exc ce es ρ' => .exc ce es ρ'
  | _ => .bad
def nSeq (g : Ss) (f : Sn) : Sn := fun fs ρ => nSeqR f fs (g ρ)
def isGv : List SD → Bool
  | .gv :: _ => true
  | _ => false
def nStoR (f : Str) (h : Sn) (fs : List (Str × D)) : Rs (SD × List SD) → Rs (List (Str × D) × List SD)
  | .ok (r, ρ') => if isGv ρ' = true ∧ fs.length < 1000 then h (putD f r.frz fs) ρ' else .bad
  | .exc ce es ρ' => .exc ce es ρ'
  | .bad => .bad
def nSto (f : Str) (g : Sx) (h : Sn) : Sn := fun fs ρ => nStoR f h fs (g ρ)
abbrev Fi := List D → Rs (List (Str × D) × List SD)
def bodyN (N : Nat) (f : Sn) : Fi := fun ds => f [] (.gv :: (ds.map SD.sh ++ List.replicate (N - 1 - ds.length) .no))
end
end Wm
end
section
namespace Wm
open PySem PySem.Spec PyProof.Rows L2
section
variable {X : Cx} {cl : Cl} {vs0 : List V} {Wx : WX} {k n : Nat} {f : Addr} {fd : FuncData} {ps ks : List Str} {x c : Str} {p pos : Pos} {e : Expr} {es : List Expr} {kws : List Keyword} {fl : List LOp} {F : Fi} {sel : List SelI}
def pickD (ds : List D) : SelI → D
  | .arg j => ds[j]?.getD .non
  | .dfI i => .int i
  | .dfN => .non
def shs : List (SD × Option Nat) → Option (List D)
  | [] => some []
  | (.sh d, _) :: r => (shs r).map (d :: ·)
  | _ => none
def makeR (c : Str) (ρ : List SD) : Rs (List (Str × D) × List SD) → Rs (SD × List SD)
  | .ok (fs, _) => .ok (.sh (.ins c fs), ρ)
  | .exc ce es _ => .exc ce es ρ
  | .bad => .bad
def makeO (c : Str) (F : Fi) (sel : List SelI) (ρ : List SD) : Option (List D) → Rs (SD × List SD)
  | some ds => makeR c ρ (F (sel.map (pickD (.non :: ds))))
  | none => .bad
def xMake (c : Str) (F : Fi) (sel : List SelI) (fl : List LOp) : Sx := fun ρ => (cargs fl ρ).bind fun p => makeO c F sel p.2 (shs p.1)
end
end Wm
end
section
namespace Wm
open PySem PySem.Spec PyProof.Rows L2
section
variable {X : Cx} {cl : Cl} {vs0 : List V} {Wx : WX}
def pFld (c f : Str) : List D → Rs SD
  | [.ins c' fs] => if c' = c then (match fs.lookup f with
    | some d => .ok (.sh d)
    | none => .bad) else .bad
  | _ => .bad
variable {k n : Nat} {f C : Addr} {fd : FuncData} {ps ks : List Str} {x c m : Str} {p pos apos : Pos} {o e : Expr} {es : List Expr} {kws : List Keyword} {fl : List LOp} {F : Fn} {sel : List SelI} {inv : List Nat} {i : Nat} {pl : Sem Bool}
def methO (c m : Str) (k : Rs (SD × List SD)) : Option SD → Rs (SD × List SD)
  | some (.sh (.ins c' fs)) => if c' = c ∧ fs.lookup m = none then k else .bad
  | _ => .bad
def xMeth (c m : Str) (i : Nat) (F : Fn) (fl : List LOp) : Sx := fun ρ => methO c m (xCall F (.va i :: fl) ρ) ρ[i]?
end
end Wm
end
section
namespace Wm
open PySem PySem.Spec PyProof.Rows L2
section
variable {X : Cx} {cl : Cl} {vs0 : List V} {Wx : WX}
def chain2 (g : Int → Int → Bool) (j : Int) (ρ : List SD) : List D → Rs (SD × List SD)
  | [.int k] => .ok (.sh (.bl (g j k)), ρ)
  | _ => .bad
def chain1 (g1 g2 : Int → Int → Bool) (fl2 : List LOp) (ρ : List SD) : List D → Rs (SD × List SD)
  | [.int i, .int j] => if g1 i j then (ops fl2 ρ).bind fun q => chain2 g2 j q.2 q.1 else .ok (.sh (.bl false), ρ)
  | _ => .bad
def xChain (g1 g2 : Int → Int → Bool) (fl fl2 : List LOp) : Sx := fun ρ => (ops fl ρ).bind fun q => chain1 g1 g2 fl2 q.2 q.1
variable {op op' : CmpOp} {g1 g2 : Int → Int → Bool} {fl fl2 : List LOp} {a b c : Expr} {pos : Pos}
end
end Wm
end
section
namespace Wm
open PySem PySem.Spec PyProof.Rows L2
@[simp] theorem nNil_ap (fs : List (Str × D)) (ρ : List SD) : nNil fs ρ = .ok (fs, ρ) := (rfl)
@[simp] theorem nSeq_ap (g : Ss) (f : Sn) (fs : List (Str × D)) (ρ : List SD) : nSeq g f fs ρ = nSeqR f fs (g ρ) := (rfl)
@[simp] theorem nSeqR_nx (f : Sn) (fs : List (Str × D)) (ρ : List SD) : nSeqR f fs (.ok (.nx ρ)) = f fs ρ := (rfl)
@[simp] theorem nSeqR_exc (f : Sn) (fs : List (Str × D)) (c : Str) (es : List (Str × D)) (ρ : List SD) : nSeqR f fs (.exc c es ρ) = .exc c es ρ := (rfl)
@[simp] theorem nSto_ap (n : Str) (g : Sx) (h : Sn) (fs : List (Str × D)) (ρ : List SD) : nSto n g h fs ρ = nStoR n h fs (g ρ) := (rfl)
@[simp] theorem nStoR_ok (n : Str) (h : Sn) (fs : List (Str × D)) (r : SD) (ρ : List SD) : nStoR n h fs (.ok (r, .gv :: ρ)) = if fs.length < 1000 then h (putD n r.frz fs) (.gv :: ρ) else .bad := by
  show (if isGv (.gv :: ρ) = true ∧ fs.length < 1000 then h (putD n r.frz fs) (.gv :: ρ) else .bad) = _
  by_cases q : fs.length < 1000
  · rw [if_pos ⟨rfl, q⟩, if_pos q]
  · rw [if_neg (fun z => q z.2), if_neg q]
@[simp] theorem putD_nil (n : Str) (d : D) : putD n d [] = [(n, d)] := (rfl)
@[simp] theorem putD_cons (n m : Str) (d e : D) (r : List (Str × D)) : putD n d ((m, e) :: r) = if m = n then (n, d) :: r else (m, e) :: putD n d r := (rfl)
@[simp] theorem bodyN_ap (N : Nat) (f : Sn) (ds : List D) : bodyN N f ds = f [] (.gv :: (ds.map SD.sh ++ List.replicate (N - 1 - ds.length) .no)) := (rfl)
@[simp] theorem xMake_ap (c : Str) (F : Fi) (sel : List SelI) (fl : List LOp) (ρ : List SD) : xMake c F sel fl ρ = (cargs fl ρ).bind fun p => makeO c F sel p.2 (shs p.1) := (rfl)
@[simp] theorem shs_nil : shs [] = some [] := (rfl)
@[simp] theorem shs_cons (d : D) (o : Option Nat) (r : List (SD × Option Nat)) : shs ((.sh d, o) :: r) = (shs r).map (d :: ·) := (rfl)
@[simp] theorem makeO_some (c : Str) (F : Fi) (sel : List SelI) (ρ : List SD) (ds : List D) : makeO c F sel ρ (some ds) = makeR c ρ (F (sel.map (pickD (.non :: ds)))) := (rfl)
@[simp] theorem makeR_ok (c : Str) (ρ ρ' : List SD) (fs : List (Str × D)) : makeR c ρ (.ok (fs, ρ')) = .ok (.sh (.ins c fs), ρ) := (rfl)
@[simp] theorem makeR_exc (c ce : Str) (ρ ρ' : List SD) (fs : List (Str × D)) : makeR c ρ (.exc ce fs ρ') = .exc ce fs ρ := (rfl)
@[simp] theorem pickD_arg (ds : List D) (j : Nat) : pickD ds (.arg j) = ds[j]?.getD .non := (rfl)
@[simp] theorem pickD_dfI (ds : List D) (j : Int) : pickD ds (.dfI j) = .int j := (rfl)
@[simp] theorem pickD_dfN (ds : List D) : pickD ds .dfN = .non := (rfl)
@[simp] theorem xMeth_ap (c m : Str) (i : Nat) (F : Fn) (fl : List LOp) (ρ : List SD) : xMeth c m i F fl ρ = methO c m (xCall F (.va i :: fl) ρ) ρ[i]? := (rfl)
@[simp] theorem methO_ins (c m : Str) (k : Rs (SD × List SD)) (fs : List (Str × D)) : methO c m k (some (.sh (.ins c fs))) = if fs.lookup m = none then k else .bad := by
  show (if c = c ∧ fs.lookup m = none then k else .bad) = _
  by_cases q : fs.lookup m = none
  · rw [if_pos ⟨rfl, q⟩, if_pos q]
  · rw [if_neg (fun z => q z.2), if_neg q]
def fldR : Option D → Rs SD
  | some d => .ok (.sh d)
  | none => .bad
@[simp] theorem pFld_ins (c f : Str) (fs : List (Str × D)) : pFld c f [.ins c fs] = fldR (fs.lookup f) := by
  show (if c = c then (match fs.lookup f with | some d => Rs.ok (SD.sh d) | none => Rs.bad) else .bad) = _
  rw [if_pos rfl]
  cases fs.lookup f <;> rfl
@[simp] theorem fldR_some (d : D) : fldR (some d) = .ok (.sh d) := (rfl)
@[simp] theorem xChain_ap (g1 g2 : Int → Int → Bool) (fl fl2 : List LOp) (ρ : List SD) : xChain g1 g2 fl fl2 ρ = (ops fl ρ).bind fun q => chain1 g1 g2 fl2 q.2 q.1 := (rfl)
@[simp] theorem chain1_ev (g1 g2 : Int → Int → Bool) (fl2 : List LOp) (ρ : List SD) (i j : Int) : chain1 g1 g2 fl2 ρ [.int i, .int j] = if g1 i j then (ops fl2 ρ).bind fun q => chain2 g2 j q.2 q.1 else .ok (.sh (.bl false), ρ) := (rfl)
@[simp] theorem chain2_ev (g : Int → Int → Bool) (j : Int) (ρ : List SD) (k : Int) : chain2 g j ρ [.int k] = .ok (.sh (.bl (g j k)), ρ) := (rfl)
@[simp] theorem trim_ap4 (ρ : List SD) : trim 4 ρ = [trim1 (ρ[0]?.getD .no), trim1 (ρ[1]?.getD .no), trim1 (ρ[2]?.getD .no), trim1 (ρ[3]?.getD .no)] := (rfl)
@[simp] theorem trim_ap5 (ρ : List SD) : trim 5 ρ = [trim1 (ρ[0]?.getD .no), trim1 (ρ[1]?.getD .no), trim1 (ρ[2]?.getD .no), trim1 (ρ[3]?.getD .no), trim1 (ρ[4]?.getD .no)] := (rfl)
@[simp] theorem trim_ap6 (ρ : List SD) : trim 6 ρ = [trim1 (ρ[0]?.getD .no), trim1 (ρ[1]?.getD .no), trim1 (ρ[2]?.getD .no), trim1 (ρ[3]?.getD .no), trim1 (ρ[4]?.getD .no), trim1 (ρ[5]?.getD .no)] := (rfl)
@[simp] theorem trim_ap7 (ρ : List SD) : trim 7 ρ = [trim1 (ρ[0]?.getD .no), trim1 (ρ[1]?.getD .no), trim1 (ρ[2]?.getD .no), trim1 (ρ[3]?.getD .no), trim1 (ρ[4]?.getD .no), trim1 (ρ[5]?.getD .no), trim1 (ρ[6]?.getD .no)] := (rfl)
@[simp] theorem trim_ap8 (ρ : List SD) : trim 8 ρ = [trim1 (ρ[0]?.getD .no), trim1 (ρ[1]?.getD .no), trim1 (ρ[2]?.getD .no), trim1 (ρ[3]?.getD .no), trim1 (ρ[4]?.getD .no), trim1 (ρ[5]?.getD .no), trim1 (ρ[6]?.getD .no), trim1 (ρ[7]?.getD .no)] := (rfl)
end Wm
end
section
namespace Wm
open PySem PySem.Spec PyProof.Rows L2
theorem ofString_inj {a b : String} (h : Str.ofString a = Str.ofString b) : a = b := by
  rw [Str.ofString_eq_toList, Str.ofString_eq_toList] at h
  have h := congrArg Str.cps h
  have h : a.toList.map Char.toNat = b.toList.map Char.toNat := by simpa using h
  have := (List.map_inj_right (f := Char.toNat) (fun x y e => by
    apply Char.ext
    apply UInt32.toNat_inj.mp
    exact e)).mp h
  exact String.toList_inj.mp this
@[simp] theorem str_eq (a b : String) : (Str.ofString a = Str.ofString b) ↔ a = b := ⟨ofString_inj, fun e => by rw [e]⟩
@[simp] theorem str_beq (a b : String) : (Str.ofString a == Str.ofString b) = (a == b) := by
  by_cases h : a = b
  · subst h; simp
  · have : ¬ Str.ofString a = Str.ofString b := fun e => h (ofString_inj e)
    rw [beq_eq_false_iff_ne.mpr this, beq_eq_false_iff_ne.mpr h]
@[simp] theorem look_nil (n : Str) : List.lookup n ([] : List (Str × D)) = none := (rfl)
@[simp] theorem look_cons (n m : Str) (d : D) (r : List (Str × D)) : List.lookup n ((m, d) :: r) = if n == m then some d else List.lookup n r := by
  rw [List.lookup]
  cases n == m <;> rfl
end Wm
end
section
namespace Wm
open PySem PySem.Spec PyProof.Rows L2
section
variable {X : Cx} {cl : Cl} {vs0 : List V} {Wx : WX}
def xMut1 (x : Nat) (m : List D → D → Rs (D × List D)) (f : Sx) : Sx := fun ρ => (ownGet ρ x).bind fun _ => (f ρ).bind fun p => (ownGet p.2 x).bind fun xs => (m xs p.1.frz).bind fun q => .ok (.sh q.1, ownSet p.2 x q.2)
def xMut0 (x : Nat) (m : List D → Rs (D × List D)) : Sx := fun ρ => (ownGet ρ x).bind fun xs => (m xs).bind fun q => .ok (.sh q.1, ownSet ρ x q.2)
def mExt (xs : List D) : D → Rs (D × List D)
  | .lst zs => if xs.length + zs.length ≤ sizeLine then .ok (.non, xs ++ zs) else .bad
  | _ => .bad
end
end Wm
end
section
namespace Wm
open PySem PySem.Spec PyProof.Rows L2
section
variable {X : Cx} {cl : Cl} {vs0 : List V} {Wx : WX} {a b c e : Expr} {pos p2 : Pos} {fl : List LOp}
def rgI (a b : Int) : List Int := (List.range (b - a).toNat).map fun i => a + (i : Nat)
noncomputable instance (a b : Int) : Decidable (RgOk a b) := Classical.propDecidable _
noncomputable def rgLst (a b : Int) : Rs SD := if RgOk a b then .ok (.own ((rgI a b).map D.int)) else .bad
noncomputable def rgTup (a b : Int) : Rs SD := if RgOk a b then .ok (.sh (.tup ((rgI a b).map D.int))) else .bad
noncomputable def pLrg1 : List D → Rs SD
  | [.int j] => rgLst 0 j
  | _ => .bad
noncomputable def pTrg1 : List D → Rs SD
  | [.int j] => rgTup 0 j
  | _ => .bad
noncomputable def pLrg2 : List D → Rs SD
  | [.int i, .int j] => rgLst i j
  | _ => .bad
noncomputable def pTrg2 : List D → Rs SD
  | [.int i, .int j] => rgTup i j
  | _ => .bad
def pRev : List D → Rs SD
  | [.lst xs] => .ok (.own xs.reverse)
  | _ => .bad
def pIsBl (neg : Bool) : List D → Rs SD
  | [.bl x, .bl y] => .ok (.sh (.bl (neg ^^ decide (x = y))))
  | _ => .bad
end
end Wm
end
section
namespace Wm
open PySem PySem.Spec PyProof.Rows L2
section
variable {X : Cx} {cl : Cl} {vs0 : List V} {Wx : WX} {a b c e : Expr} {pos p2 : Pos} {fl : List LOp}
def pIsO (c : Str) : List D → Rs SD
  | [.ins c' _] => if c' = c then .ok (.sh (.bl true)) else .bad
  | [.tup _] => .ok (.sh (.bl false))
  | _ => .bad
def eqR : Rs (SD × List SD) → Rs (SD × List SD)
  | .ok (.sh (.bl b), ρ) => .ok (.sh (.bl b), ρ)
  | _ => .bad
def eqF (c : Str) (F : Fn) : Fn := fun as => match as with
  | [.sh (.ins c1 f1), .sh (.ins c2 f2)] => if c1 = c ∧ c2 = c then eqR (F [.sh (.ins c1 f1), .sh (.ins c2 f2)]) else .bad
  | _ => .bad
end
@[simp] theorem pIsO_ins (c : Str) (fs : List (Str × D)) : pIsO c [.ins c fs] = .ok (.sh (.bl true)) := by
  show (if c = c then _ else _) = _
  rw [if_pos rfl]
@[simp] theorem pIsO_tup (c : Str) (ds : List D) : pIsO c [.tup ds] = .ok (.sh (.bl false)) := (rfl)
@[simp] theorem eqF_ins (c : Str) (F : Fn) (f1 f2 : List (Str × D)) : eqF c F [.sh (.ins c f1), .sh (.ins c f2)] = eqR (F [.sh (.ins c f1), .sh (.ins c f2)]) := by
  show (if c = c ∧ c = c then _ else _) = _
  rw [if_pos ⟨rfl, rfl⟩]
@[simp] theorem eqR_bl (b : Bool) (ρ : List SD) : eqR (.ok (.sh (.bl b), ρ)) = .ok (.sh (.bl b), ρ) := (rfl)
@[simp] theorem xMut1_ap (x : Nat) (m : List D → D → Rs (D × List D)) (f : Sx) (ρ : List SD) : xMut1 x m f ρ = (ownGet ρ x).bind fun _ => (f ρ).bind fun p => (ownGet p.2 x).bind fun xs => (m xs p.1.frz).bind fun q => .ok (.sh q.1, ownSet p.2 x q.2) := (rfl)
@[simp] theorem xMut0_ap (x : Nat) (m : List D → Rs (D × List D)) (ρ : List SD) : xMut0 x m ρ = (ownGet ρ x).bind fun xs => (m xs).bind fun q => .ok (.sh q.1, ownSet ρ x q.2) := (rfl)
@[simp] theorem mExt_ap (xs zs : List D) : mExt xs (.lst zs) = if xs.length + zs.length ≤ sizeLine then .ok (.non, xs ++ zs) else .bad := (rfl)
@[simp] theorem pLrg1_ap (j : Int) : pLrg1 [.int j] = rgLst 0 j := (rfl)
@[simp] theorem pTrg1_ap (j : Int) : pTrg1 [.int j] = rgTup 0 j := (rfl)
@[simp] theorem pLrg2_ap (i j : Int) : pLrg2 [.int i, .int j] = rgLst i j := (rfl)
@[simp] theorem pTrg2_ap (i j : Int) : pTrg2 [.int i, .int j] = rgTup i j := (rfl)
@[simp] theorem pRev_lst (xs : List D) : pRev [.lst xs] = .ok (.own xs.reverse) := (rfl)
@[simp] theorem pIsBl_ap (n x y : Bool) : pIsBl n [.bl x, .bl y] = .ok (.sh (.bl (n ^^ decide (x = y)))) := (rfl)
end Wm
end
section
namespace Wm
open PySem PySem.Spec PyProof.Rows L2
variable {α S : Type} {m : Itm} {st : Tg} {body : Ss} {g : α → D}
theorem for_thru (I : List SD → Prop) : ∀ {xs : List α}, (∀ x ∈ xs, ∀ ρ, I ρ → ∃ ρ', I ρ' ∧ ∀ k, forT body k (st (g x) ρ) = k ρ') → ∀ {ρ : List SD}, I ρ → ∃ ρ', I ρ' ∧ forL st body (xs.map g) ρ = .ok (.nx ρ')
  | [], _, ρ, hi => ⟨ρ, hi, rfl⟩
  | x :: xs, h, ρ, hi => by
    obtain ⟨ρ1, h1, e1⟩ := h x (by simp) ρ hi
    obtain ⟨ρ2, h2, e2⟩ := for_thru I (xs := xs) (fun y hy => h y (List.mem_cons_of_mem _ hy)) h1
    exact ⟨ρ2, h2, by rw [List.map_cons, forL_cons, e1, e2]⟩
@[simp] theorem pAbs_ev (i : Int) : pAbs [.int i] = .ok (.sh (.int i.natAbs)) := by
  show Rs.ok (SD.sh (D.int (if i < 0 then -i else i))) = _
  congr 3
  split <;> omega
end Wm
end
section
namespace Wm
open PySem PySem.Spec PyProof.Rows L2
section
variable {X : Cx} {cl : Cl} {vs0 : List V} {Wx : WX}
def dSeq (f : Sx) : So := fun ρ => (f ρ).bind fun p => (itemsOf p.1.frz).bind fun xs => .ok (xs, p.2)
def dRngA (ρ : List SD) : List D → Rs (List D × List SD)
  | [.int j] => if rngOk j ∧ j.toNat ≤ sizeLine then .ok (rangeD 0 j.toNat, ρ) else .bad
  | _ => .bad
def dRngB (ρ : List SD) : List D → Rs (List D × List SD)
  | [.int i, .int j] => if rngOk i ∧ rngOk j ∧ (j - i).toNat ≤ sizeLine then .ok (rangeD i (j - i).toNat, ρ) else .bad
  | _ => .bad
def dRng1 (fl : List LOp) : So := fun ρ => (ops fl ρ).bind fun q => dRngA q.2 q.1
def dRng2 (fl : List LOp) : So := fun ρ => (ops fl ρ).bind fun q => dRngB q.2 q.1
noncomputable def lc2L (m : Itm) (st : Tg) (test : Sb) (s1 : So) (st1 : Tg) (test1 : Sb) (elt : Sx) (vs vs1 : List Nat) : List D → List SD → Rs (List D × List SD)
  | [], ρ => .ok ([], ρ)
  | d :: ds, ρ => match st d ρ with
    | some ρ1 => match test ρ1 with
      | .ok (true, ρ2) => match s1 ρ2 with
        | .ok (xs, ρ3) => match lcL ⟨xs, []⟩ st1 test1 elt vs1 xs (wipeR ρ3 vs1) with
          | .ok (es, ρ4) => if m.keep (wipeR ρ4 vs) then (lc2L m st test s1 st1 test1 elt vs vs1 ds (wipeR ρ4 vs)).bind fun q => .ok (es ++ q.1, q.2) else .bad
          | _ => .bad
        | _ => .bad
      | .ok (false, ρ2) => if m.keep (wipeR ρ2 vs) then lc2L m st test s1 st1 test1 elt vs vs1 ds (wipeR ρ2 vs) else .bad
      | _ => .bad
    | none => .bad
noncomputable def xLc2 (src : Src) (st : Tg) (test : Sb) (s1 : So) (st1 : Tg) (test1 : Sb) (elt : Sx) (vs vs1 : List Nat) : Sx := fun ρ => (src ρ).bind fun p => if p.1.keep (wipeR p.2 vs) ∧ (∀ b ∈ p.1.bor, b.1 ∉ vs) then
  match lc2L p.1 st test s1 st1 test1 elt vs vs1 p.1.xs (wipeR p.2 vs) with
  | .ok (ds, ρ') => if ds.length ≤ sizeLine then .ok (.own ds, backR p.2 ρ' vs) else .bad
  | _ => .bad
  else .bad
variable {elt tg iter tg1 iter1 : Expr} {ifs ifs1 : List Expr} {scope : Scope} {own : List (Str × Nat)} {vs1 : List Nat} {pos : Pos} {src : Src} {s1 : So} {st st1 : Tg} {is is1 : List Nat} {test test1 : Sb} {f : Sx}
end
end Wm
end
section
namespace Wm
open PySem PySem.Spec PyProof.Rows L2
structure KxC (K : PySem.W.Frag) (C : Addr) : Prop where
  cl : (PySem.W.clsIn K C).isSome = true
  ga : PySem.W.findIn K (.ref C) "__getattribute__" = some (some (.builtin "BaseException.__getattribute__"))
  gt : PySem.W.findIn K (.ref C) "__getattr__" = some none
  ex : PySem.W.subIn K (.ref C) (.type "BaseException") = some true
  ha : PySem.W.findIn K (.ref C) "__class__" = some (some (.builtin "object.__class__"))
  hn : PySem.W.specialIn K (.builtin "object.__class__") "__get__" = some (some (.builtin "getset_descriptor.__get__"))
  tk : PySem.W.takesIn K (.builtin "object.__class__") = some true
  hm : PySem.W.mroIn K C (.type "object") = some true
theorem cls_some {K : PySem.W.Frag} {C : Addr} (h : PySem.W.hasDictIn K C = true) : (PySem.W.clsIn K C).isSome = true := by
  obtain ⟨cd, hc, _⟩ := PySem.W.any_some h
  rw [hc]
  rfl
section
variable {X : Cx} {cl : Cl} {vs0 : List V} {Wx : WX}
def isEO (ρ : List SD) (tb : List (Str × Bool)) : Option SD → Rs (SD × List SD)
  | some (.xn c _) => match tb.lookup c with
    | some b => .ok (.sh (.bl b), ρ)
    | none => .bad
  | _ => .bad
def xIsE (i : Nat) (tb : List (Str × Bool)) : Sx := fun ρ => isEO ρ tb ρ[i]?
theorem look_mem {β : Type} {c : Str} {b : β} : ∀ {tb : List (Str × β)}, tb.lookup c = some b → (c, b) ∈ tb
  | [], h => by cases h
  | (c', b') :: tb, h => by
    rw [List.lookup_cons] at h
    by_cases hc : (c == c') = true
    · rw [hc] at h
      have hc := beq_iff_eq.mp hc
      cases h
      subst hc
      exact List.mem_cons_self
    · rw [Bool.not_eq_true] at hc
      rw [hc] at h
      exact List.mem_cons_of_mem _ (look_mem h)
end
@[simp] theorem xIsE_ap (i : Nat) (tb : List (Str × Bool)) (ρ : List SD) : xIsE i tb ρ = isEO ρ tb ρ[i]? := (rfl)
def isEB (ρ : List SD) : Option Bool → Rs (SD × List SD)
  | some b => .ok (.sh (.bl b), ρ)
  | none => .bad
@[simp] theorem isEO_ap (ρ : List SD) (tb : List (Str × Bool)) (c : Str) (fs : List (Str × D)) : isEO ρ tb (some (.xn c fs)) = isEB ρ (tb.lookup c) := by
  show (match tb.lookup c with | some b => Rs.ok (SD.sh (D.bl b), ρ) | none => Rs.bad) = _
  cases tb.lookup c <;> rfl
@[simp] theorem isEB_ap (ρ : List SD) (b : Bool) : isEB ρ (some b) = .ok (.sh (.bl b), ρ) := (rfl)
@[simp] theorem lookB_nil (n : Str) : List.lookup n ([] : List (Str × Bool)) = none := (rfl)
@[simp] theorem lookB_cons (n m : Str) (d : Bool) (r : List (Str × Bool)) : List.lookup n ((m, d) :: r) = if n == m then some d else List.lookup n r := by
  rw [List.lookup]
  cases n == m <;> rfl
@[simp] theorem dSeq_ap (f : Sx) (ρ : List SD) : dSeq f ρ = (f ρ).bind fun p => (itemsOf p.1.frz).bind fun xs => .ok (xs, p.2) := (rfl)
@[simp] theorem dRng1_ap (fl : List LOp) (ρ : List SD) : dRng1 fl ρ = (ops fl ρ).bind fun q => dRngA q.2 q.1 := (rfl)
@[simp] theorem dRng2_ap (fl : List LOp) (ρ : List SD) : dRng2 fl ρ = (ops fl ρ).bind fun q => dRngB q.2 q.1 := (rfl)
@[simp] theorem dRngA_ap (ρ : List SD) (j : Int) : dRngA ρ [.int j] = if rngOk j ∧ j.toNat ≤ sizeLine then .ok (rangeD 0 j.toNat, ρ) else .bad := (rfl)
@[simp] theorem dRngB_ap (ρ : List SD) (i j : Int) : dRngB ρ [.int i, .int j] = if rngOk i ∧ rngOk j ∧ (j - i).toNat ≤ sizeLine then .ok (rangeD i (j - i).toNat, ρ) else .bad := (rfl)
def lc2Back (vs : List Nat) (ρ : List SD) : Rs (List D × List SD) → Rs (SD × List SD)
  | .ok (ds, ρ') => if ds.length ≤ sizeLine then .ok (.own ds, backR ρ ρ' vs) else .bad
  | _ => .bad
@[simp] theorem lc2Back_ok (vs : List Nat) (ρ : List SD) (ds : List D) (ρ' : List SD) : lc2Back vs ρ (.ok (ds, ρ')) = if ds.length ≤ sizeLine then .ok (.own ds, backR ρ ρ' vs) else .bad := (rfl)
noncomputable def lc2Go (st : Tg) (test : Sb) (s1 : So) (st1 : Tg) (test1 : Sb) (elt : Sx) (vs vs1 : List Nat) (m : Itm) (ρ : List SD) : Rs (SD × List SD) := if m.keep (wipeR ρ vs) ∧ (∀ b ∈ m.bor, b.1 ∉ vs) then lc2Back vs ρ (lc2L m st test s1 st1 test1 elt vs vs1 m.xs (wipeR ρ vs)) else .bad
@[simp] theorem lc2Go_ap (st : Tg) (test : Sb) (s1 : So) (st1 : Tg) (test1 : Sb) (elt : Sx) (vs vs1 : List Nat) (m : Itm) (ρ : List SD) : lc2Go st test s1 st1 test1 elt vs vs1 m ρ = if m.keep (wipeR ρ vs) ∧ (∀ b ∈ m.bor, b.1 ∉ vs) then lc2Back vs ρ (lc2L m st test s1 st1 test1 elt vs vs1 m.xs (wipeR ρ vs)) else .bad := (rfl)
@[simp] theorem xLc2_ap (src : Src) (st : Tg) (test : Sb) (s1 : So) (st1 : Tg) (test1 : Sb) (elt : Sx) (vs vs1 : List Nat) (ρ : List SD) : xLc2 src st test s1 st1 test1 elt vs vs1 ρ = (src ρ).bind fun p => lc2Go st test s1 st1 test1 elt vs vs1 p.1 p.2 := by
  unfold xLc2 lc2Go
  refine congrArg _ (funext fun p => ?_)
  split
  · unfold lc2Back
    rfl
  · rfl
@[simp] theorem lc2L_nil (m : Itm) (st : Tg) (test : Sb) (s1 : So) (st1 : Tg) (test1 : Sb) (elt : Sx) (vs vs1 : List Nat) (ρ : List SD) : lc2L m st test s1 st1 test1 elt vs vs1 [] ρ = .ok ([], ρ) := (rfl)
end Wm
end
section
namespace Wm
open PySem PySem.Spec PyProof.Rows L2
section
variable {X : Cx} {cl : Cl} {vs0 : List V} {Wx : WX} {a b c e : Expr} {pos p2 : Pos} {fl : List LOp}
def neR : Rs (SD × List SD) → Rs (SD × List SD)
  | .ok (.sh (.bl b), ρ) => .ok (.sh (.bl (!b)), ρ)
  | _ => .bad
def neF (c : Str) (F : Fn) : Fn := fun as => match as with
  | [.sh (.ins c1 f1), .sh (.ins c2 f2)] => if c1 = c ∧ c2 = c then neR (F [.sh (.ins c1 f1), .sh (.ins c2 f2)]) else .bad
  | [.sh (.ins c1 f1), .sh (.tup ds)] => if c1 = c then neR (F [.sh (.ins c1 f1), .sh (.tup ds)]) else .bad
  | _ => .bad
end
@[simp] theorem neF_ins (c : Str) (F : Fn) (f1 f2 : List (Str × D)) : neF c F [.sh (.ins c f1), .sh (.ins c f2)] = neR (F [.sh (.ins c f1), .sh (.ins c f2)]) := by
  show (if c = c ∧ c = c then _ else _) = _
  rw [if_pos ⟨rfl, rfl⟩]
@[simp] theorem neF_tup (c : Str) (F : Fn) (f1 : List (Str × D)) (ds : List D) : neF c F [.sh (.ins c f1), .sh (.tup ds)] = neR (F [.sh (.ins c f1), .sh (.tup ds)]) := by
  show (if c = c then _ else _) = _
  rw [if_pos rfl]
@[simp] theorem neR_bl (b : Bool) (ρ : List SD) : neR (.ok (.sh (.bl b), ρ)) = .ok (.sh (.bl (!b)), ρ) := (rfl)
end Wm
end
section
namespace Wm
open PySem PySem.Spec PyProof.Rows L2
section
variable {X : Cx} {cl : Cl} {vs0 : List V} {Wx : WX}
def pRevA : List D → Rs SD
  | [.lst xs] => .ok (.own xs.reverse)
  | [.tup xs] => .ok (.sh (.tup xs.reverse))
  | _ => .bad
@[simp] theorem pRevA_lst (xs : List D) : pRevA [.lst xs] = .ok (.own xs.reverse) := (rfl)
@[simp] theorem pRevA_tup (xs : List D) : pRevA [.tup xs] = .ok (.sh (.tup xs.reverse)) := (rfl)
variable {a b : Expr} {fl : List LOp} {pos : Pos}
end
end Wm
end
section
namespace Wm
open PySem PySem.Spec PyProof.Rows L2
def mkR (c : Str) (n : Nat) : Rs (List (Str × D) × List SD) → Rs (SD × List SD)
  | .ok (fs, ρ) => .ok (.sh (.ins c fs), (trim (n + 1) ρ).tail)
  | .exc ce es ρ => .exc ce es (trim (n + 1) ρ).tail
  | .bad => .bad
@[simp] theorem mkR_ok (c : Str) (n : Nat) (fs : List (Str × D)) (ρ : List SD) : mkR c n (.ok (fs, ρ)) = .ok (.sh (.ins c fs), (trim (n + 1) ρ).tail) := (rfl)
@[simp] theorem mkR_exc (c ce : Str) (n : Nat) (es : List (Str × D)) (ρ : List SD) : mkR c n (.exc ce es ρ) = .exc ce es (trim (n + 1) ρ).tail := (rfl)
end Wm
end
section
namespace Wm
open PySem PySem.Spec PyProof.Rows L2
def putI (kvs : List (Int × D)) (k : Int) (d : D) : List (Int × D) :=
  if (kvs.any fun kv => decide (kv.1 = k)) = true then kvs.map (fun kv => if kv.1 = k then (kv.1, d) else kv) else kvs ++ [(k, d)]
section
variable {X : Cx} {cl : Cl} {vs0 : List V} {Wx : WX} {k n : Nat} {f : Addr} {fd : FuncData} {ps ks : List Str} {c m : Str} {o e : Expr} {es : List Expr} {kws : List Keyword} {apos pos : Pos} {pl : Sem Bool} {C : Addr} {fo : Sx} {fl : List LOp} {F : Fn} {sel : List SelI} {inv : List Nat}
def chkR (c m : Str) (ρ : List SD) : SD → Rs (SD × List SD)
  | .sh (.ins c' fs) => if c' = c ∧ fs.lookup m = none then .ok (.sh (.ins c' fs), ρ) else .bad
  | _ => .bad
def chkM (c m : Str) (fo : Sx) : Sx := fun ρ => (fo ρ).bind fun p => chkR c m p.2 p.1
end
@[simp] theorem chkM_ap (c m : Str) (fo : Sx) (ρ : List SD) : chkM c m fo ρ = (fo ρ).bind fun p => chkR c m p.2 p.1 := (rfl)
@[simp] theorem chkR_ins (c m : Str) (ρ : List SD) (fs : List (Str × D)) : chkR c m ρ (.sh (.ins c fs)) = if fs.lookup m = none then .ok (.sh (.ins c fs), ρ) else .bad := by
  show (if c = c ∧ fs.lookup m = none then _ else _) = _
  by_cases h : fs.lookup m = none
  · rw [if_pos ⟨rfl, h⟩, if_pos h]
  · rw [if_neg (fun z => h z.2), if_neg h]
mutual
def D.sz : D → Nat
  | .int i => i.natAbs
  | .tup xs => szs xs
  | .lst xs => szs xs
  | _ => 0
def szs : List D → Nat
  | [] => 0
  | x :: xs => x.sz + szs xs
end
end Wm
end
section
namespace Wm
open PySem PySem.Spec PyProof.Rows L2
mutual
def noI : D → Bool
  | .ins _ _ => false
  | .exn _ _ => false
  | .tup xs => noIs xs
  | .lst xs => noIs xs
  | .dct _ => false
  | _ => true
def noIs : List D → Bool
  | [] => true
  | x :: xs => noI x && noIs xs
end
def noIS : SD → Bool
  | .no => true
  | .sh d => noI d
  | .own xs => noIs xs
  | .byr xs => noIs xs
  | _ => false
section
variable {G : Gx} {O W : List Addr} {H : Hp} {x C dx : Addr} {gs : List (Str × V)}
theorem TO.more {a : Addr} {vs : List V} (hx : H x = some (.ins C dx gs)) (h : TO G.K O H a vs) : TO G.K (x :: O) H a vs := by
  refine ⟨h.1, ?_⟩
  rcases h.2 with ⟨r, hn⟩ | h
  · refine .inl ⟨r, fun z => ?_⟩
    rcases List.mem_cons.mp z with e | e
    · subst e
      rcases r with r | ⟨o, r⟩ <;> (rw [hx] at r; cases r)
    · exact hn e
  · exact .inr h
theorem LO.more {a : Addr} {vs : List V} (hx : H x = some (.ins C dx gs)) (h : LO G.K O H a vs) : LO G.K (x :: O) H a vs := by
  refine ⟨h.1, h.2.1, fun z => ?_⟩
  rcases List.mem_cons.mp z with e | e
  · subst e
    have := h.2.1
    rw [hx] at this
    cases this
  · exact h.2.2 e
mutual
theorem Rp.more (hx : H x = some (.ins C dx gs)) : ∀ {d : D} {v : V}, noI d = true → Rp G O H d v → Rp G (x :: O) H d v
  | .non, v, _, h => by simpa only [Rp] using h
  | .bl b, v, _, h => by simpa only [Rp] using h
  | .int i, v, _, h => by simpa only [Rp] using h
  | .str s, v, _, h => by simpa only [Rp] using h
  | .tup ds, v, n, h => by
    simp only [Rp] at h ⊢
    simp only [noI] at n
    obtain ⟨a, vs, e, t, r⟩ := h
    exact ⟨a, vs, e, t.more hx, RpA.more hx n r⟩
  | .lst ds, v, n, h => by
    simp only [Rp] at h ⊢
    simp only [noI] at n
    obtain ⟨a, vs, e, t, r⟩ := h
    exact ⟨a, vs, e, t.more hx, RpA.more hx n r⟩
  | .ins c fs, v, n, h => by simp [noI] at n
  | .exn c fs, v, n, h => by simp [noI] at n
  | .scr ns, v, _, h => by
    simp only [Rp] at h ⊢
    obtain ⟨a, e, t⟩ := h
    refine ⟨a, e, t.1, ?_⟩
    rcases t.2 with ⟨r, hn⟩ | r
    · refine .inl ⟨r, fun z => ?_⟩
      rcases List.mem_cons.mp z with e | e
      · subst e
        rcases r with r | ⟨o, r⟩ <;> (rw [hx] at r; cases r)
      · exact hn e
    · exact .inr r
  | .dct kvs, v, n, h => by simp [noI] at n
theorem RpA.more (hx : H x = some (.ins C dx gs)) : ∀ {ds : List D} {vs : List V}, noIs ds = true → RpA G O H ds vs → RpA G (x :: O) H ds vs
  | [], vs, _, h => by simpa only [RpA] using h
  | d :: ds, vs, n, h => by
    simp only [RpA] at h ⊢
    simp only [noIs, Bool.and_eq_true] at n
    obtain ⟨v, r, e, h1, h2⟩ := h
    exact ⟨v, r, e, Rp.more hx n.1 h1, RpA.more hx n.2 h2⟩
end
end
section
variable {X : Cx} {cl : Cl} {vs0 : List V} {Wx : WX} {c : Str}
open Classical in
noncomputable def selfR (c : Str) (fs : List (Str × D)) {α : Type} (ok : α → Prop) (k : α → List SD → Rs (List (Str × D) × List SD)) : Rs (α × List SD) → Rs (List (Str × D) × List SD)
  | .ok (a, .sh (.ins c' fs') :: r') => if (c' = c ∧ fs' = fs) ∧ r'.all noIS = true ∧ ok a then k a (.gv :: r') else .bad
  | .exc ce es ρ' => .exc ce es ρ'
  | _ => .bad
theorem selfR_pos {c c' : Str} {fs fs' : List (Str × D)} {α : Type} {ok : α → Prop} {k : α → List SD → Rs (List (Str × D) × List SD)} {a : α} {r' : List SD} (h : (c' = c ∧ fs' = fs) ∧ r'.all noIS = true ∧ ok a) : selfR c fs ok k (.ok (a, .sh (.ins c' fs') :: r')) = k a (.gv :: r') := by
  unfold selfR
  exact if_pos h
@[simp] theorem selfR_same (c : Str) (fs : List (Str × D)) {α : Type} (ok : α → Prop) (k : α → List SD → Rs (List (Str × D) × List SD)) (a : α) (r' : List SD) (h1 : r'.all noIS = true) (h2 : ok a) : selfR c fs ok k (.ok (a, .sh (.ins c fs) :: r')) = k a (.gv :: r') := selfR_pos ⟨⟨rfl, rfl⟩, h1, h2⟩
@[simp] theorem selfR_exc (c : Str) (fs : List (Str × D)) {α : Type} (ok : α → Prop) (k : α → List SD → Rs (List (Str × D) × List SD)) (ce : Str) (es : List (Str × D)) (ρ : List SD) : selfR c fs ok k (.exc ce es ρ) = .exc ce es ρ := (rfl)
noncomputable def nStoS (c f : Str) (g : Sx) (h : Sn) : Sn := fun fs ρ => if isGv ρ = true ∧ fs.length < 1000 then selfR c fs (fun a => noI a.frz = true) (fun a ρ' => h (putD f a.frz fs) ρ') (g (.sh (.ins c fs) :: ρ.tail)) else .bad
noncomputable def nIfS (c : Str) (t : Sb) (g : Ss) (h : Sn) : Sn := fun fs ρ => if isGv ρ = true then selfR c fs (fun _ => True) (fun b ρ' => bif b then nSeqR h fs (g ρ') else h fs ρ') (t (.sh (.ins c fs) :: ρ.tail)) else .bad
end
@[simp] theorem nStoS_ap (c f : Str) (g : Sx) (h : Sn) (fs : List (Str × D)) (r : List SD) : nStoS c f g h fs (.gv :: r) = if fs.length < 1000 then selfR c fs (fun a => noI a.frz = true) (fun a ρ' => h (putD f a.frz fs) ρ') (g (.sh (.ins c fs) :: r)) else .bad := by
  unfold nStoS
  by_cases q : fs.length < 1000
  · rw [if_pos ⟨rfl, q⟩, if_pos q]; rfl
  · rw [if_neg (fun z => q z.2), if_neg q]
@[simp] theorem nIfS_ap (c : Str) (t : Sb) (g : Ss) (h : Sn) (fs : List (Str × D)) (r : List SD) : nIfS c t g h fs (.gv :: r) = selfR c fs (fun _ => True) (fun b ρ' => bif b then nSeqR h fs (g ρ') else h fs ρ') (t (.sh (.ins c fs) :: r)) := by
  unfold nIfS
  rw [if_pos (show isGv (.gv :: r) = true from rfl)]
  rfl
end Wm
end
section
namespace Wm
open PySem PySem.Spec PyProof.Rows L2
noncomputable def srcZipE (o o2 : LOp) : Src := fun ρ => (con o ρ).bind fun p => (con o2 p.2).bind fun q => if p.1.keep q.2 then .ok (⟨zipD p.1.xs (enumD q.1.xs), p.1.bor ++ q.1.bor⟩, q.2) else .bad
section
variable {X : Cx} {cl : Cl} {vs0 : List V} {Wx : WX}
def stP (s1 s2 : Tg) : Tg := fun d ρ => match d with
  | .tup [a, b] => (s1 a ρ).bind (s2 b)
  | _ => none
end
end Wm
end
section
namespace Wm
open PySem PySem.Spec PyProof.Rows L2
def rangeDn (i : Int) (n : Nat) : List D := (List.range n).map fun (k : Nat) => .int (i - k)
def rng3 (ρ : List SD) : List D → Rs (Itm × List SD)
  | [.int i, .int j, .int c] => if c = -1 ∧ rngOk i ∧ rngOk j ∧ (i - j).toNat ≤ sizeLine then .ok (⟨rangeDn i (i - j).toNat, []⟩, ρ) else .bad
  | _ => .bad
def srcRng3 (fl : List LOp) : Src := fun ρ => (ops fl ρ).bind fun q => rng3 q.2 q.1
section
variable {X : Cx} {cl : Cl} {vs0 : List V} {Wx : WX}
def revS (src : Src) : Src := fun ρ => (src ρ).bind fun p => .ok (⟨p.1.xs.reverse, p.1.bor⟩, p.2)
def mClear (_ : List D) : Rs (D × List D) := .ok (.non, [])
def addI (ρ : List SD) (i : Nat) : D → SD → Rs Fl
  | .int y, .sh (.int x) => .ok (.nx (ρ.set i (.sh (.int (x + y)))))
  | _, _ => .bad
def sAug (i : Nat) (f : Sx) : Ss := fun ρ => match ρ[i]? with
  | some (.sh (.int x)) => (f ρ).bind fun p => match p.1.frz with
    | .int y => .ok (.nx (p.2.set i (.sh (.int (x + y)))))
    | _ => .bad
  | _ => .bad
end
end Wm
end
section
namespace Wm
open PySem PySem.Spec PyProof.Rows L2
@[simp] theorem srcZipE_ap (o o2 : LOp) (ρ : List SD) : srcZipE o o2 ρ = (con o ρ).bind fun p => (con o2 p.2).bind fun q => if p.1.keep q.2 then .ok (⟨zipD p.1.xs (enumD q.1.xs), p.1.bor ++ q.1.bor⟩, q.2) else .bad := (rfl)
@[simp] theorem srcRng3_ap (fl : List LOp) (ρ : List SD) : srcRng3 fl ρ = (ops fl ρ).bind fun q => rng3 q.2 q.1 := (rfl)
@[simp] theorem revS_ap (src : Src) (ρ : List SD) : revS src ρ = (src ρ).bind fun p => .ok (⟨p.1.xs.reverse, p.1.bor⟩, p.2) := (rfl)
@[simp] theorem stP_ap (s1 s2 : Tg) (a b : D) (ρ : List SD) : stP s1 s2 (.tup [a, b]) ρ = (s1 a ρ).bind (s2 b) := (rfl)
@[simp] theorem mClear_ap (xs : List D) : mClear xs = .ok (.non, []) := (rfl)
@[simp] theorem sAug_int (i : Nat) (f : Sx) (ρ : List SD) (x : Int) (h : ρ[i]? = some (.sh (.int x))) : sAug i f ρ = (f ρ).bind fun p => match p.1.frz with
    | .int y => .ok (.nx (p.2.set i (.sh (.int (x + y)))))
    | _ => .bad := by
  unfold sAug
  rw [h]
  try rfl
end Wm
end
section
namespace Wm
open PySem PySem.Spec PyProof.Rows L2
def tupL (is : List Nat) (ρ : List SD) : SD → Rs Fl
  | .own ds => (setAll is ds ρ).bind fun ρ' => .ok (.nx ρ')
  | _ => .bad
def sTupL (is : List Nat) (f : Sx) : Ss := fun ρ => (f ρ).bind fun p => tupL is p.2 p.1
@[simp] theorem sTupL_ap (is : List Nat) (f : Sx) (ρ : List SD) : sTupL is f ρ = (f ρ).bind fun p => tupL is p.2 p.1 := (rfl)
@[simp] theorem tupL_own (is : List Nat) (ρ : List SD) (ds : List D) : tupL is ρ (.own ds) = (setAll is ds ρ).bind fun ρ' => .ok (.nx ρ') := (rfl)
end Wm
end
section
namespace Wm
open PySem PySem.Spec PyProof.Rows L2
section
variable {X : Cx} {cl : Cl} {vs0 : List V} {Wx : WX} {pos : Pos} {a b : Expr} {fl : List LOp}
def pInX (neg : Bool) : List D → Rs SD
  | [x, .lst ys] => if okN 60 x = true ∧ okN 60 (.lst ys) = true then .ok (.sh (.bl (neg ^^ ys.any fun y => eqD y x))) else .bad
  | [x, .tup ys] => if okN 60 x = true ∧ okN 60 (.tup ys) = true then .ok (.sh (.bl (neg ^^ ys.any fun y => eqD y x))) else .bad
  | _ => .bad
end
@[simp] theorem pInX_tup (neg : Bool) (x : D) (ys : List D) : pInX neg [x, .tup ys] = if okN 60 x = true ∧ okN 60 (.tup ys) = true then .ok (.sh (.bl (neg ^^ ys.any fun y => eqD y x))) else .bad := (rfl)
@[simp] theorem pInX_lst (neg : Bool) (x : D) (ys : List D) : pInX neg [x, .lst ys] = if okN 60 x = true ∧ okN 60 (.lst ys) = true then .ok (.sh (.bl (neg ^^ ys.any fun y => eqD y x))) else .bad := (rfl)
end Wm
end
section
namespace Wm
open PySem PySem.HandSPX
section
variable {M : Model} {A : Around} {E : Value → Shared → Prop} {h : Heap} {g : Array GenState} {d : Drawn} {t : Nat} {os : OsState}
variable {nm q : Str} {C N : Addr} {bs bm bmB : List Value} {hdct : Bool} {sn : List Str} {sub : List Value} {ab : Bool} {col : Option Bool} {dd : Option Addr} {k0 k1 k2 k3 k5 : Option Value} {B newId initId : String}
theorem check_new_ownK (F : ExcBaseFacts B newId initId bmB) (hT : ∀ X : String, bm.contains (.type X) = bmB.contains (.type X)) {rest : List Value} {kw : List (Str × Value)} {Q : Unit → Shared → Prop}
    (hC : h.get? C = some (excClassObj nm q C N bs bm hdct sn sub ab col dd k0 k1 k2 k3 k5 newId)) (hq : Q () ⟨h, g, d, t, os⟩) : wpAny M A (checkBuiltinCall newId ⟨.ref C :: rest, kw⟩) Q E ⟨h, g, d, t, os⟩ := by
  have hcont : (Value.ref C :: bm).contains (.type B) = true := by rw [List.contains_cons, hT, F.hasB, Bool.or_true]
  have hstar := F.noStar
  simp only [checkBuiltinCall, F.newKind, F.newSplit, F.newRow]
  repeat (first | refine wpAny_loadPart_at hC ?_ | (refine wpAny_isSubtype_exc hC ?_; rw [hcont]) | refine wpAny_staticBase_exc hC ?_ | refine wpAny_madeBy_exc hC ?_ | simp only [bne_self_eq_false, Bool.false_eq_true, if_false] | wp_step)
  exact hq
end
section
variable {prog : Program} {w : World} {A : Around} {E : Value → Shared → Prop} {R : Result → Shared → Prop} {h : Heap} {g : Array GenState} {d : Drawn} {t : Nat} {os : OsState}
variable {nm q : Str} {C N : Addr} {bs bm bmB : List Value} {hdct : Bool} {sn : List Str} {sub : List Value} {ab : Bool} {col : Option Bool} {dd : Option Addr} {k0 k1 k2 k3 k5 : Option Value} {B newId initId : String}
theorem new_ownK (F : ExcBaseFacts B newId initId bmB) (hT : ∀ X : String, bm.contains (.type X) = bmB.contains (.type X)) {rest : List Value} {kw : List (Str × Value)}
    (hC : h.get? C = some (excClassObj nm q C N bs bm hdct sn sub ab col dd k0 k1 k2 k3 k5 newId))
    (hq : R (.ok (.ret (.ref (h.objs.size + 1)))) ⟨(h.push { cls := .type "tuple", data := .seq rest.toArray }).push
      { cls := .ref C, data := .fields #[.ref h.objs.size, .none, .none, .none, .bool false, .none] }, g, d, t, os⟩) (hrest : rest.length ≤ sizeLine) :
    codeAny (model prog w) A (.builtin newId ⟨.ref C :: rest, kw⟩) R ⟨h, g, d, t, os⟩ := by
  have hends := F.ends
  have hcB : (Value.ref C :: bm).contains (.type B) = true := by rw [List.contains_cons, hT, F.hasB, Bool.or_true]
  have hcA : (Value.ref C :: bm).contains (.type "AttributeError") = false := by rw [List.contains_cons, hT, F.noAttr]; rfl
  have hcN : (Value.ref C :: bm).contains (.type "NameError") = false := by rw [List.contains_cons, hT, F.noName]; rfl
  refine codeAny_builtinAt F.entry ?_
  unfold Builtin.«BaseException.__new__»
  refine wpAt_bind ?_
  show wpAt _ _ _ (stack >>= _) _ _ _
  refine wpAt_bind (wpAt_stack fun p below => wpAt_of_wpAny ?_)
  wp_walk
  refine wpAt_of_wpAny ?_
  rw [F.owner]
  repeat (first | with_reducible refine wpAny_madeHere_exc F.canon hC ?_ | with_reducible refine wpAny_loadPart_at hC ?_ | (with_reducible refine wpAny_isSubtype_exc hC ?_; first | rw [hcB] | rw [hcA] | rw [hcN]) | wp_step)
  show R _ _
  rw [Heap.size_push]
  exact hq
theorem type_call_ownK (F : ExcBaseFacts B newId initId bmB) (hT : ∀ X : String, bm.contains (.type X) = bmB.contains (.type X)) {rest : List Value} {kw : List (Str × Value)} {fI : Addr} {Q : Fin → Shared → Prop}
    (hC : h.get? C = some (excClassObj nm q C N bs bm hdct sn sub ab col dd k0 k1 k2 k3 k5 newId))
    (hi : W.Looks (model prog w) h (typeLookup (.ref C) "__init__") (some (.ref fI))) (hb : ∀ self, W.Looks (model prog w) h (bindSpecial (.ref fI) self) (.ref fI, [self])) (hrest : rest.length ≤ sizeLine)
    (hq : codeAny (model prog w) A (.call (.ref fI) ⟨.ref (h.objs.size + 1) :: rest, kw⟩)
      (fun r s' => match r with | .ok (.ret v) => v = .none ∧ Q (.done (.ret (.ref (h.objs.size + 1)))) s' | .ok _ => False | .error e => E e s')
      ⟨(h.push (W.kdv_tup rest)).push (excO C h.objs.size), g, d, t, os⟩) :
    wpAny (model prog w) A (Builtin.«type.__call__» ⟨.ref C :: rest, kw⟩) Q E ⟨h, g, d, t, os⟩ := by
  repeat (first | with_reducible refine wpAny_loadPart_at hC ?_ | with_reducible refine wpAny_madeBy_exc hC ?_ | wp_step)
  refine codeAny_call_builtin_code (Code.quiet_builtin _ F.quiet) (check_new_ownK F hT hC ?_)
  refine new_ownK F hT hC ?_ hrest
  show wpAny _ _ _ _ _ _
  have k : ∀ b o, h.get? b = some o → ((h.push (W.kdv_tup rest)).push (excO C h.objs.size)).get? b = some o := fun b o e => Heap.get?_push_of_some _ (Heap.get?_push_of_some _ e)
  have hC₁ := k _ _ hC
  have hget : ((h.push (W.kdv_tup rest)).push (excO C h.objs.size)).get? (h.objs.size + 1) = some (excO C h.objs.size) := by heap_get
  have hcC : (Value.ref C :: bm).contains (.ref C) = true := by simp
  have i1 := hi.keeps k
  have b1 := (hb (.ref (h.objs.size + 1))).keeps k
  unfold isInstance
  repeat (first | with_reducible refine wpAny_loadPart_at hget ?_ | (with_reducible refine wpAny_isSubtype_exc hC₁ ?_; rw [hcC]) | wp_step)
  show wpAny _ _ (typeLookup (.ref C) _) _ _ _
  refine i1.at ?_
  refine wpAny_holding (wpAny_bind (b1.at ?_))
  refine wpAny_bind (wpAny_call (codeAny_mono hq fun r s' z => ?_))
  rcases r with e | (v | _ | _ | _) <;> first | exact z | exact z.elim | skip
  obtain ⟨rfl, z⟩ := z
  first
    | exact wpAny_pure (wpAny_pure z)
    | (wp_walk; exact z)
theorem call_ownK (F : ExcBaseFacts B newId initId bmB) (hT : ∀ X : String, bm.contains (.type X) = bmB.contains (.type X)) {rest : List Value} {kw : List (Str × Value)} {fI : Addr}
    (hC : h.get? C = some (excClassObj nm q C N bs bm hdct sn sub ab col dd k0 k1 k2 k3 k5 newId))
    (hi : W.Looks (model prog w) h (typeLookup (.ref C) "__init__") (some (.ref fI))) (hb : ∀ self, W.Looks (model prog w) h (bindSpecial (.ref fI) self) (.ref fI, [self])) (hrest : rest.length ≤ sizeLine)
    (hq : codeAny (model prog w) (A.under (.builtin "type.__call__" ⟨.ref C :: rest, kw⟩)) (.call (.ref fI) ⟨.ref (h.objs.size + 1) :: rest, kw⟩) (W.InitBack (h.objs.size + 1) R)
      ⟨(h.push (W.kdv_tup rest)).push (excO C h.objs.size), g, d, t, os⟩) :
    codeAny (model prog w) A (.call (.ref C) ⟨rest, kw⟩) R ⟨h, g, d, t, os⟩ := by
  have f1 := tc_lookup
  have f2 := tc_bind (.ref C)
  have hTy : (⟨h, g, d, t, os⟩ : Shared).TypeIs (.ref C) "type" := ⟨_, hC, rfl⟩
  refine codeAny_of_tree ?_
  show wpAny _ _ (callAny (.ref C) _) _ _ _
  repeat (any_goals (first | assumption | with_reducible refine wpAny_loadPart_at hC ?_ | wp_step))
  refine ⟨rfl, ?_⟩
  refine codeAny_call_builtin_at (Code.quiet_builtin _ (by decide +kernel)) entry_typeCall (wpAny_check_type_call_sub hC (type_call_ownK F hT hC hi hb hrest ?_))
  refine codeAny_mono hq fun r s' z => ?_
  rcases r with e | (v | _ | _ | _) <;> exact z
end
end Wm
end
section
namespace Wm
open PySem PySem.Spec PyProof.Rows L2
def tMkK (C : Addr) (sp : Sp) (gV : List V → List V → List V) (n l : Nat) (ta tk : TA) : L2.St → Hp → XK → Prop := fun σ H Q => ta σ H fun vs H1 => tk σ H1 fun zs H2 => vs.length = n ∧ zs.length = l ∧ n ≤ 1000 ∧ ∀ a, H2 a = none → sp (gV (.ref a :: vs) zs) (upd H2 a (exo a C none))
  (fun v H3 => v = .non ∧ ∃ (d : Addr) (fs : List (Str × V)), H3 a = some (exo a C (some d)) ∧ H3 d = some (exd d fs) ∧ H2 d = none ∧ Q (.ref C) (some d) (upd (del H3 a) d (.xd fs))) (fun _ _ _ => False)
section
variable {X : Cx} {e : Expr} {es : List Expr} {ta tk : TA} {p pos : Pos} {kws : List Keyword}
theorem pmk_oexK {CX : CXT} {x : Str} {C fI : Addr} {k n : Nat} {fd : FuncData} {ps ks : List Str} {sp : Sp} {g : List Value → List Value → List Value} {gV : List V → List V → List V} (T : OexC X.K C) (iC : PySem.W.findIn X.K (.ref C) "__init__" = some (some (.ref fI))) (tI : PySem.W.typeIn X.K (.ref fI) = some (.type "function"))
    (F1 : FnOk X.prog X.w X.K X.mg X.base CX k fI fd ps sp) (hr : Room (k + 1) X.A) (hb : KBn X.K fd ps (n + 1) ks g gV) (hx : Passes CX X (fun _ _ _ => False)) (hg : Gl X x) (hm : X.mg x = some (.ref C)) (ha : PA X (e :: es) ta) (hkw : PK X kws tk)
    (hall : (backToKw pos (keywordEach kws X.env)).all (·.1.isSome) = true := by rfl) (hks : (backToKw pos (keywordEach kws X.env)).filterMap (·.1) = ks := by rfl)
    (hdb : (x == ("__debug__" : Str)) = false := by decide) (he : starEach (e :: es) X.env = (false, eval e X.env) :: starEach es X.env := by rfl)
    (hpl : ((backTo pos (starEach (e :: es) X.env)).any (·.1) || (backToKw pos (keywordEach kws X.env)).any (·.1.isNone)) = false := by rfl) :
    PMk X (.Call (.Name x p) (e :: es) kws pos) (tMkK C sp gV n ks.length ta tk) := by
  intro pins s σ H Q I h
  obtain ⟨nm, q, N, bs, bm, sn, sub, ab, col, dd, k0, k1, k2, k3, k5, hC, hbm⟩ := T.cls
  refine wpAny_Call_Name_kw (ld_glob I hg hm ?_ hdb)
  refine PySem.W.callWith_KW (h₀ := X.base) I.ok.mod.kin T.kC hall (thn (ha.run pos pins s σ H _ I h) fun us s0 q0 => ?_) hpl he
  obtain ⟨vs, H0, I0, r0, q0⟩ := q0
  refine thn (hkw.run pos pins s0 σ H0 _ I0 q0) fun ws s1 q2 => ?_
  obtain ⟨zs, H1, I1, rz, l1, l2, l3, q1⟩ := q2
  refine ⟨I1.kIn, ?_⟩
  rw [hks]
  show wpAny _ _ (call (.ref C) us (ks.zip ws)) _ _ _
  obtain ⟨hp, g', dr, tk', os⟩ := s1
  have hsz : hp.objs.size ≤ hp.objs.size + 1 := Nat.le_succ _
  have hn : H1 (hp.objs.size + 1) = none := I1.hok.fresh hsz
  have hq := q1 (hp.objs.size + 1) hn
  have kk : ∀ b o, hp.get? b = some o → ((hp.push (PySem.W.kdv_tup us)).push (PySem.HandSPX.excO C hp.objs.size)).get? b = some o := fun b o e => Heap.get?_push_of_some _ (Heap.get?_push_of_some _ e)
  have hget : ((hp.push (PySem.W.kdv_tup us)).push (PySem.HandSPX.excO C hp.objs.size)).get? (hp.objs.size + 1) = some (PySem.HandSPX.excO C hp.objs.size) := by heap_get
  have I2 : Inv X pins σ (upd H1 (hp.objs.size + 1) (exo (hp.objs.size + 1) C none)) ⟨(hp.push (PySem.W.kdv_tup us)).push (PySem.HandSPX.excO C hp.objs.size), g', dr, tk', os⟩ :=
    I1.laid (t' := tk') (a := hp.objs.size + 1) (o := exo (hp.objs.size + 1) C none) (h' := (hp.push (PySem.W.kdv_tup us)).push (PySem.HandSPX.excO C hp.objs.size)) kk hsz (exo_ok hget)
  have r2 : Vals (V.ref (hp.objs.size + 1) :: vs) (Value.ref (hp.objs.size + 1) :: us) := .cons rfl r0
  have lus : us.length = n := r0.length.symm.trans l1
  have lws : ws.length = ks.length := rz.length.symm.trans l2
  have hus : us.length ≤ sizeLine := by
    rw [lus, sizeLine_eq]
    omega
  refine wpAny_call (call_ownK F.excBase_ValueError (fun Y => PySem.HandSPX.refsVE_contains Y bm hbm) (I1.kIn _ _ hC) (PySem.W.looks_findIn I1.kIn iC) (fun self => PySem.W.bind_fn I1.kIn self tI) hus
    (codeAny_mono (F1.run _ X.stack _ _ ⟨Value.ref (hp.objs.size + 1) :: us, ks.zip ws⟩ (g (Value.ref (hp.objs.size + 1) :: us) ws) _ _ (fun _ _ _ => False) (hr.make C us (ks.zip ws)) (I2.env0.make C us (ks.zip ws)) (hb.to _ (Value.ref (hp.objs.size + 1) :: us) ws I2.kIn (by rw [List.length_cons, lus]) lws) (hb.rel r2 rz) hq) fun r s' hq' => ?_))
  cases r with
  | error er => exact hx pins σ _ _ er s' I2 hq'
  | ok fl =>
    cases fl with
    | ret u =>
      obtain ⟨v, H2, os2, bare2, un2, hok2, rv, ev, d, fs, ea, ed, hd1, q2⟩ := hq'
      subst ev
      obtain ⟨h2, g2, d2, t2, os'⟩ := s'
      exact ⟨rv, mk_end (raises_own T.exC T.tyC) I1 hsz kk un2 hok2 os2 bare2 ea ed hd1 q2⟩
    | next => exact False.elim hq'
    | brk => exact False.elim hq'
    | cont => exact False.elim hq'
end
def spI2 (K : PySem.W.Frag) (C : Addr) (f g : Str) : Sp := fun vs H Q E => ∃ (a : Addr) (w v : V), vs = [.ref a, w, v] ∧ OexC K C ∧ PySem.W.findIn K (.ref C) f = some none ∧ PySem.W.findIn K (.ref C) g = some none ∧ H a = some (exo a C none) ∧ ∀ dx, H dx = none → dx ≠ a → Q .non (upd (upd (upd H dx (exd dx [(f, w)])) a (exo a C (some dx))) dx (exd dx [(g, v), (f, w)]))
theorem init2_sound {K : PySem.W.Frag} {C : Addr} {f g : Str} {m : Str} {vs : List V} {H : Hp} {Q : VK} {E : XK} (h : spI2 K C f g vs H Q E) :
    tSeq (tDrop (tVeI K (tCons (tVar 0) (tCons (tC (.str m)) tNil)))) (tSeq (tOst K f (tVar 0) (tVar 1)) (tOst K g (tVar 0) (tVar 2))) { nx := fun _ H' => Q .non H', rt := Q } (vs.map some) H := by
  obtain ⟨a, w, v, rfl, T, hf, hg, ha, q⟩ := h
  refine ⟨_, rfl, a, C, _, rfl, by show 1 ≤ 1000; decide, T, ha, ?_⟩
  refine ⟨_, rfl, _, rfl, a, C, rfl, T, hf, .inl ⟨ha, fun dx n ne => ?_⟩⟩
  refine ⟨_, rfl, _, rfl, a, C, rfl, T, hg, .inr ⟨dx, [(f, w)], upd_same, ?_, by show 1 ≤ 900; decide, q dx n ne⟩⟩
  rw [upd_ne ne, upd_same]
theorem spI2_len {K : PySem.W.Frag} {C : Addr} {f g : Str} : ∀ vs H Q E, spI2 K C f g vs H Q E → vs.length = 3 := fun vs H Q E h => by
  obtain ⟨a, w, v, rfl, _⟩ := h
  rfl
end Wm
end
section
namespace Wm
open PySem PySem.Spec PyProof.Rows L2
def sRaiseS (c f g m : Str) (fx : Sx) : Ss := fun ρ => (fx ρ).bind fun p => .exc c [(g, p.1.frz), (f, .str m)] p.2
@[simp] theorem sRaiseS_ap (c f g m : Str) (fx : Sx) (ρ : List SD) : sRaiseS c f g m fx ρ = (fx ρ).bind fun p => .exc c [(g, p.1.frz), (f, .str m)] p.2 := (rfl)
end Wm
end
section
namespace Wm
open PySem PySem.Spec PyProof.Rows L2
def idxR (ρ : List SD) : Option Nat → Rs (SD × List SD)
  | some j => .ok (.sh (.int (j : Nat)), ρ)
  | none => .bad
def idxO (d : D) (ρ : List SD) : SD → Rs (SD × List SD)
  | .own xs => if okN 60 (.lst xs) = true ∧ okN 60 d = true then idxR ρ (xs.findIdx? fun y => eqD y d) else .bad
  | _ => .bad
def xIdx (d : D) (fx : Sx) : Sx := fun ρ => (fx ρ).bind fun p => idxO d p.2 p.1
@[simp] theorem xIdx_ap (d : D) (fx : Sx) (ρ : List SD) : xIdx d fx ρ = (fx ρ).bind fun p => idxO d p.2 p.1 := (rfl)
@[simp] theorem idxO_own (d : D) (ρ : List SD) (xs : List D) : idxO d ρ (.own xs) = if okN 60 (.lst xs) = true ∧ okN 60 d = true then idxR ρ (xs.findIdx? fun y => eqD y d) else .bad := (rfl)
@[simp] theorem idxR_some (ρ : List SD) (j : Nat) : idxR ρ (some j) = .ok (.sh (.int (j : Nat)), ρ) := (rfl)
end Wm
end
section
namespace Wm
open PySem PySem.Spec PyProof.Rows L2
def getI (kvs : List (Int × D)) (k : Int) : Option D := (kvs.find? fun kv => decide (kv.1 = k)).map (·.2)
def dropI (kvs : List (Int × D)) (k : Int) : List (Int × D) := kvs.filter fun kv => decide (kv.1 ≠ k)
def dctO : Option SD → Rs (List (Int × D))
  | some (.od kvs) => .ok kvs
  | some (.sh (.dct kvs)) => .ok kvs
  | _ => .bad
def odO : Option SD → Rs (List (Int × D))
  | some (.od kvs) => .ok kvs
  | _ => .bad
def withK {α : Type} (s : SD) (k : Int → Rs α) : Rs α := match s with
  | .sh (.int i) => k i
  | _ => .bad
@[simp] theorem withK_int {α : Type} (i : Int) (k : Int → Rs α) : withK (.sh (.int i)) k = k i := (rfl)
section
variable {X : Cx} {cl : Cl} {vs0 : List V} {Wx : WX} {e o a b : Expr} {f g : Sx} {i : Nat} {pos : Pos}
def xDIn (neg : Bool) (f : Sx) (i : Nat) : Sx := fun ρ => (f ρ).bind fun p => (dctO p.2[i]?).bind fun kvs => withK p.1 fun k => .ok (.sh (.bl (neg ^^ (getI kvs k).isSome)), p.2)
end
end Wm
end
section
namespace Wm
open PySem PySem.Spec PyProof.Rows L2
section
variable {X : Cx} {cl : Cl} {vs0 : List V} {Wx : WX} {e o a b : Expr} {f g : Sx} {i : Nat} {pos : Pos}
def xDGet (i : Nat) (f : Sx) : Sx := fun ρ => (dctO ρ[i]?).bind fun _ => (f ρ).bind fun p => (dctO p.2[i]?).bind fun kvs => withK p.1 fun k => match getI kvs k with
  | some d => .ok (.sh d, p.2)
  | none => .bad
def xDGet2 (i : Nat) (f g : Sx) : Sx := fun ρ => (dctO ρ[i]?).bind fun _ => (f ρ).bind fun p => (g p.2).bind fun q => (dctO q.2[i]?).bind fun kvs => withK p.1 fun k => match getI kvs k with
  | some d => .ok (.sh d, q.2)
  | none => .ok (.sh q.1.frz, q.2)
def sDPut (i : Nat) (f g : Sx) : Ss := fun ρ => (g ρ).bind fun p => (odO p.2[i]?).bind fun _ => (f p.2).bind fun q => (odO q.2[i]?).bind fun kvs => withK q.1 fun k =>
  if kvs.length < sizeLine then .ok (.nx (q.2.set i (.od (putI kvs k p.1.frz)))) else .bad
def xDPop (i : Nat) (f : Sx) : Sx := fun ρ => (odO ρ[i]?).bind fun _ => (f ρ).bind fun p => (odO p.2[i]?).bind fun kvs => withK p.1 fun k => match getI kvs k with
  | some d => .ok (.sh d, p.2.set i (.od (dropI kvs k)))
  | none => .bad
def xDNew : Sx := fun ρ => .ok (.od [], ρ)
def xDOne (f g : Sx) : Sx := fun ρ => (f ρ).bind fun p => (g p.2).bind fun q => withK p.1 fun k => .ok (.od [(k, q.1.frz)], q.2)
end
end Wm
end
section
namespace Wm
open PySem PySem.Spec PyProof.Rows L2
section
variable {X : Cx} {cl : Cl} {vs0 : List V} {Wx : WX} {o : Expr} {i : Nat} {pos p2 : Pos}
def bDNe (neg : Bool) (i : Nat) : Sb := fun ρ => (dctO ρ[i]?).bind fun kvs => .ok (neg ^^ kvs.isEmpty, ρ)
end
section
variable {X : Cx} {cl : Cl} {vs0 : List V} {Wx : WX}
noncomputable def dcL (m : Itm) (st : Tg) (test : Sb) (fk fv : Sx) (vs : List Nat) : List D → List (Int × D) → List SD → Rs (List (Int × D) × List SD)
  | [], acc, ρ => .ok (acc, ρ)
  | d :: ds, acc, ρ => match st d ρ with
    | some ρ1 => match test ρ1 with
      | .ok (true, ρ2) => match fk ρ2 with
        | .ok (.sh (.int k), ρ3) => match fv ρ3 with
          | .ok (r, ρ4) => if m.keep (wipeR ρ4 vs) then dcL m st test fk fv vs ds (putI acc k r.frz) (wipeR ρ4 vs) else .bad
          | _ => .bad
        | _ => .bad
      | .ok (false, ρ2) => if m.keep (wipeR ρ2 vs) then dcL m st test fk fv vs ds acc (wipeR ρ2 vs) else .bad
      | _ => .bad
    | none => .bad
noncomputable def xDc (src : Src) (st : Tg) (test : Sb) (fk fv : Sx) (vs : List Nat) : Sx := fun ρ => (src ρ).bind fun p => if p.1.keep (wipeR p.2 vs) ∧ (∀ b ∈ p.1.bor, b.1 ∉ vs) then
  match dcL p.1 st test fk fv vs p.1.xs [] (wipeR p.2 vs) with
  | .ok (kvs, ρ') => .ok (.od kvs, backR p.2 ρ' vs)
  | _ => .bad
  else .bad
variable {kx vx tg iter : Expr} {ifs : List Expr} {scope : Scope} {own : List (Str × Nat)} {pos : Pos} {src : Src} {st : Tg} {is : List Nat} {test : Sb} {fk fv : Sx}
end
end Wm
end
section
namespace Wm
open PySem PySem.Spec PyProof.Rows L2
section
variable {X : Cx} {cl : Cl} {vs0 : List V} {Wx : WX}
def pSortT : List D → Rs SD
  | [.tup xs] => match asInts xs with
    | some ns => if ns.length ≤ sizeLine then .ok (.own ((isrt ns).map D.int)) else .bad
    | none => .bad
  | _ => .bad
@[simp] theorem pSortT_two (a b : Int) : pSortT [.tup [.int a, .int b]] = .ok (.own [.int (min a b), .int (max a b)]) := by
  have h2 : ([a, b] : List Int).length ≤ sizeLine := by show 2 ≤ sizeLine; decide
  have e : isrt [a, b] = [min a b, max a b] := by
    by_cases h : a ≤ b
    · rw [isrt_self (by simp [h]), Int.min_eq_left h, Int.max_eq_right h]
    · rw [Int.min_eq_right (by omega), Int.max_eq_left (by omega)]
      exact (isrt_of (List.Perm.swap a b []) (by simp; omega)).symm
  show (if ([a, b] : List Int).length ≤ sizeLine then Rs.ok (SD.own ((isrt [a, b]).map D.int)) else .bad) = _
  rw [if_pos h2, e]; rfl
end
end Wm
end
section
namespace Wm
open PySem PySem.Spec PyProof.Rows L2
@[simp] theorem xDNew_ap (ρ : List SD) : xDNew ρ = .ok (.od [], ρ) := (rfl)
@[simp] theorem xDOne_ap (f g : Sx) (ρ : List SD) : xDOne f g ρ = (f ρ).bind fun p => (g p.2).bind fun q => withK p.1 fun k => .ok (.od [(k, q.1.frz)], q.2) := (rfl)
@[simp] theorem xDIn_ap (neg : Bool) (f : Sx) (i : Nat) (ρ : List SD) : xDIn neg f i ρ = (f ρ).bind fun p => (dctO p.2[i]?).bind fun kvs => withK p.1 fun k => .ok (.sh (.bl (neg ^^ (getI kvs k).isSome)), p.2) := (rfl)
def okO (ρ : List SD) : Option D → Rs (SD × List SD)
  | some d => .ok (.sh d, ρ)
  | none => .bad
@[simp] theorem okO_some (ρ : List SD) (d : D) : okO ρ (some d) = .ok (.sh d, ρ) := (rfl)
@[simp] theorem okO_none (ρ : List SD) : okO ρ none = .bad := (rfl)
def orO (ρ : List SD) (x : D) : Option D → Rs (SD × List SD)
  | some d => .ok (.sh d, ρ)
  | none => .ok (.sh x, ρ)
@[simp] theorem orO_some (ρ : List SD) (x d : D) : orO ρ x (some d) = .ok (.sh d, ρ) := (rfl)
@[simp] theorem orO_none (ρ : List SD) (x : D) : orO ρ x none = .ok (.sh x, ρ) := (rfl)
@[simp] theorem xDGet_ap (i : Nat) (f : Sx) (ρ : List SD) : xDGet i f ρ = (dctO ρ[i]?).bind fun _ => (f ρ).bind fun p => (dctO p.2[i]?).bind fun kvs => withK p.1 fun k => okO p.2 (getI kvs k) := (rfl)
@[simp] theorem xDGet2_ap (i : Nat) (f g : Sx) (ρ : List SD) : xDGet2 i f g ρ = (dctO ρ[i]?).bind fun _ => (f ρ).bind fun p => (g p.2).bind fun q => (dctO q.2[i]?).bind fun kvs => withK p.1 fun k => orO q.2 q.1.frz (getI kvs k) := (rfl)
@[simp] theorem sDPut_ap (i : Nat) (f g : Sx) (ρ : List SD) : sDPut i f g ρ = (g ρ).bind fun p => (odO p.2[i]?).bind fun _ => (f p.2).bind fun q => (odO q.2[i]?).bind fun kvs => withK q.1 fun k =>
  if kvs.length < sizeLine then .ok (.nx (q.2.set i (.od (putI kvs k p.1.frz)))) else .bad := (rfl)
def popO (i : Nat) (kvs : List (Int × D)) (k : Int) (ρ : List SD) : Option D → Rs (SD × List SD)
  | some d => .ok (.sh d, ρ.set i (.od (dropI kvs k)))
  | none => .bad
@[simp] theorem popO_some (i : Nat) (kvs : List (Int × D)) (k : Int) (ρ : List SD) (d : D) : popO i kvs k ρ (some d) = .ok (.sh d, ρ.set i (.od (dropI kvs k))) := (rfl)
@[simp] theorem xDPop_ap (i : Nat) (f : Sx) (ρ : List SD) : xDPop i f ρ = (odO ρ[i]?).bind fun _ => (f ρ).bind fun p => (odO p.2[i]?).bind fun kvs => withK p.1 fun k => popO i kvs k p.2 (getI kvs k) := (rfl)
@[simp] theorem bDNe_ap (neg : Bool) (i : Nat) (ρ : List SD) : bDNe neg i ρ = (dctO ρ[i]?).bind fun kvs => .ok (neg ^^ kvs.isEmpty, ρ) := (rfl)
@[simp] theorem dctO_od (kvs : List (Int × D)) : dctO (some (.od kvs)) = .ok kvs := (rfl)
@[simp] theorem dctO_sh (kvs : List (Int × D)) : dctO (some (.sh (.dct kvs))) = .ok kvs := (rfl)
@[simp] theorem odO_od (kvs : List (Int × D)) : odO (some (.od kvs)) = .ok kvs := (rfl)
@[simp] theorem frz_od (kvs : List (Int × D)) : (SD.od kvs).frz = .dct kvs := (rfl)
@[simp] theorem varV_od (i : Nat) (ρ : List SD) (kvs : List (Int × D)) : varV i ρ (some (.od kvs)) = .ok (.sh (.dct kvs), ρ.set i (.sh (.dct kvs))) := (rfl)
@[simp] theorem retV_od (i : Nat) (ρ : List SD) (kvs : List (Int × D)) : retV i ρ (some (.od kvs)) = .ok (.rt (.od kvs) (ρ.set i .no)) := (rfl)
@[simp] theorem getI_nil (j : Int) : getI [] j = none := (rfl)
def dcBack (vs : List Nat) (ρ : List SD) : Rs (List (Int × D) × List SD) → Rs (SD × List SD)
  | .ok (kvs, ρ') => .ok (.od kvs, backR ρ ρ' vs)
  | _ => .bad
@[simp] theorem dcBack_ok (vs : List Nat) (ρ ρ' : List SD) (kvs : List (Int × D)) : dcBack vs ρ (.ok (kvs, ρ')) = .ok (.od kvs, backR ρ ρ' vs) := (rfl)
noncomputable def dcGo (st : Tg) (test : Sb) (fk fv : Sx) (vs : List Nat) (m : Itm) (ρ : List SD) : Rs (SD × List SD) := if m.keep (wipeR ρ vs) ∧ (∀ b ∈ m.bor, b.1 ∉ vs) then dcBack vs ρ (dcL m st test fk fv vs m.xs [] (wipeR ρ vs)) else .bad
@[simp] theorem xDc_ap (src : Src) (st : Tg) (test : Sb) (fk fv : Sx) (vs : List Nat) (ρ : List SD) : xDc src st test fk fv vs ρ = (src ρ).bind fun p => dcGo st test fk fv vs p.1 p.2 := (rfl)
end Wm
end
section
namespace Wm
open PySem PySem.Spec PyProof.Rows L2
section
variable {X : Cx} {cl : Cl} {vs0 : List V} {Wx : WX} {e b : Expr} {p p2 pos : Pos} {kws : List Keyword} {tk : TA}
theorem pe_mkv {t : L2.St → Hp → XK → Prop} (he : PMk X e t) : PE X e (fun σ H Q => t σ H fun cls d H' => ∀ a, H' a = none → Q (.ref a) (upd H' a (ExV cls d a))) := by
  refine ⟨fun pins s σ H Q I h => ?_⟩
  refine wpAny_mono (he pins s σ H _ I h) (fun u s1 hu => ?_) fun _ _ x => x
  obtain ⟨a, oe, vs, sI, H', cls, d, rfl, J, k, hne, ha, hz, hd, h1, na, os, ag, r, q⟩ := hu
  refine ⟨.ref a, upd H' a (ExV cls d a), ?_, rfl, q a na⟩
  have un : Un (frs X.stack) [] H' (upd H' a (ExV cls d a)) sI.heap s1.heap := {
    keep := fun b u q _ _ _ => k b u q
    slot := fun b u q _ _ _ => ⟨u.slots, k b u q⟩
    free := fun b u q n _ => by rw [upd_ne (fun z => by rw [z, hne] at q; cases q)]; exact n
    there := fun b u q _ => ⟨u, k b u q⟩
    tups := fun b xs q => by rw [upd_ne (ne_of_none q na)]; exact q
    frzs := fun b u xs q => by rw [upd_ne (ne_of_none q na)]; exact q
    tbls := fun b ps q => ⟨#[], by rw [upd_ne (ne_of_none q na), q]; simp⟩ }
  refine J.call' (ch := []) os un (fun b u ee => ?_) ag (fun b z => absurd z (by simp))
  by_cases hb : b = a
  · subst hb
    rw [upd_same] at ee
    cases ee
    exact ⟨⟨oe, vs, ha, hz, hd⟩, ⟨oe, ha⟩, fun _ _ ⟨o, v, q, r⟩ kk => ⟨o, v, kk o q, r⟩⟩
  · rw [upd_ne hb] at ee
    exact (J.hok b u ee).stay (fun c v _ q => k c v q) (fun c q => by rw [upd_ne (ne_of_none q na)]; exact q) fun c xs q => by rw [upd_ne (ne_of_none q na)]; exact q
theorem pmk_oexK0 {CX : CXT} {x : Str} {C fI : Addr} {k : Nat} {fd : FuncData} {ps ks : List Str} {sp : Sp} {g : List Value → List Value → List Value} {gV : List V → List V → List V} (T : OexC X.K C) (iC : PySem.W.findIn X.K (.ref C) "__init__" = some (some (.ref fI))) (tI : PySem.W.typeIn X.K (.ref fI) = some (.type "function"))
    (F1 : FnOk X.prog X.w X.K X.mg X.base CX k fI fd ps sp) (hr : Room (k + 1) X.A) (hb : KBn X.K fd ps 1 ks g gV) (hx : Passes CX X (fun _ _ _ => False)) (hg : Gl X x) (hm : X.mg x = some (.ref C)) (hkw : PK X kws tk)
    (hall : (backToKw pos (keywordEach kws X.env)).all (·.1.isSome) = true) (hks : (backToKw pos (keywordEach kws X.env)).filterMap (·.1) = ks)
    (hdb : (x == ("__debug__" : Str)) = false)
    (hpl : ((backTo pos (starEach [] X.env)).any (·.1) || (backToKw pos (keywordEach kws X.env)).any (·.1.isNone)) = false) :
    PMk X (.Call (.Name x p) [] kws pos) (tMkK C sp gV 0 ks.length tNil tk) := by
  intro pins s σ H Q I h
  obtain ⟨nm, q, N, bs, bm, sn, sub, ab, col, dd, k0, k1, k2, k3, k5, hC, hbm⟩ := T.cls
  refine wpAny_Call_Name_kw (ld_glob I hg hm ?_ hdb)
  refine PySem.W.callWith_KW0 (first := []) (h₀ := X.base) I.ok.mod.kin T.kC hall (thn (hkw.run pos pins s σ H _ I h) fun ws s1 q2 => ?_) hpl
  obtain ⟨zs, H1, I1, rz, l1, l2, l3, q1⟩ := q2
  refine ⟨I1.kIn, ?_⟩
  rw [hks]
  show wpAny _ _ (call (.ref C) [] (ks.zip ws)) _ _ _
  obtain ⟨hp, g', dr, tk', os⟩ := s1
  have hsz : hp.objs.size ≤ hp.objs.size + 1 := Nat.le_succ _
  have hn : H1 (hp.objs.size + 1) = none := I1.hok.fresh hsz
  have hq := q1 (hp.objs.size + 1) hn
  have kk : ∀ b o, hp.get? b = some o → ((hp.push (PySem.W.kdv_tup [])).push (PySem.HandSPX.excO C hp.objs.size)).get? b = some o := fun b o e => Heap.get?_push_of_some _ (Heap.get?_push_of_some _ e)
  have hget : ((hp.push (PySem.W.kdv_tup [])).push (PySem.HandSPX.excO C hp.objs.size)).get? (hp.objs.size + 1) = some (PySem.HandSPX.excO C hp.objs.size) := by heap_get
  have I2 : Inv X pins σ (upd H1 (hp.objs.size + 1) (exo (hp.objs.size + 1) C none)) ⟨(hp.push (PySem.W.kdv_tup [])).push (PySem.HandSPX.excO C hp.objs.size), g', dr, tk', os⟩ :=
    I1.laid (t' := tk') (a := hp.objs.size + 1) (o := exo (hp.objs.size + 1) C none) (h' := (hp.push (PySem.W.kdv_tup [])).push (PySem.HandSPX.excO C hp.objs.size)) kk hsz (exo_ok hget)
  have r2 : Vals [V.ref (hp.objs.size + 1)] [Value.ref (hp.objs.size + 1)] := .cons rfl .nil
  have lws : ws.length = ks.length := rz.length.symm.trans l2
  have hus : ([] : List Value).length ≤ sizeLine := Nat.zero_le _
  refine wpAny_call (call_ownK F.excBase_ValueError (fun Y => PySem.HandSPX.refsVE_contains Y bm hbm) (I1.kIn _ _ hC) (PySem.W.looks_findIn I1.kIn iC) (fun self => PySem.W.bind_fn I1.kIn self tI) hus
    (codeAny_mono (F1.run _ X.stack _ _ ⟨[Value.ref (hp.objs.size + 1)], ks.zip ws⟩ (g [Value.ref (hp.objs.size + 1)] ws) _ _ (fun _ _ _ => False) (hr.make C [] (ks.zip ws)) (I2.env0.make C [] (ks.zip ws)) (hb.to _ [Value.ref (hp.objs.size + 1)] ws I2.kIn rfl lws) (hb.rel r2 rz) hq) fun r s' hq' => ?_))
  cases r with
  | error er => exact hx pins σ _ _ er s' I2 hq'
  | ok fl =>
    cases fl with
    | ret u =>
      obtain ⟨v, H2, os2, bare2, un2, hok2, rv, ev, d, fs, ea, ed, hd1, q2⟩ := hq'
      subst ev
      obtain ⟨h2, g2, d2, t2, os'⟩ := s'
      exact ⟨rv, mk_end (raises_own T.exC T.tyC) I1 hsz kk un2 hok2 os2 bare2 ea ed hd1 q2⟩
    | next => exact False.elim hq'
    | brk => exact False.elim hq'
    | cont => exact False.elim hq'
def xExn (c : Str) (fs : List Str) (i : Nat) : Sx := fun ρ => match (ρ[i]? : Option SD) with
  | some (.sh d) => .ok (.sh (.exn c (fs.map fun f => (f, d))), ρ)
  | _ => .bad
theorem rpF_all {G : Gx} {O : List Addr} {H : Hp} {d : D} {v : V} (h : Rp G O H d v) : ∀ fs : List Str, RpF G O H (fs.map fun f => (f, d)) (fs.map fun f => (f, v))
  | [] => by simp only [List.map_nil, RpF]
  | f :: fs => by
    simp only [List.map_cons, RpF]
    exact ⟨v, _, rfl, h, rpF_all h fs⟩
theorem exn_end {O W : List Addr} {σ : L2.St} {H : Hp} {ρ : List SD} {Q : VK} {c : Str} {fs : List Str} {d : D} {v : V} {dx : Addr} (sr : SR (gx X cl) vs0 O W σ H ρ) (hv : Rp (gx X cl) O H d v) (nd : H dx = none)
    (hw : AftE (gx X cl) vs0 Wx O W σ H Q (.ok (.sh (.exn c (fs.map fun f => (f, d))), ρ))) : ∀ a, upd H dx (.xd (fs.map fun f => (f, v))) a = none → Q (.ref a) (upd (upd H dx (.xd (fs.map fun f => (f, v)))) a (ExV (.ref (cl.at' c)) (some dx) a)) := by
  intro a na
  have ne : a ≠ dx := fun z => by rw [z, upd_same] at na; cases na
  have na1 : H a = none := by rw [upd_ne ne] at na; exact na
  have sm : Same H (upd (upd H dx (.xd (fs.map fun f => (f, v)))) a (ExV (.ref (cl.at' c)) (some dx) a)) := fun b o h => same_upd na b o (same_upd nd b o h)
  refine hw (.ref a) O W _ (Stp.same sm) (sr.same sm) ?_
  show Rp (gx X cl) O _ (.exn c (fs.map fun f => (f, d))) (.ref a)
  simp only [Rp]
  refine ⟨a, dx, fs.map fun f => (f, v), rfl, upd_same, fun z => sr.wf.trk a z (noD_none na1), ?_, fun z => sr.wf.trk dx z (noD_none nd), rpF_all (hv.step sr.wf (Stp.same sm)) fs⟩
  rw [upd_ne (Ne.symm ne), upd_same]
theorem eH1 {H1 : Hp} {a dx C : Addr} {f : Str} {v : V} (na : H1 a = none) (ne : dx ≠ a) : upd (del (upd (upd (upd H1 a (exo a C none)) dx (exd dx [(f, v)])) a (exo a C (some dx))) a) dx (.xd [(f, v)]) = upd H1 dx (.xd [(f, v)]) := by
  funext b
  by_cases e1 : b = dx
  · subst e1; rw [upd_same, upd_same]
  · rw [upd_ne e1, upd_ne e1]
    by_cases e2 : b = a
    · subst e2; rw [del_same, na]
    · rw [del_ne e2, upd_ne e2, upd_ne e1, upd_ne e2]
theorem eH2 {H1 : Hp} {a dx C : Addr} {f g : Str} {v u : V} (na : H1 a = none) (ne : dx ≠ a) : upd (del (upd (upd (upd (upd H1 a (exo a C none)) dx (exd dx [(f, u)])) a (exo a C (some dx))) dx (exd dx [(g, v), (f, u)])) a) dx (.xd [(g, v), (f, u)]) = upd H1 dx (.xd [(g, v), (f, u)]) := by
  funext b
  by_cases e1 : b = dx
  · subst e1; rw [upd_same, upd_same]
  · rw [upd_ne e1, upd_ne e1]
    by_cases e2 : b = a
    · subst e2; rw [del_same, na]
    · rw [del_ne e2, upd_ne e1, upd_ne e2, upd_ne e1, upd_ne e2]
section
variable {CX : CXT} {x c f g y : Str} {fI : Addr} {k i : Nat} {fd : FuncData} {ps : List Str}
theorem ej_exn1 (T : OexC X.K (cl.at' c)) (hf : PySem.W.findIn X.K (.ref (cl.at' c)) f = some none) (iC : PySem.W.findIn X.K (.ref (cl.at' c)) "__init__" = some (some (.ref fI))) (tI : PySem.W.typeIn X.K (.ref fI) = some (.type "function"))
    (F1 : FnOk X.prog X.w X.K X.mg X.base CX k fI fd ps (spI1 X.K (cl.at' c) f)) (hr : Room (k + 1) X.A) (hb : Binds X.K fd ps []) (hx : Passes CX X (fun _ _ _ => False)) (hg : Gl X x) (hm : X.mg x = some (.ref (cl.at' c))) (py : PE X (.Name y p2) (tVar i))
    (hdb : (x == ("__debug__" : Str)) = false := by decide) (he : starEach [.Name y p2] X.env = (false, eval (.Name y p2) X.env) :: starEach [] X.env := by rfl) (hpl : (backTo pos (starEach [] X.env)).any (·.1) = false := by rfl) :
    EJ X cl vs0 Wx (.Call (.Name x p) [.Name y p2] [] pos) (xExn c [f] i) := by
  refine ⟨⟨_, pe_mkv (pmk_oex T iC tI F1 hr hb .nil hx hg hm (pa_cons py pa_nil) hdb he hpl), fun O W σ H ρ Q sr hw => ?_⟩⟩
  unfold xExn at hw
  split at hw
  · rename_i d e0
    obtain ⟨v, ev, rv⟩ := sr.get e0
    refine ⟨v, ev, by show 1 ≤ 1000; decide, fun a na => ⟨a, v, rfl, T, hf, upd_same, fun dx nd ne => ⟨rfl, dx, [(f, v)], upd_same, ?_, ?_, ?_⟩⟩⟩
    · rw [upd_ne ne, upd_same]
    · rw [upd_ne ne] at nd; exact nd
    · have nd1 : H dx = none := by rw [upd_ne ne] at nd; exact nd
      rw [eH1 na ne]
      exact exn_end (fs := [f]) sr rv nd1 hw
  · exact hw.elim
theorem ej_exnK {nm : Option Str} {kp : Pos} (T : OexC X.K (cl.at' c)) (hf : PySem.W.findIn X.K (.ref (cl.at' c)) f = some none) (iC : PySem.W.findIn X.K (.ref (cl.at' c)) "__init__" = some (some (.ref fI))) (tI : PySem.W.typeIn X.K (.ref fI) = some (.type "function"))
    (F1 : FnOk X.prog X.w X.K X.mg X.base CX k fI fd ps (spI1 X.K (cl.at' c) f)) (hr : Room (k + 1) X.A) (hb : KBs X.K fd ps 1 [f] [.arg 0, .arg 1]) (hx : Passes CX X (fun _ _ _ => False)) (hg : Gl X x) (hm : X.mg x = some (.ref (cl.at' c))) (py : PE X (.Name y p2) (tVar i))
    (hall : (backToKw pos (keywordEach [⟨nm, .Name y p2, kp⟩] X.env)).all (·.1.isSome) = true := by rfl) (hks : (backToKw pos (keywordEach [⟨nm, .Name y p2, kp⟩] X.env)).filterMap (·.1) = [f] := by rfl)
    (hdb : (x == ("__debug__" : Str)) = false := by decide) (hpl : ((backTo pos (starEach [] X.env)).any (·.1) || (backToKw pos (keywordEach [⟨nm, .Name y p2, kp⟩] X.env)).any (·.1.isNone)) = false := by rfl) :
    EJ X cl vs0 Wx (.Call (.Name x p) [] [⟨nm, .Name y p2, kp⟩] pos) (xExn c [f] i) := by
  obtain ⟨gU, hb⟩ := hb.ex
  refine ⟨⟨_, pe_mkv (pmk_oexK0 T iC tI F1 hr hb hx hg hm (pk_cons py pk_nil) hall hks hdb hpl), fun O W σ H ρ Q sr hw => ?_⟩⟩
  unfold xExn at hw
  split at hw
  · rename_i d e0
    obtain ⟨v, ev, rv⟩ := sr.get e0
    refine ⟨v, ev, rfl, rfl, Nat.zero_le _, fun a na => ⟨a, v, rfl, T, hf, upd_same, fun dx nd ne => ⟨rfl, dx, [(f, v)], upd_same, ?_, ?_, ?_⟩⟩⟩
    · rw [upd_ne ne, upd_same]
    · rw [upd_ne ne] at nd; exact nd
    · have nd1 : H dx = none := by rw [upd_ne ne] at nd; exact nd
      rw [eH1 na ne]
      exact exn_end (fs := [f]) sr rv nd1 hw
  · exact hw.elim
theorem ej_exn2 {nm : Option Str} {kp p3 : Pos} (T : OexC X.K (cl.at' c)) (hf : PySem.W.findIn X.K (.ref (cl.at' c)) f = some none) (hg' : PySem.W.findIn X.K (.ref (cl.at' c)) g = some none) (iC : PySem.W.findIn X.K (.ref (cl.at' c)) "__init__" = some (some (.ref fI))) (tI : PySem.W.typeIn X.K (.ref fI) = some (.type "function"))
    (F1 : FnOk X.prog X.w X.K X.mg X.base CX k fI fd ps (spI2 X.K (cl.at' c) f g)) (hr : Room (k + 1) X.A) (hb : KBs X.K fd ps 2 [g] [.arg 0, .arg 1, .arg 2]) (hx : Passes CX X (fun _ _ _ => False)) (hg : Gl X x) (hm : X.mg x = some (.ref (cl.at' c))) (py : PE X (.Name y p2) (tVar i)) (py3 : PE X (.Name y p3) (tVar i))
    (hall : (backToKw pos (keywordEach [⟨nm, .Name y p3, kp⟩] X.env)).all (·.1.isSome) = true := by rfl) (hks : (backToKw pos (keywordEach [⟨nm, .Name y p3, kp⟩] X.env)).filterMap (·.1) = [g] := by rfl)
    (hdb : (x == ("__debug__" : Str)) = false := by decide) (he : starEach [.Name y p2] X.env = (false, eval (.Name y p2) X.env) :: starEach [] X.env := by rfl)
    (hpl : ((backTo pos (starEach [.Name y p2] X.env)).any (·.1) || (backToKw pos (keywordEach [⟨nm, .Name y p3, kp⟩] X.env)).any (·.1.isNone)) = false := by rfl) :
    EJ X cl vs0 Wx (.Call (.Name x p) [.Name y p2] [⟨nm, .Name y p3, kp⟩] pos) (xExn c [g, f] i) := by
  obtain ⟨gU, hb⟩ := hb.ex
  refine ⟨⟨_, pe_mkv (pmk_oexK (n := 1) T iC tI F1 hr hb hx hg hm (pa_cons py pa_nil) (pk_cons py3 pk_nil) hall hks hdb he hpl), fun O W σ H ρ Q sr hw => ?_⟩⟩
  unfold xExn at hw
  split at hw
  · rename_i d e0
    obtain ⟨v, ev, rv⟩ := sr.get e0
    refine ⟨v, ev, v, ev, rfl, rfl, by decide, fun a na => ⟨a, v, v, rfl, T, hf, hg', upd_same, fun dx nd ne => ⟨rfl, dx, [(g, v), (f, v)], ?_, ?_, ?_, ?_⟩⟩⟩
    · rw [upd_ne (Ne.symm ne), upd_same]
    · rw [upd_same]
    · rw [upd_ne ne] at nd; exact nd
    · have nd1 : H dx = none := by rw [upd_ne ne] at nd; exact nd
      rw [eH2 na ne]
      exact exn_end (fs := [g, f]) sr rv nd1 hw
  · exact hw.elim
theorem ej_exnK2 {nm nm2 : Option Str} {kp kp2 p3 : Pos} (T : OexC X.K (cl.at' c)) (hf : PySem.W.findIn X.K (.ref (cl.at' c)) f = some none) (hg' : PySem.W.findIn X.K (.ref (cl.at' c)) g = some none) (iC : PySem.W.findIn X.K (.ref (cl.at' c)) "__init__" = some (some (.ref fI))) (tI : PySem.W.typeIn X.K (.ref fI) = some (.type "function"))
    (F1 : FnOk X.prog X.w X.K X.mg X.base CX k fI fd ps (spI2 X.K (cl.at' c) f g)) (hr : Room (k + 1) X.A) (hb : KBs X.K fd ps 1 [f, g] [.arg 0, .arg 1, .arg 2]) (hx : Passes CX X (fun _ _ _ => False)) (hg : Gl X x) (hm : X.mg x = some (.ref (cl.at' c))) (py : PE X (.Name y p2) (tVar i)) (py3 : PE X (.Name y p3) (tVar i))
    (hall : (backToKw pos (keywordEach [⟨nm, .Name y p2, kp⟩, ⟨nm2, .Name y p3, kp2⟩] X.env)).all (·.1.isSome) = true := by rfl) (hks : (backToKw pos (keywordEach [⟨nm, .Name y p2, kp⟩, ⟨nm2, .Name y p3, kp2⟩] X.env)).filterMap (·.1) = [f, g] := by rfl)
    (hdb : (x == ("__debug__" : Str)) = false := by decide) (hpl : ((backTo pos (starEach [] X.env)).any (·.1) || (backToKw pos (keywordEach [⟨nm, .Name y p2, kp⟩, ⟨nm2, .Name y p3, kp2⟩] X.env)).any (·.1.isNone)) = false := by rfl) :
    EJ X cl vs0 Wx (.Call (.Name x p) [] [⟨nm, .Name y p2, kp⟩, ⟨nm2, .Name y p3, kp2⟩] pos) (xExn c [g, f] i) := by
  obtain ⟨gU, hb⟩ := hb.ex
  refine ⟨⟨_, pe_mkv (pmk_oexK0 T iC tI F1 hr hb hx hg hm (pk_cons py (pk_cons py3 pk_nil)) hall hks hdb hpl), fun O W σ H ρ Q sr hw => ?_⟩⟩
  unfold xExn at hw
  split at hw
  · rename_i d e0
    obtain ⟨v, ev, rv⟩ := sr.get e0
    refine ⟨v, ev, v, ev, rfl, rfl, Nat.zero_le _, fun a na => ⟨a, v, v, rfl, T, hf, hg', upd_same, fun dx nd ne => ⟨rfl, dx, [(g, v), (f, v)], ?_, ?_, ?_, ?_⟩⟩⟩
    · rw [upd_ne (Ne.symm ne), upd_same]
    · rw [upd_same]
    · rw [upd_ne ne] at nd; exact nd
    · have nd1 : H dx = none := by rw [upd_ne ne] at nd; exact nd
      rw [eH2 na ne]
      exact exn_end (fs := [g, f]) sr rv nd1 hw
  · exact hw.elim
end
def rdXv (K : PySem.W.Frag) (n : Str) : List V → Hp → VK → Prop := fun vs H Q => ∃ x a C dd fs v, vs = [x] ∧ x = .ref a ∧ XfC K C ∧ PySem.W.findIn K (.ref C) n = some none ∧ H a = some (ExV (.ref C) (some dd) a) ∧ H dd = some (.xd fs) ∧ fs.lookup n = some v ∧ Q v H
theorem pe_xv {n : Str} {te : TE} (he : PE X e te) (hb : attributeBase e n X.env (eval e X.env) = eval e X.env) : PE X (.Attribute e n pos) (fun σ H Q => te σ H fun x H1 => rdXv X.K n [x] H1 Q) := by
  refine ⟨fun pins s σ H Q I h => ?_⟩
  refine attr_of hb (thn (he.run pins s σ H _ I h) fun u s1 hh => ?_)
  obtain ⟨x, H1, I1, rx, x', a, C, dd, fs, v, ex, ea', T, hno, hA, ea, l, q⟩ := hh
  cases ex
  subst ea'
  obtain rfl : u = Value.ref a := rx
  obtain ⟨⟨oe, vs, ha, hz, hd⟩, _, _⟩ := I1.hok a _ hA
  have hx : ObjOk X.prog X.w H1 s1.heap dd (.xd fs) := I1.hok dd _ ea
  obtain ⟨mA, hns, hr⟩ := hx
  obtain ⟨od, ho, hl⟩ := lookIn_ns hns
  obtain ⟨u, hu, ru⟩ := RelO.some_of (v := v) (o := mA n) (by rw [← l]; exact hr n)
  have J : PySem.W.InstAt s1.heap a oe C (some od) := ⟨ha, hz.1, by unfold PySem.W.notCls; rw [hd] <;> rfl, by rw [hz.2]; exact ho⟩
  exact HandSPX.exc_get I1.kIn J T.ga T.gg T.exC (PySem.W.findObj_own T.hdC hno rfl (by rw [hl, hu])) (handed_of ru) ⟨v, H1, I1.tok _, ru, q⟩
def pXv (cs : List Str) (n : Str) : List D → Rs SD
  | [.exn c fs] => if c ∈ cs then (match fs.lookup n with
    | some d => .ok (.sh d)
    | none => .bad) else .bad
  | _ => .bad
theorem ej_xv {n : Str} {cs : List Str} {fl : List LOp} (hT : ∀ c ∈ cs, XfC X.K (cl.at' c) ∧ PySem.W.findIn X.K (.ref (cl.at' c)) n = some none) (h : OJ X cl vs0 Wx [e] fl) (hb : attributeBase e n X.env (eval e X.env) = eval e X.env := by rfl) : EJ X cl vs0 Wx (.Attribute e n pos) (xPrim fl (pXv cs n)) := by
  obtain ⟨ta, pp, q⟩ := one_of h
  refine ⟨⟨_, pe_xv pp hb, fun O W σ H ρ Q sr hw => ?_⟩⟩
  have z : ta σ H (fun x H1 => rdXv X.K n [x] H1 Q) := prim_core (X := X) (cl := cl) (ts := [ta]) (rd := rdXv X.K n) (fun O W H ds vs Q w ho hp => by
    unfold pXv at hp
    split at hp
    · rename_i c fs
      split at hp
      · rename_i hc
        obtain ⟨x, rfl, h1⟩ := ho.one
        split at hp
        · rename_i d ed
          have h1 : Rp (gx X cl) O H (.exn c fs) x := by
            rcases h1 with h1 | ⟨_, _, z, _⟩
            · exact h1
            · cases z
          simp only [Rp] at h1
          obtain ⟨a, dx, gs, rfl, ha, hn, h2, hn2, hf⟩ := h1
          obtain ⟨v, e1, e2⟩ := hf.look ed
          exact ⟨_, a, _, dx, gs, v, rfl, rfl, (hT c hc).1, (hT c hc).2, ha, h2, e1, hp _ H (Same.refl H) e2⟩
        · exact hp.elim
      · exact hp.elim
    · exact hp.elim) q O W σ H ρ Q sr hw
  exact z
def rIsV (K : PySem.W.Frag) : List V → Hp → VK → Prop := fun xs H Q => ∃ (c : V) (cv : Value) (b : Bool) (a C dd : Addr) (fs : List (Str × V)), xs = [.ref a, c] ∧ ClsV c cv ∧ H a = some (ExV (.ref C) (some dd) a) ∧ H dd = some (.xd fs) ∧ KxC K C ∧ PySem.W.kitOne K (.ref C) cv = some b ∧ Q (.bl b) H
theorem call_isV : CallR X (.builtin "isinstance") (rIsV X.K) := by
  intro pins s σ H xs us Q I r h
  obtain ⟨c, cv, b, a, C, dd, fs, rfl, hcv, hA, ea, kx, e, q⟩ := h
  cases r with
  | cons rx rr =>
    cases rr with
    | cons rt rr =>
      cases rr
      cases rx
      have ec := hcv.eq rt
      subst ec
      obtain ⟨⟨oe, vs, hget, hz, hv⟩, _, _⟩ := I.hok a _ hA
      have hx : ObjOk X.prog X.w H s.heap dd (.xd fs) := I.hok dd _ ea
      obtain ⟨mA, hns, hr⟩ := hx
      obtain ⟨od, ho, hl⟩ := lookIn_ns hns
      have J : PySem.W.InstAt s.heap a oe C (some od) := ⟨hget, hz.1, by unfold PySem.W.notCls; rw [hv] <;> rfl, by rw [hz.2]; exact ho⟩
      exact PySem.W.kia_one (PySem.W.kitx_exc kx.cl kx.ga kx.gt kx.ex kx.ha kx.hn kx.tk kx.hm) I.kIn J e (fun z => nomatch z) fun tk => ⟨.bl b, H, I.kept (t' := tk) fun _ _ z => z, rfl, q⟩
def pIsV (tb : List (Str × Bool)) : List D → Rs SD
  | [.exn c _] => match tb.lookup c with
    | some b => .ok (.sh (.bl b))
    | none => .bad
  | _ => .bad
theorem ej_isV {tb : List (Str × Bool)} {cV : V} {cv : Value} {fl : List LOp} (hT : ∀ q ∈ tb, KxC X.K (cl.at' q.1) ∧ PySem.W.kitOne X.K (.ref (cl.at' q.1)) cv = some q.2) (hcv : ClsV cV cv) (hm : X.mg "isinstance" = none) (hg : Gl X "isinstance") (h : OJ X cl vs0 Wx [e] fl) (hc : PE X b (tC cV))
    (hs2 : starEach [b] X.env = (false, eval b X.env) :: starEach [] X.env := by rfl) (hs1 : starEach [e, b] X.env = (false, eval e X.env) :: starEach [b] X.env := by rfl) (hpl : (backTo pos (starEach [b] X.env)).any (·.1) = false := by rfl) :
    EJ X cl vs0 Wx (.Call (.Name "isinstance" p) [e, b] [] pos) (xPrim fl (pIsV tb)) := by
  obtain ⟨ta, ha, q⟩ := one_of h
  refine ⟨⟨_, pe_callB call_isV hg hm (by decide +kernel) (pa_cons ha (pa_cons hc pa_nil hs2) hs1) (by decide) (by decide) hs1 hpl, prim_core (ts := [ta]) (rd := fun vs H Q => rIsV X.K (vs ++ [cV]) H Q) (fun O W H ds vs Q w ho hp => ?_) q⟩⟩
  unfold pIsV at hp
  split at hp
  · rename_i c fs
    split at hp
    · rename_i bb eb
      obtain ⟨x, rfl, h1⟩ := ho.one
      rcases h1 with h1 | ⟨_, _, z, _⟩
      · simp only [Rp] at h1
        obtain ⟨a, dx, gs, rfl, h2, _, h3, _, _⟩ := h1
        obtain ⟨k1, k2⟩ := hT _ (look_mem eb)
        exact ⟨cV, cv, bb, a, _, dx, gs, rfl, hcv, h2, h3, k1, k2, hp _ H (Same.refl H) (by simp only [Rp])⟩
      · cases z
    · exact hp.elim
  · exact hp.elim
def rIsB (K : PySem.W.Frag) : List V → Hp → VK → Prop := fun xs H Q => ∃ (c : V) (cv : Value) (b : Bool) (a : Addr), xs = [.ref a, c] ∧ ClsV c cv ∧ H a = some (ExV (.type "ValueError") none a) ∧ PySem.W.kitOne K (.type "ValueError") cv = some b ∧ Q (.bl b) H
theorem call_isB : CallR X (.builtin "isinstance") (rIsB X.K) := by
  intro pins s σ H xs us Q I r h
  obtain ⟨c, cv, b, a, rfl, hcv, hA, e, q⟩ := h
  cases r with
  | cons rx rr =>
    cases rr with
    | cons rt rr =>
      cases rr
      cases rx
      have ec := hcv.eq rt
      subst ec
      obtain ⟨⟨oe, vs, hget, hz, hv⟩, _, _⟩ := I.hok a _ hA
      exact PySem.W.kia_one (PySem.W.kitx_bexc PySem.F.excAttr_ValueError PySem.F.lkClass_ValueError PySem.F.soClass_ValueError (by decide)) I.kIn ⟨oe, hget, hz.1⟩ e (fun z => nomatch z) fun tk => ⟨.bl b, H, I.kept (t' := tk) fun _ _ z => z, rfl, q⟩
theorem ej_isVE {m : Str} {j : Nat} {bb : Bool} {cV : V} {cv : Value} {p3 p4 p5 : Pos} (hk : PySem.W.kitOne X.K (.type "ValueError") cv = some bb) (hcv : ClsV cV cv) (hm : X.mg "isinstance" = none) (hg : Gl X "isinstance") (hm2 : X.mg "ValueError" = none) (hg2 : Gl X "ValueError") (hc : PE X b (tC cV))
    (hs2 : starEach [b] X.env = (false, eval b X.env) :: starEach [] X.env := by rfl) (hs1 : starEach [.Call (.Name "ValueError" p3) [.Constant (.str m) j p4] [] p5, b] X.env = (false, eval (.Call (.Name "ValueError" p3) [.Constant (.str m) j p4] [] p5) X.env) :: starEach [b] X.env := by rfl) (hpl : (backTo pos (starEach [b] X.env)).any (·.1) = false := by rfl) :
    EJ X cl vs0 Wx (.Call (.Name "isinstance" p) [.Call (.Name "ValueError" p3) [.Constant (.str m) j p4] [] p5, b] [] pos) (xC (.bl bb)) := by
  refine ⟨⟨_, pe_callB call_isB hg hm (by decide +kernel) (pa_cons (pe_mkv (pmk_exbS exb_ValueError hg2 hm2 boot_ValueError)) (pa_cons hc pa_nil hs2) hs1) (by decide) (by decide) hs1 hpl, fun O W σ H ρ Q sr hw => ?_⟩⟩
  intro a na
  have sm : Same H (upd H a (ExV (.type "ValueError") none a)) := same_upd na
  exact ⟨cV, cv, bb, a, rfl, hcv, upd_same, hk, hw (.bl bb) O W _ (Stp.same sm) (sr.same sm) (by simp only [ResR, Rp])⟩
end
def exnO (c : Str) (fs : List Str) (ρ : List SD) : Option SD → Rs (SD × List SD)
  | some (.sh d) => .ok (.sh (.exn c (fs.map fun f => (f, d))), ρ)
  | _ => .bad
@[simp] theorem xExn_ap (c : Str) (fs : List Str) (i : Nat) (ρ : List SD) : xExn c fs i ρ = exnO c fs ρ ρ[i]? := (rfl)
@[simp] theorem exnO_ap (c : Str) (fs : List Str) (ρ : List SD) (d : D) : exnO c fs ρ (some (.sh d)) = .ok (.sh (.exn c (fs.map fun f => (f, d))), ρ) := (rfl)
def xvO : Option D → Rs SD
  | some d => .ok (.sh d)
  | none => .bad
@[simp] theorem xvO_ap (d : D) : xvO (some d) = .ok (.sh d) := (rfl)
@[simp] theorem pXv_ap (cs : List Str) (n c : Str) (fs : List (Str × D)) : pXv cs n [.exn c fs] = if c ∈ cs then xvO (fs.lookup n) else .bad := by
  show (if c ∈ cs then (match fs.lookup n with | some d => Rs.ok (SD.sh d) | none => .bad) else .bad) = _
  cases fs.lookup n <;> rfl
def isVO : Option Bool → Rs SD
  | some b => .ok (.sh (.bl b))
  | none => .bad
@[simp] theorem isVO_ap (b : Bool) : isVO (some b) = .ok (.sh (.bl b)) := (rfl)
@[simp] theorem pIsV_ap (tb : List (Str × Bool)) (c : Str) (fs : List (Str × D)) : pIsV tb [.exn c fs] = isVO (tb.lookup c) := by
  show (match tb.lookup c with | some b => Rs.ok (SD.sh (D.bl b)) | none => .bad) = _
  cases tb.lookup c <;> rfl
end Wm
end
section
namespace Lw
open PySem PySem.Spec PyProof.Rows L2 Wm
def topS (i : Nat) : Stmt := PySem.Challenge.pw_waymoves_k86_what_refusals_are.main.body.getD i (.Pass ⟨0, 0, 0, 0⟩)
abbrev s__law_draw : Stmt := topS 14
theorem sc__law_draw : FnScope ["_law_well", "_law_cap", "_law_number", "_law_found"] ["_law_well", "_law_cap"] (defScope s__law_draw) := ⟨rfl, rfl, rfl, by decide +kernel, rfl, by decide +kernel, by decide +kernel⟩
abbrev s__law_by_place : Stmt := topS 16
theorem sc__law_by_place : FnScope ["_law_x", "_law_some"] ["_law_x"] (defScope s__law_by_place) := ⟨rfl, rfl, rfl, by decide +kernel, rfl, by decide +kernel, by decide +kernel⟩
abbrev s__law_by_name : Stmt := topS 17
theorem sc__law_by_name : FnScope ["_law_x", "_law_some"] ["_law_x"] (defScope s__law_by_name) := ⟨rfl, rfl, rfl, by decide +kernel, rfl, by decide +kernel, by decide +kernel⟩
abbrev s__law_fields : Stmt := topS 18
theorem sc__law_fields : FnScope ["_law_some", "_law_found"] ["_law_some"] (defScope s__law_fields) := ⟨rfl, rfl, rfl, by decide +kernel, rfl, by decide +kernel, by decide +kernel⟩
abbrev s__law_taken : Stmt := topS 15
theorem sc__law_taken : FnScope ["_law_e", "_law_first", "_law_more"] ["_law_e"] (defScope s__law_taken) := ⟨rfl, rfl, rfl, by decide +kernel, rfl, by decide +kernel, by decide +kernel⟩
abbrev s__law_right : Stmt := topS 19
theorem sc__law_right : FnScope ["_law_well", "_law_x", "_law_some", "_law_spot", "_law_e", "_law_k"] ["_law_well"] (defScope s__law_right) := ⟨rfl, rfl, rfl, by decide +kernel, rfl, by decide +kernel, by decide +kernel⟩
abbrev s_law : Stmt := topS 20
theorem sc_law : FnScope ["_law_script", "_law_k", "_law_cell"] ["_law_script"] (defScope s_law) := ⟨rfl, rfl, rfl, by decide +kernel, rfl, by decide +kernel, by decide +kernel⟩
abbrev s_Endless_init : Stmt := inS (topS 7) 0
theorem sc_Endless_init : FnScope ["self", "move"] ["self", "move"] (defScope s_Endless_init) := ⟨rfl, rfl, rfl, by decide +kernel, rfl, by decide +kernel, by decide +kernel⟩
abbrev s_NoLine_init : Stmt := inS (topS 12) 0
theorem sc_NoLine_init : FnScope ["self", "at"] ["self", "at"] (defScope s_NoLine_init) := ⟨rfl, rfl, rfl, by decide +kernel, rfl, by decide +kernel, by decide +kernel⟩
abbrev s_NoMove_init : Stmt := inS (topS 3) 0
theorem sc_NoMove_init : FnScope ["self", "at"] ["self", "at"] (defScope s_NoMove_init) := ⟨rfl, rfl, rfl, by decide +kernel, rfl, by decide +kernel, by decide +kernel⟩
abbrev s_NoName_init : Stmt := inS (topS 11) 0
theorem sc_NoName_init : FnScope ["self", "name"] ["self", "name"] (defScope s_NoName_init) := ⟨rfl, rfl, rfl, by decide +kernel, rfl, by decide +kernel, by decide +kernel⟩
abbrev s_NoPaper_init : Stmt := inS (topS 5) 0
theorem sc_NoPaper_init : FnScope ["self", "where", "at"] ["self", "where", "at"] (defScope s_NoPaper_init) := ⟨rfl, rfl, rfl, by decide +kernel, rfl, by decide +kernel, by decide +kernel⟩
abbrev s_NoPicks_init : Stmt := inS (topS 9) 0
theorem sc_NoPicks_init : FnScope ["self", "at"] ["self", "at"] (defScope s_NoPicks_init) := ⟨rfl, rfl, rfl, by decide +kernel, rfl, by decide +kernel, by decide +kernel⟩
abbrev s_NoPlan_init : Stmt := inS (topS 8) 0
theorem sc_NoPlan_init : FnScope ["self", "what"] ["self", "what"] (defScope s_NoPlan_init) := ⟨rfl, rfl, rfl, by decide +kernel, rfl, by decide +kernel, by decide +kernel⟩
abbrev s_NoRow_init : Stmt := inS (topS 2) 0
theorem sc_NoRow_init : FnScope ["self", "at"] ["self", "at"] (defScope s_NoRow_init) := ⟨rfl, rfl, rfl, by decide +kernel, rfl, by decide +kernel, by decide +kernel⟩
abbrev s_NoTable_init : Stmt := inS (topS 10) 0
theorem sc_NoTable_init : FnScope ["self", "at"] ["self", "at"] (defScope s_NoTable_init) := ⟨rfl, rfl, rfl, by decide +kernel, rfl, by decide +kernel, by decide +kernel⟩
abbrev s_NoWay_init : Stmt := inS (topS 4) 0
theorem sc_NoWay_init : FnScope ["self", "at"] ["self", "at"] (defScope s_NoWay_init) := ⟨rfl, rfl, rfl, by decide +kernel, rfl, by decide +kernel, by decide +kernel⟩
abbrev s_TooMany_init : Stmt := inS (topS 6) 0
theorem sc_TooMany_init : FnScope ["self", "many"] ["self", "many"] (defScope s_TooMany_init) := ⟨rfl, rfl, rfl, by decide +kernel, rfl, by decide +kernel, by decide +kernel⟩
abbrev exmT : Exm := []
structure Tx (K : PySem.W.Frag) (mg : Str → Option Value) (cl : Cl) where
  a__law_draw : Addr
  fd__law_draw : FuncData
  F__law_draw : Fun K "_law_draw" "_law_draw" s__law_draw a__law_draw fd__law_draw
  m__law_draw : mg "_law_draw" = some (.ref a__law_draw)
  b__law_draw : Binds K fd__law_draw ["_law_well", "_law_cap"] []
  a__law_by_place : Addr
  fd__law_by_place : FuncData
  F__law_by_place : Fun K "_law_by_place" "_law_by_place" s__law_by_place a__law_by_place fd__law_by_place
  m__law_by_place : mg "_law_by_place" = some (.ref a__law_by_place)
  b__law_by_place : Binds K fd__law_by_place ["_law_x"] []
  a__law_by_name : Addr
  fd__law_by_name : FuncData
  F__law_by_name : Fun K "_law_by_name" "_law_by_name" s__law_by_name a__law_by_name fd__law_by_name
  m__law_by_name : mg "_law_by_name" = some (.ref a__law_by_name)
  b__law_by_name : Binds K fd__law_by_name ["_law_x"] []
  a__law_fields : Addr
  fd__law_fields : FuncData
  F__law_fields : Fun K "_law_fields" "_law_fields" s__law_fields a__law_fields fd__law_fields
  m__law_fields : mg "_law_fields" = some (.ref a__law_fields)
  b__law_fields : Binds K fd__law_fields ["_law_some"] []
  a__law_taken : Addr
  fd__law_taken : FuncData
  F__law_taken : Fun K "_law_taken" "_law_taken" s__law_taken a__law_taken fd__law_taken
  m__law_taken : mg "_law_taken" = some (.ref a__law_taken)
  b__law_taken : Binds K fd__law_taken ["_law_e"] []
  a__law_right : Addr
  fd__law_right : FuncData
  F__law_right : Fun K "_law_right" "_law_right" s__law_right a__law_right fd__law_right
  m__law_right : mg "_law_right" = some (.ref a__law_right)
  b__law_right : Binds K fd__law_right ["_law_well"] []
  a_law : Addr
  fd_law : FuncData
  F_law : Fun K "law" "law" s_law a_law fd_law
  m_law : mg "law" = some (.ref a_law)
  b_law : Binds K fd_law ["_law_script"] []
  way : WayC K mg "WayError"
  x_Endless : ExcC K mg cl "Endless" ["move"] "Endless.__init__" s_Endless_init
  bi_Endless : Binds K x_Endless.fd ["self", "move"] []
  bk_Endless : KBs K x_Endless.fd ["self", "move"] 1 ["move"] [.arg 0, .arg 1]
  x_NoLine : ExcC K mg cl "NoLine" ["at"] "NoLine.__init__" s_NoLine_init
  bi_NoLine : Binds K x_NoLine.fd ["self", "at"] []
  bk_NoLine : KBs K x_NoLine.fd ["self", "at"] 1 ["at"] [.arg 0, .arg 1]
  x_NoMove : ExcC K mg cl "NoMove" ["at"] "NoMove.__init__" s_NoMove_init
  bi_NoMove : Binds K x_NoMove.fd ["self", "at"] []
  bk_NoMove : KBs K x_NoMove.fd ["self", "at"] 1 ["at"] [.arg 0, .arg 1]
  x_NoName : ExcC K mg cl "NoName" ["name"] "NoName.__init__" s_NoName_init
  bi_NoName : Binds K x_NoName.fd ["self", "name"] []
  bk_NoName : KBs K x_NoName.fd ["self", "name"] 1 ["name"] [.arg 0, .arg 1]
  x_NoPaper : ExcC K mg cl "NoPaper" ["where", "at"] "NoPaper.__init__" s_NoPaper_init
  bi_NoPaper : KBs K x_NoPaper.fd ["self", "where", "at"] 2 ["at"] [.arg 0, .arg 1, .arg 2]
  bk_NoPaper : KBs K x_NoPaper.fd ["self", "where", "at"] 1 ["where", "at"] [.arg 0, .arg 1, .arg 2]
  x_NoPicks : ExcC K mg cl "NoPicks" ["at"] "NoPicks.__init__" s_NoPicks_init
  bi_NoPicks : Binds K x_NoPicks.fd ["self", "at"] []
  bk_NoPicks : KBs K x_NoPicks.fd ["self", "at"] 1 ["at"] [.arg 0, .arg 1]
  x_NoPlan : ExcC K mg cl "NoPlan" ["what"] "NoPlan.__init__" s_NoPlan_init
  bi_NoPlan : Binds K x_NoPlan.fd ["self", "what"] []
  bk_NoPlan : KBs K x_NoPlan.fd ["self", "what"] 1 ["what"] [.arg 0, .arg 1]
  x_NoRow : ExcC K mg cl "NoRow" ["at"] "NoRow.__init__" s_NoRow_init
  bi_NoRow : Binds K x_NoRow.fd ["self", "at"] []
  bk_NoRow : KBs K x_NoRow.fd ["self", "at"] 1 ["at"] [.arg 0, .arg 1]
  x_NoTable : ExcC K mg cl "NoTable" ["at"] "NoTable.__init__" s_NoTable_init
  bi_NoTable : Binds K x_NoTable.fd ["self", "at"] []
  bk_NoTable : KBs K x_NoTable.fd ["self", "at"] 1 ["at"] [.arg 0, .arg 1]
  x_NoWay : ExcC K mg cl "NoWay" ["at"] "NoWay.__init__" s_NoWay_init
  bi_NoWay : Binds K x_NoWay.fd ["self", "at"] []
  bk_NoWay : KBs K x_NoWay.fd ["self", "at"] 1 ["at"] [.arg 0, .arg 1]
  x_TooMany : ExcC K mg cl "TooMany" ["many"] "TooMany.__init__" s_TooMany_init
  bi_TooMany : Binds K x_TooMany.fd ["self", "many"] []
  bk_TooMany : KBs K x_TooMany.fd ["self", "many"] 1 ["many"] [.arg 0, .arg 1]
  kx_Endless : KxC K (cl.at' "Endless")
  kx_NoLine : KxC K (cl.at' "NoLine")
  kx_NoMove : KxC K (cl.at' "NoMove")
  kx_NoName : KxC K (cl.at' "NoName")
  kx_NoPaper : KxC K (cl.at' "NoPaper")
  kx_NoPicks : KxC K (cl.at' "NoPicks")
  kx_NoPlan : KxC K (cl.at' "NoPlan")
  kx_NoRow : KxC K (cl.at' "NoRow")
  kx_NoTable : KxC K (cl.at' "NoTable")
  kx_NoWay : KxC K (cl.at' "NoWay")
  kx_TooMany : KxC K (cl.at' "TooMany")
  ki_Endless_Endless : PySem.W.kitOne K (.ref (cl.at' "Endless")) (.ref (cl.at' "Endless")) = some true
  ki_Endless_NoLine : PySem.W.kitOne K (.ref (cl.at' "Endless")) (.ref (cl.at' "NoLine")) = some false
  ki_Endless_NoMove : PySem.W.kitOne K (.ref (cl.at' "Endless")) (.ref (cl.at' "NoMove")) = some false
  ki_Endless_NoName : PySem.W.kitOne K (.ref (cl.at' "Endless")) (.ref (cl.at' "NoName")) = some false
  ki_Endless_NoPaper : PySem.W.kitOne K (.ref (cl.at' "Endless")) (.ref (cl.at' "NoPaper")) = some false
  ki_Endless_NoPicks : PySem.W.kitOne K (.ref (cl.at' "Endless")) (.ref (cl.at' "NoPicks")) = some false
  ki_Endless_NoPlan : PySem.W.kitOne K (.ref (cl.at' "Endless")) (.ref (cl.at' "NoPlan")) = some false
  ki_Endless_NoRow : PySem.W.kitOne K (.ref (cl.at' "Endless")) (.ref (cl.at' "NoRow")) = some false
  ki_Endless_NoTable : PySem.W.kitOne K (.ref (cl.at' "Endless")) (.ref (cl.at' "NoTable")) = some false
  ki_Endless_NoWay : PySem.W.kitOne K (.ref (cl.at' "Endless")) (.ref (cl.at' "NoWay")) = some false
  ki_Endless_TooMany : PySem.W.kitOne K (.ref (cl.at' "Endless")) (.ref (cl.at' "TooMany")) = some false
  ki_Endless_ValueError : PySem.W.kitOne K (.ref (cl.at' "Endless")) (.type "ValueError") = some true
  ki_Endless_WayError : PySem.W.kitOne K (.ref (cl.at' "Endless")) (.ref (cl.at' "WayError")) = some true
  ki_NoLine_Endless : PySem.W.kitOne K (.ref (cl.at' "NoLine")) (.ref (cl.at' "Endless")) = some false
  ki_NoLine_NoLine : PySem.W.kitOne K (.ref (cl.at' "NoLine")) (.ref (cl.at' "NoLine")) = some true
  ki_NoLine_NoMove : PySem.W.kitOne K (.ref (cl.at' "NoLine")) (.ref (cl.at' "NoMove")) = some false
  ki_NoLine_NoName : PySem.W.kitOne K (.ref (cl.at' "NoLine")) (.ref (cl.at' "NoName")) = some false
  ki_NoLine_NoPaper : PySem.W.kitOne K (.ref (cl.at' "NoLine")) (.ref (cl.at' "NoPaper")) = some false
  ki_NoLine_NoPicks : PySem.W.kitOne K (.ref (cl.at' "NoLine")) (.ref (cl.at' "NoPicks")) = some false
  ki_NoLine_NoPlan : PySem.W.kitOne K (.ref (cl.at' "NoLine")) (.ref (cl.at' "NoPlan")) = some false
  ki_NoLine_NoRow : PySem.W.kitOne K (.ref (cl.at' "NoLine")) (.ref (cl.at' "NoRow")) = some false
  ki_NoLine_NoTable : PySem.W.kitOne K (.ref (cl.at' "NoLine")) (.ref (cl.at' "NoTable")) = some false
  ki_NoLine_NoWay : PySem.W.kitOne K (.ref (cl.at' "NoLine")) (.ref (cl.at' "NoWay")) = some false
  ki_NoLine_TooMany : PySem.W.kitOne K (.ref (cl.at' "NoLine")) (.ref (cl.at' "TooMany")) = some false
  ki_NoLine_ValueError : PySem.W.kitOne K (.ref (cl.at' "NoLine")) (.type "ValueError") = some true
  ki_NoLine_WayError : PySem.W.kitOne K (.ref (cl.at' "NoLine")) (.ref (cl.at' "WayError")) = some true
  ki_NoMove_Endless : PySem.W.kitOne K (.ref (cl.at' "NoMove")) (.ref (cl.at' "Endless")) = some false
  ki_NoMove_NoLine : PySem.W.kitOne K (.ref (cl.at' "NoMove")) (.ref (cl.at' "NoLine")) = some false
  ki_NoMove_NoMove : PySem.W.kitOne K (.ref (cl.at' "NoMove")) (.ref (cl.at' "NoMove")) = some true
  ki_NoMove_NoName : PySem.W.kitOne K (.ref (cl.at' "NoMove")) (.ref (cl.at' "NoName")) = some false
  ki_NoMove_NoPaper : PySem.W.kitOne K (.ref (cl.at' "NoMove")) (.ref (cl.at' "NoPaper")) = some false
  ki_NoMove_NoPicks : PySem.W.kitOne K (.ref (cl.at' "NoMove")) (.ref (cl.at' "NoPicks")) = some false
  ki_NoMove_NoPlan : PySem.W.kitOne K (.ref (cl.at' "NoMove")) (.ref (cl.at' "NoPlan")) = some false
  ki_NoMove_NoRow : PySem.W.kitOne K (.ref (cl.at' "NoMove")) (.ref (cl.at' "NoRow")) = some false
  ki_NoMove_NoTable : PySem.W.kitOne K (.ref (cl.at' "NoMove")) (.ref (cl.at' "NoTable")) = some false
  ki_NoMove_NoWay : PySem.W.kitOne K (.ref (cl.at' "NoMove")) (.ref (cl.at' "NoWay")) = some false
  ki_NoMove_TooMany : PySem.W.kitOne K (.ref (cl.at' "NoMove")) (.ref (cl.at' "TooMany")) = some false
  ki_NoMove_ValueError : PySem.W.kitOne K (.ref (cl.at' "NoMove")) (.type "ValueError") = some true
  ki_NoMove_WayError : PySem.W.kitOne K (.ref (cl.at' "NoMove")) (.ref (cl.at' "WayError")) = some true
  ki_NoName_Endless : PySem.W.kitOne K (.ref (cl.at' "NoName")) (.ref (cl.at' "Endless")) = some false
  ki_NoName_NoLine : PySem.W.kitOne K (.ref (cl.at' "NoName")) (.ref (cl.at' "NoLine")) = some false
  ki_NoName_NoMove : PySem.W.kitOne K (.ref (cl.at' "NoName")) (.ref (cl.at' "NoMove")) = some false
  ki_NoName_NoName : PySem.W.kitOne K (.ref (cl.at' "NoName")) (.ref (cl.at' "NoName")) = some true
  ki_NoName_NoPaper : PySem.W.kitOne K (.ref (cl.at' "NoName")) (.ref (cl.at' "NoPaper")) = some false
  ki_NoName_NoPicks : PySem.W.kitOne K (.ref (cl.at' "NoName")) (.ref (cl.at' "NoPicks")) = some false
  ki_NoName_NoPlan : PySem.W.kitOne K (.ref (cl.at' "NoName")) (.ref (cl.at' "NoPlan")) = some false
  ki_NoName_NoRow : PySem.W.kitOne K (.ref (cl.at' "NoName")) (.ref (cl.at' "NoRow")) = some false
  ki_NoName_NoTable : PySem.W.kitOne K (.ref (cl.at' "NoName")) (.ref (cl.at' "NoTable")) = some false
  ki_NoName_NoWay : PySem.W.kitOne K (.ref (cl.at' "NoName")) (.ref (cl.at' "NoWay")) = some false
  ki_NoName_TooMany : PySem.W.kitOne K (.ref (cl.at' "NoName")) (.ref (cl.at' "TooMany")) = some false
  ki_NoName_ValueError : PySem.W.kitOne K (.ref (cl.at' "NoName")) (.type "ValueError") = some true
  ki_NoName_WayError : PySem.W.kitOne K (.ref (cl.at' "NoName")) (.ref (cl.at' "WayError")) = some true
  ki_NoPaper_Endless : PySem.W.kitOne K (.ref (cl.at' "NoPaper")) (.ref (cl.at' "Endless")) = some false
  ki_NoPaper_NoLine : PySem.W.kitOne K (.ref (cl.at' "NoPaper")) (.ref (cl.at' "NoLine")) = some false
  ki_NoPaper_NoMove : PySem.W.kitOne K (.ref (cl.at' "NoPaper")) (.ref (cl.at' "NoMove")) = some false
  ki_NoPaper_NoName : PySem.W.kitOne K (.ref (cl.at' "NoPaper")) (.ref (cl.at' "NoName")) = some false
  ki_NoPaper_NoPaper : PySem.W.kitOne K (.ref (cl.at' "NoPaper")) (.ref (cl.at' "NoPaper")) = some true
  ki_NoPaper_NoPicks : PySem.W.kitOne K (.ref (cl.at' "NoPaper")) (.ref (cl.at' "NoPicks")) = some false
  ki_NoPaper_NoPlan : PySem.W.kitOne K (.ref (cl.at' "NoPaper")) (.ref (cl.at' "NoPlan")) = some false
  ki_NoPaper_NoRow : PySem.W.kitOne K (.ref (cl.at' "NoPaper")) (.ref (cl.at' "NoRow")) = some false
  ki_NoPaper_NoTable : PySem.W.kitOne K (.ref (cl.at' "NoPaper")) (.ref (cl.at' "NoTable")) = some false
  ki_NoPaper_NoWay : PySem.W.kitOne K (.ref (cl.at' "NoPaper")) (.ref (cl.at' "NoWay")) = some false
  ki_NoPaper_TooMany : PySem.W.kitOne K (.ref (cl.at' "NoPaper")) (.ref (cl.at' "TooMany")) = some false
  ki_NoPaper_ValueError : PySem.W.kitOne K (.ref (cl.at' "NoPaper")) (.type "ValueError") = some true
  ki_NoPaper_WayError : PySem.W.kitOne K (.ref (cl.at' "NoPaper")) (.ref (cl.at' "WayError")) = some true
  ki_NoPicks_Endless : PySem.W.kitOne K (.ref (cl.at' "NoPicks")) (.ref (cl.at' "Endless")) = some false
  ki_NoPicks_NoLine : PySem.W.kitOne K (.ref (cl.at' "NoPicks")) (.ref (cl.at' "NoLine")) = some false
  ki_NoPicks_NoMove : PySem.W.kitOne K (.ref (cl.at' "NoPicks")) (.ref (cl.at' "NoMove")) = some false
  ki_NoPicks_NoName : PySem.W.kitOne K (.ref (cl.at' "NoPicks")) (.ref (cl.at' "NoName")) = some false
  ki_NoPicks_NoPaper : PySem.W.kitOne K (.ref (cl.at' "NoPicks")) (.ref (cl.at' "NoPaper")) = some false
  ki_NoPicks_NoPicks : PySem.W.kitOne K (.ref (cl.at' "NoPicks")) (.ref (cl.at' "NoPicks")) = some true
  ki_NoPicks_NoPlan : PySem.W.kitOne K (.ref (cl.at' "NoPicks")) (.ref (cl.at' "NoPlan")) = some false
  ki_NoPicks_NoRow : PySem.W.kitOne K (.ref (cl.at' "NoPicks")) (.ref (cl.at' "NoRow")) = some false
  ki_NoPicks_NoTable : PySem.W.kitOne K (.ref (cl.at' "NoPicks")) (.ref (cl.at' "NoTable")) = some false
  ki_NoPicks_NoWay : PySem.W.kitOne K (.ref (cl.at' "NoPicks")) (.ref (cl.at' "NoWay")) = some false
  ki_NoPicks_TooMany : PySem.W.kitOne K (.ref (cl.at' "NoPicks")) (.ref (cl.at' "TooMany")) = some false
  ki_NoPicks_ValueError : PySem.W.kitOne K (.ref (cl.at' "NoPicks")) (.type "ValueError") = some true
  ki_NoPicks_WayError : PySem.W.kitOne K (.ref (cl.at' "NoPicks")) (.ref (cl.at' "WayError")) = some true
  ki_NoPlan_Endless : PySem.W.kitOne K (.ref (cl.at' "NoPlan")) (.ref (cl.at' "Endless")) = some false
  ki_NoPlan_NoLine : PySem.W.kitOne K (.ref (cl.at' "NoPlan")) (.ref (cl.at' "NoLine")) = some false
  ki_NoPlan_NoMove : PySem.W.kitOne K (.ref (cl.at' "NoPlan")) (.ref (cl.at' "NoMove")) = some false
  ki_NoPlan_NoName : PySem.W.kitOne K (.ref (cl.at' "NoPlan")) (.ref (cl.at' "NoName")) = some false
  ki_NoPlan_NoPaper : PySem.W.kitOne K (.ref (cl.at' "NoPlan")) (.ref (cl.at' "NoPaper")) = some false
  ki_NoPlan_NoPicks : PySem.W.kitOne K (.ref (cl.at' "NoPlan")) (.ref (cl.at' "NoPicks")) = some false
  ki_NoPlan_NoPlan : PySem.W.kitOne K (.ref (cl.at' "NoPlan")) (.ref (cl.at' "NoPlan")) = some true
  ki_NoPlan_NoRow : PySem.W.kitOne K (.ref (cl.at' "NoPlan")) (.ref (cl.at' "NoRow")) = some false
  ki_NoPlan_NoTable : PySem.W.kitOne K (.ref (cl.at' "NoPlan")) (.ref (cl.at' "NoTable")) = some false
  ki_NoPlan_NoWay : PySem.W.kitOne K (.ref (cl.at' "NoPlan")) (.ref (cl.at' "NoWay")) = some false
  ki_NoPlan_TooMany : PySem.W.kitOne K (.ref (cl.at' "NoPlan")) (.ref (cl.at' "TooMany")) = some false
  ki_NoPlan_ValueError : PySem.W.kitOne K (.ref (cl.at' "NoPlan")) (.type "ValueError") = some true
  ki_NoPlan_WayError : PySem.W.kitOne K (.ref (cl.at' "NoPlan")) (.ref (cl.at' "WayError")) = some true
  ki_NoRow_Endless : PySem.W.kitOne K (.ref (cl.at' "NoRow")) (.ref (cl.at' "Endless")) = some false
  ki_NoRow_NoLine : PySem.W.kitOne K (.ref (cl.at' "NoRow")) (.ref (cl.at' "NoLine")) = some false
  ki_NoRow_NoMove : PySem.W.kitOne K (.ref (cl.at' "NoRow")) (.ref (cl.at' "NoMove")) = some false
  ki_NoRow_NoName : PySem.W.kitOne K (.ref (cl.at' "NoRow")) (.ref (cl.at' "NoName")) = some false
  ki_NoRow_NoPaper : PySem.W.kitOne K (.ref (cl.at' "NoRow")) (.ref (cl.at' "NoPaper")) = some false
  ki_NoRow_NoPicks : PySem.W.kitOne K (.ref (cl.at' "NoRow")) (.ref (cl.at' "NoPicks")) = some false
  ki_NoRow_NoPlan : PySem.W.kitOne K (.ref (cl.at' "NoRow")) (.ref (cl.at' "NoPlan")) = some false
  ki_NoRow_NoRow : PySem.W.kitOne K (.ref (cl.at' "NoRow")) (.ref (cl.at' "NoRow")) = some true
  ki_NoRow_NoTable : PySem.W.kitOne K (.ref (cl.at' "NoRow")) (.ref (cl.at' "NoTable")) = some false
  ki_NoRow_NoWay : PySem.W.kitOne K (.ref (cl.at' "NoRow")) (.ref (cl.at' "NoWay")) = some false
  ki_NoRow_TooMany : PySem.W.kitOne K (.ref (cl.at' "NoRow")) (.ref (cl.at' "TooMany")) = some false
  ki_NoRow_ValueError : PySem.W.kitOne K (.ref (cl.at' "NoRow")) (.type "ValueError") = some true
  ki_NoRow_WayError : PySem.W.kitOne K (.ref (cl.at' "NoRow")) (.ref (cl.at' "WayError")) = some true
  ki_NoTable_Endless : PySem.W.kitOne K (.ref (cl.at' "NoTable")) (.ref (cl.at' "Endless")) = some false
  ki_NoTable_NoLine : PySem.W.kitOne K (.ref (cl.at' "NoTable")) (.ref (cl.at' "NoLine")) = some false
  ki_NoTable_NoMove : PySem.W.kitOne K (.ref (cl.at' "NoTable")) (.ref (cl.at' "NoMove")) = some false
  ki_NoTable_NoName : PySem.W.kitOne K (.ref (cl.at' "NoTable")) (.ref (cl.at' "NoName")) = some false
  ki_NoTable_NoPaper : PySem.W.kitOne K (.ref (cl.at' "NoTable")) (.ref (cl.at' "NoPaper")) = some false
  ki_NoTable_NoPicks : PySem.W.kitOne K (.ref (cl.at' "NoTable")) (.ref (cl.at' "NoPicks")) = some false
  ki_NoTable_NoPlan : PySem.W.kitOne K (.ref (cl.at' "NoTable")) (.ref (cl.at' "NoPlan")) = some false
  ki_NoTable_NoRow : PySem.W.kitOne K (.ref (cl.at' "NoTable")) (.ref (cl.at' "NoRow")) = some false
  ki_NoTable_NoTable : PySem.W.kitOne K (.ref (cl.at' "NoTable")) (.ref (cl.at' "NoTable")) = some true
  ki_NoTable_NoWay : PySem.W.kitOne K (.ref (cl.at' "NoTable")) (.ref (cl.at' "NoWay")) = some false
  ki_NoTable_TooMany : PySem.W.kitOne K (.ref (cl.at' "NoTable")) (.ref (cl.at' "TooMany")) = some false
  ki_NoTable_ValueError : PySem.W.kitOne K (.ref (cl.at' "NoTable")) (.type "ValueError") = some true
  ki_NoTable_WayError : PySem.W.kitOne K (.ref (cl.at' "NoTable")) (.ref (cl.at' "WayError")) = some true
  ki_NoWay_Endless : PySem.W.kitOne K (.ref (cl.at' "NoWay")) (.ref (cl.at' "Endless")) = some false
  ki_NoWay_NoLine : PySem.W.kitOne K (.ref (cl.at' "NoWay")) (.ref (cl.at' "NoLine")) = some false
  ki_NoWay_NoMove : PySem.W.kitOne K (.ref (cl.at' "NoWay")) (.ref (cl.at' "NoMove")) = some false
  ki_NoWay_NoName : PySem.W.kitOne K (.ref (cl.at' "NoWay")) (.ref (cl.at' "NoName")) = some false
  ki_NoWay_NoPaper : PySem.W.kitOne K (.ref (cl.at' "NoWay")) (.ref (cl.at' "NoPaper")) = some false
  ki_NoWay_NoPicks : PySem.W.kitOne K (.ref (cl.at' "NoWay")) (.ref (cl.at' "NoPicks")) = some false
  ki_NoWay_NoPlan : PySem.W.kitOne K (.ref (cl.at' "NoWay")) (.ref (cl.at' "NoPlan")) = some false
  ki_NoWay_NoRow : PySem.W.kitOne K (.ref (cl.at' "NoWay")) (.ref (cl.at' "NoRow")) = some false
  ki_NoWay_NoTable : PySem.W.kitOne K (.ref (cl.at' "NoWay")) (.ref (cl.at' "NoTable")) = some false
  ki_NoWay_NoWay : PySem.W.kitOne K (.ref (cl.at' "NoWay")) (.ref (cl.at' "NoWay")) = some true
  ki_NoWay_TooMany : PySem.W.kitOne K (.ref (cl.at' "NoWay")) (.ref (cl.at' "TooMany")) = some false
  ki_NoWay_ValueError : PySem.W.kitOne K (.ref (cl.at' "NoWay")) (.type "ValueError") = some true
  ki_NoWay_WayError : PySem.W.kitOne K (.ref (cl.at' "NoWay")) (.ref (cl.at' "WayError")) = some true
  ki_TooMany_Endless : PySem.W.kitOne K (.ref (cl.at' "TooMany")) (.ref (cl.at' "Endless")) = some false
  ki_TooMany_NoLine : PySem.W.kitOne K (.ref (cl.at' "TooMany")) (.ref (cl.at' "NoLine")) = some false
  ki_TooMany_NoMove : PySem.W.kitOne K (.ref (cl.at' "TooMany")) (.ref (cl.at' "NoMove")) = some false
  ki_TooMany_NoName : PySem.W.kitOne K (.ref (cl.at' "TooMany")) (.ref (cl.at' "NoName")) = some false
  ki_TooMany_NoPaper : PySem.W.kitOne K (.ref (cl.at' "TooMany")) (.ref (cl.at' "NoPaper")) = some false
  ki_TooMany_NoPicks : PySem.W.kitOne K (.ref (cl.at' "TooMany")) (.ref (cl.at' "NoPicks")) = some false
  ki_TooMany_NoPlan : PySem.W.kitOne K (.ref (cl.at' "TooMany")) (.ref (cl.at' "NoPlan")) = some false
  ki_TooMany_NoRow : PySem.W.kitOne K (.ref (cl.at' "TooMany")) (.ref (cl.at' "NoRow")) = some false
  ki_TooMany_NoTable : PySem.W.kitOne K (.ref (cl.at' "TooMany")) (.ref (cl.at' "NoTable")) = some false
  ki_TooMany_NoWay : PySem.W.kitOne K (.ref (cl.at' "TooMany")) (.ref (cl.at' "NoWay")) = some false
  ki_TooMany_TooMany : PySem.W.kitOne K (.ref (cl.at' "TooMany")) (.ref (cl.at' "TooMany")) = some true
  ki_TooMany_ValueError : PySem.W.kitOne K (.ref (cl.at' "TooMany")) (.type "ValueError") = some true
  ki_TooMany_WayError : PySem.W.kitOne K (.ref (cl.at' "TooMany")) (.ref (cl.at' "WayError")) = some true
  mx_Endless : mg "Endless" = some (.ref (cl.at' "Endless"))
  mx_NoLine : mg "NoLine" = some (.ref (cl.at' "NoLine"))
  mx_NoMove : mg "NoMove" = some (.ref (cl.at' "NoMove"))
  mx_NoName : mg "NoName" = some (.ref (cl.at' "NoName"))
  mx_NoPaper : mg "NoPaper" = some (.ref (cl.at' "NoPaper"))
  mx_NoPicks : mg "NoPicks" = some (.ref (cl.at' "NoPicks"))
  mx_NoPlan : mg "NoPlan" = some (.ref (cl.at' "NoPlan"))
  mx_NoRow : mg "NoRow" = some (.ref (cl.at' "NoRow"))
  mx_NoTable : mg "NoTable" = some (.ref (cl.at' "NoTable"))
  mx_NoWay : mg "NoWay" = some (.ref (cl.at' "NoWay"))
  mx_TooMany : mg "TooMany" = some (.ref (cl.at' "TooMany"))
  mx_WayError : mg "WayError" = some (.ref (cl.at' "WayError"))
  kv_WayError : PySem.W.kitOne K (.type "ValueError") (.ref (cl.at' "WayError")) = some false
  exm : ExmOk K cl exmT
  x0 : ∀ b, cl.xof b = none
  z_ValueError : mg "ValueError" = none
  z_enumerate : mg "enumerate" = none
  z_int : mg "int" = none
  z_isinstance : mg "isinstance" = none
  z_range : mg "range" = none
section
variable {P : Program} {w : World} {K : PySem.W.Frag} {mg : Str → Option Value} {base : Heap} {cl : Cl}
theorem ok_Endless_init (T : Tx K mg cl) : FnOk P w K mg base (L2.CX P w) 1 T.x_Endless.fI T.x_Endless.fd ["self", "move"] (spI1 K (cl.at' "Endless") "move") :=
  T.x_Endless.F.okX (N := ["self", "move"]) (k := 0) sc_Endless_init spI1_len fun cdv A outer s H vs Q E hr hsp => ⟨_, pss_cons (ps_expr (pe_winit (by rfl) T.way.m T.way.ga T.way.rd T.way.vV (pa_cons (pv 0) (pa_cons pe_str pa_nil)))) (pss_one (ps_ost (pv 0) (pv 1))), by
    obtain ⟨a, v, rfl, h⟩ := hsp
    exact init1_sound (E := E) ⟨a, v, rfl, h⟩⟩
theorem ok_NoLine_init (T : Tx K mg cl) : FnOk P w K mg base (L2.CX P w) 1 T.x_NoLine.fI T.x_NoLine.fd ["self", "at"] (spI1 K (cl.at' "NoLine") "at") :=
  T.x_NoLine.F.okX (N := ["self", "at"]) (k := 0) sc_NoLine_init spI1_len fun cdv A outer s H vs Q E hr hsp => ⟨_, pss_cons (ps_expr (pe_winit (by rfl) T.way.m T.way.ga T.way.rd T.way.vV (pa_cons (pv 0) (pa_cons pe_str pa_nil)))) (pss_one (ps_ost (pv 0) (pv 1))), by
    obtain ⟨a, v, rfl, h⟩ := hsp
    exact init1_sound (E := E) ⟨a, v, rfl, h⟩⟩
theorem ok_NoMove_init (T : Tx K mg cl) : FnOk P w K mg base (L2.CX P w) 1 T.x_NoMove.fI T.x_NoMove.fd ["self", "at"] (spI1 K (cl.at' "NoMove") "at") :=
  T.x_NoMove.F.okX (N := ["self", "at"]) (k := 0) sc_NoMove_init spI1_len fun cdv A outer s H vs Q E hr hsp => ⟨_, pss_cons (ps_expr (pe_winit (by rfl) T.way.m T.way.ga T.way.rd T.way.vV (pa_cons (pv 0) (pa_cons pe_str pa_nil)))) (pss_one (ps_ost (pv 0) (pv 1))), by
    obtain ⟨a, v, rfl, h⟩ := hsp
    exact init1_sound (E := E) ⟨a, v, rfl, h⟩⟩
theorem ok_NoName_init (T : Tx K mg cl) : FnOk P w K mg base (L2.CX P w) 1 T.x_NoName.fI T.x_NoName.fd ["self", "name"] (spI1 K (cl.at' "NoName") "name") :=
  T.x_NoName.F.okX (N := ["self", "name"]) (k := 0) sc_NoName_init spI1_len fun cdv A outer s H vs Q E hr hsp => ⟨_, pss_cons (ps_expr (pe_winit (by rfl) T.way.m T.way.ga T.way.rd T.way.vV (pa_cons (pv 0) (pa_cons pe_str pa_nil)))) (pss_one (ps_ost (pv 0) (pv 1))), by
    obtain ⟨a, v, rfl, h⟩ := hsp
    exact init1_sound (E := E) ⟨a, v, rfl, h⟩⟩
theorem ok_NoPicks_init (T : Tx K mg cl) : FnOk P w K mg base (L2.CX P w) 1 T.x_NoPicks.fI T.x_NoPicks.fd ["self", "at"] (spI1 K (cl.at' "NoPicks") "at") :=
  T.x_NoPicks.F.okX (N := ["self", "at"]) (k := 0) sc_NoPicks_init spI1_len fun cdv A outer s H vs Q E hr hsp => ⟨_, pss_cons (ps_expr (pe_winit (by rfl) T.way.m T.way.ga T.way.rd T.way.vV (pa_cons (pv 0) (pa_cons pe_str pa_nil)))) (pss_one (ps_ost (pv 0) (pv 1))), by
    obtain ⟨a, v, rfl, h⟩ := hsp
    exact init1_sound (E := E) ⟨a, v, rfl, h⟩⟩
theorem ok_NoPlan_init (T : Tx K mg cl) : FnOk P w K mg base (L2.CX P w) 1 T.x_NoPlan.fI T.x_NoPlan.fd ["self", "what"] (spI1 K (cl.at' "NoPlan") "what") :=
  T.x_NoPlan.F.okX (N := ["self", "what"]) (k := 0) sc_NoPlan_init spI1_len fun cdv A outer s H vs Q E hr hsp => ⟨_, pss_cons (ps_expr (pe_winit (by rfl) T.way.m T.way.ga T.way.rd T.way.vV (pa_cons (pv 0) (pa_cons pe_str pa_nil)))) (pss_one (ps_ost (pv 0) (pv 1))), by
    obtain ⟨a, v, rfl, h⟩ := hsp
    exact init1_sound (E := E) ⟨a, v, rfl, h⟩⟩
theorem ok_NoRow_init (T : Tx K mg cl) : FnOk P w K mg base (L2.CX P w) 1 T.x_NoRow.fI T.x_NoRow.fd ["self", "at"] (spI1 K (cl.at' "NoRow") "at") :=
  T.x_NoRow.F.okX (N := ["self", "at"]) (k := 0) sc_NoRow_init spI1_len fun cdv A outer s H vs Q E hr hsp => ⟨_, pss_cons (ps_expr (pe_winit (by rfl) T.way.m T.way.ga T.way.rd T.way.vV (pa_cons (pv 0) (pa_cons pe_str pa_nil)))) (pss_one (ps_ost (pv 0) (pv 1))), by
    obtain ⟨a, v, rfl, h⟩ := hsp
    exact init1_sound (E := E) ⟨a, v, rfl, h⟩⟩
theorem ok_NoTable_init (T : Tx K mg cl) : FnOk P w K mg base (L2.CX P w) 1 T.x_NoTable.fI T.x_NoTable.fd ["self", "at"] (spI1 K (cl.at' "NoTable") "at") :=
  T.x_NoTable.F.okX (N := ["self", "at"]) (k := 0) sc_NoTable_init spI1_len fun cdv A outer s H vs Q E hr hsp => ⟨_, pss_cons (ps_expr (pe_winit (by rfl) T.way.m T.way.ga T.way.rd T.way.vV (pa_cons (pv 0) (pa_cons pe_str pa_nil)))) (pss_one (ps_ost (pv 0) (pv 1))), by
    obtain ⟨a, v, rfl, h⟩ := hsp
    exact init1_sound (E := E) ⟨a, v, rfl, h⟩⟩
theorem ok_NoWay_init (T : Tx K mg cl) : FnOk P w K mg base (L2.CX P w) 1 T.x_NoWay.fI T.x_NoWay.fd ["self", "at"] (spI1 K (cl.at' "NoWay") "at") :=
  T.x_NoWay.F.okX (N := ["self", "at"]) (k := 0) sc_NoWay_init spI1_len fun cdv A outer s H vs Q E hr hsp => ⟨_, pss_cons (ps_expr (pe_winit (by rfl) T.way.m T.way.ga T.way.rd T.way.vV (pa_cons (pv 0) (pa_cons pe_str pa_nil)))) (pss_one (ps_ost (pv 0) (pv 1))), by
    obtain ⟨a, v, rfl, h⟩ := hsp
    exact init1_sound (E := E) ⟨a, v, rfl, h⟩⟩
theorem ok_TooMany_init (T : Tx K mg cl) : FnOk P w K mg base (L2.CX P w) 1 T.x_TooMany.fI T.x_TooMany.fd ["self", "many"] (spI1 K (cl.at' "TooMany") "many") :=
  T.x_TooMany.F.okX (N := ["self", "many"]) (k := 0) sc_TooMany_init spI1_len fun cdv A outer s H vs Q E hr hsp => ⟨_, pss_cons (ps_expr (pe_winit (by rfl) T.way.m T.way.ga T.way.rd T.way.vV (pa_cons (pv 0) (pa_cons pe_str pa_nil)))) (pss_one (ps_ost (pv 0) (pv 1))), by
    obtain ⟨a, v, rfl, h⟩ := hsp
    exact init1_sound (E := E) ⟨a, v, rfl, h⟩⟩
theorem ok_NoPaper_init (T : Tx K mg cl) : FnOk P w K mg base (L2.CX P w) 1 T.x_NoPaper.fI T.x_NoPaper.fd ["self", "where", "at"] (spI2 K (cl.at' "NoPaper") "where" "at") :=
  T.x_NoPaper.F.okX (N := ["self", "where", "at"]) (k := 0) sc_NoPaper_init spI2_len fun cdv A outer s H vs Q E hr hsp => ⟨_, pss_cons (ps_expr (pe_winit (by rfl) T.way.m T.way.ga T.way.rd T.way.vV (pa_cons (pv 0) (pa_cons pe_str pa_nil)))) (pss_cons (ps_ost (pv 0) (pv 1)) (pss_one (ps_ost (pv 0) (pv 2)))), by
    obtain ⟨a, u, v, rfl, h⟩ := hsp
    exact init2_sound (E := E) ⟨a, u, v, rfl, h⟩⟩
noncomputable def g__law_draw : Ss := (sSeq (sIf (bT (xPrim [.ex (xPrim [.va 0, .ex (xC (.int 0))] pIx), .ex (xC (.int 0))] pGt)) (sSeq (sSet 3 (xPrim [.ex (xPrim [.va 0, .ex (xC (.int 0))] pIx), .va 1] pMod))
    (sSeq (sStore 0 (xPrim [.ex (xPrim [.va 0, .ex (xC (.int 0))] pIx), .va 1] pFdiv) (.ex (xC (.int 0))))
    (sRetV 3))) sNil)
    (sSeq (sStore 0 (xPrim [.ex (xPrim [.va 0, .ex (xC (.int 2))] pIx), .ex (xC (.int 1))] pAdd) (.ex (xC (.int 2))))
    (sSeq (sSet 2 (xPrim [.ex (xPrim [.ex (xPrim [.ex (xPrim [.ex (xPrim [.va 0, .ex (xC (.int 1))] pIx), .ex (xPrim [.ex (xC (.int 104729)), .ex (xPrim [.va 0, .ex (xC (.int 2))] pIx)] pMul)] pAdd), .ex (xC (.int 1))] pAdd), .ex (xC (.int 48271))] pMul), .ex (xC (.int 2147483647))] pMod))
    (sSeq (sSet 2 (xPrim [.ex (xPrim [.va 2, .ex (xPrim [.ex (xPrim [.va 2, .ex (xC (.int 1009))] pFdiv), .ex (xC (.int 69621))] pAdd)] pMul), .ex (xC (.int 2147483647))] pMod))
    (sRet (xPrim [.ex (xPrim [.ex (xPrim [.va 2, .ex (xPrim [.ex (xPrim [.va 2, .ex (xC (.int 2003))] pFdiv), .ex (xC (.int 40692))] pAdd)] pMul), .ex (xC (.int 2147483399))] pMod), .va 1] pMod))))))
noncomputable def f__law_draw : Fn := bodyF 4 g__law_draw
theorem ok__law_draw (T : Tx K mg cl) : FnOk P w K mg base (L2.CX P w) 1 T.a__law_draw T.fd__law_draw ["_law_well", "_law_cap"] (spF (gk K cl) 2 f__law_draw) :=
  fn_ok (N := ["_law_well", "_law_cap", "_law_number", "_law_found"]) (k := 0) (g := g__law_draw) T.F__law_draw sc__law_draw fun cdv A outer s H vs E hr => (bj_cons (sj_if (tj_gt (oj_cons (lj_ex (ej_sbs (oj_cons (lj_va (pv 0)) (oj_cons (lj_ex ej_int) oj_nil)))) (oj_cons (lj_ex ej_int) oj_nil))) (bj_cons (sj_set (i := 3) sc__law_draw.nd rfl (.inl rfl) (ej_mod (oj_cons (lj_ex (ej_sbs (oj_cons (lj_va (pv 0)) (oj_cons (lj_ex ej_int) oj_nil)))) (oj_cons (lj_va (pv 1)) oj_nil))))
    (bj_cons (sj_store (pv 0) (oj_cons (lj_ex ej_int) oj_nil) (ej_fdiv (oj_cons (lj_ex (ej_sbs (oj_cons (lj_va (pv 0)) (oj_cons (lj_ex ej_int) oj_nil)))) (oj_cons (lj_va (pv 1)) oj_nil))))
    (bj_one (sj_retV (pv 3))))) bj_nil)
    (bj_cons (sj_store (pv 0) (oj_cons (lj_ex ej_int) oj_nil) (ej_add (oj_cons (lj_ex (ej_sbs (oj_cons (lj_va (pv 0)) (oj_cons (lj_ex ej_int) oj_nil)))) (oj_cons (lj_ex ej_int) oj_nil))))
    (bj_cons (sj_set (i := 2) sc__law_draw.nd rfl (.inl rfl) (ej_mod (oj_cons (lj_ex (ej_mul (oj_cons (lj_ex (ej_add (oj_cons (lj_ex (ej_add (oj_cons (lj_ex (ej_sbs (oj_cons (lj_va (pv 0)) (oj_cons (lj_ex ej_int) oj_nil)))) (oj_cons (lj_ex (ej_mul (oj_cons (lj_ex ej_int) (oj_cons (lj_ex (ej_sbs (oj_cons (lj_va (pv 0)) (oj_cons (lj_ex ej_int) oj_nil)))) oj_nil)))) oj_nil)))) (oj_cons (lj_ex ej_int) oj_nil)))) (oj_cons (lj_ex ej_int) oj_nil)))) (oj_cons (lj_ex ej_int) oj_nil))))
    (bj_cons (sj_set (i := 2) sc__law_draw.nd rfl (.inl rfl) (ej_mod (oj_cons (lj_ex (ej_mul (oj_cons (lj_va (pv 2)) (oj_cons (lj_ex (ej_add (oj_cons (lj_ex (ej_fdiv (oj_cons (lj_va (pv 2)) (oj_cons (lj_ex ej_int) oj_nil)))) (oj_cons (lj_ex ej_int) oj_nil)))) oj_nil)))) (oj_cons (lj_ex ej_int) oj_nil))))
    (bj_one (sj_ret (ej_mod (oj_cons (lj_ex (ej_mod (oj_cons (lj_ex (ej_mul (oj_cons (lj_va (pv 2)) (oj_cons (lj_ex (ej_add (oj_cons (lj_ex (ej_fdiv (oj_cons (lj_va (pv 2)) (oj_cons (lj_ex ej_int) oj_nil)))) (oj_cons (lj_ex ej_int) oj_nil)))) oj_nil)))) (oj_cons (lj_ex ej_int) oj_nil)))) (oj_cons (lj_va (pv 1)) oj_nil)))))))))
noncomputable def g__law_by_place : Ss := (sSeq (sSet 1 (xLst [(xExn "NoRow" ["at"] 0), (xExn "NoMove" ["at"] 0), (xExn "NoWay" ["at"] 0), (xExn "NoPaper" ["at", "where"] 0), (xExn "TooMany" ["many"] 0), (xExn "Endless" ["move"] 0), (xExn "NoPlan" ["what"] 0), (xExn "NoPicks" ["at"] 0)]))
    (sRet (xPrim [.va 1, .ex (xLst [(xExn "NoTable" ["at"] 0), (xExn "NoName" ["name"] 0), (xExn "NoLine" ["at"] 0)])] pAdd)))
noncomputable def f__law_by_place : Fn := bodyF 2 g__law_by_place
theorem ok__law_by_place (T : Tx K mg cl) : FnOk P w K mg base (L2.CX P w) 3 T.a__law_by_place T.fd__law_by_place ["_law_x"] (spF (gk K cl) 1 f__law_by_place) :=
  fn_ok (N := ["_law_x", "_law_some"]) (k := 2) (g := g__law_by_place) T.F__law_by_place sc__law_by_place fun cdv A outer s H vs E hr => (bj_cons (sj_set (i := 1) sc__law_by_place.nd rfl (.inl rfl) (ej_lst (mj_cons (ej_exn1 T.x_NoRow.oex (T.x_NoRow.nf _ (by decide)) T.x_NoRow.iC T.x_NoRow.tI (ok_NoRow_init T) (hr.mono (by first | decide | omega)) T.bi_NoRow (passF (takes_of rfl rfl rfl rfl)) (by rfl) T.x_NoRow.m (pv 0)) (mj_cons (ej_exn1 T.x_NoMove.oex (T.x_NoMove.nf _ (by decide)) T.x_NoMove.iC T.x_NoMove.tI (ok_NoMove_init T) (hr.mono (by first | decide | omega)) T.bi_NoMove (passF (takes_of rfl rfl rfl rfl)) (by rfl) T.x_NoMove.m (pv 0)) (mj_cons (ej_exn1 T.x_NoWay.oex (T.x_NoWay.nf _ (by decide)) T.x_NoWay.iC T.x_NoWay.tI (ok_NoWay_init T) (hr.mono (by first | decide | omega)) T.bi_NoWay (passF (takes_of rfl rfl rfl rfl)) (by rfl) T.x_NoWay.m (pv 0)) (mj_cons (ej_exn2 T.x_NoPaper.oex (T.x_NoPaper.nf _ (by decide)) (T.x_NoPaper.nf _ (by decide)) T.x_NoPaper.iC T.x_NoPaper.tI (ok_NoPaper_init T) (hr.mono (by first | decide | omega)) T.bi_NoPaper (passF (takes_of rfl rfl rfl rfl)) (by rfl) T.x_NoPaper.m (pv 0) (pv 0)) (mj_cons (ej_exn1 T.x_TooMany.oex (T.x_TooMany.nf _ (by decide)) T.x_TooMany.iC T.x_TooMany.tI (ok_TooMany_init T) (hr.mono (by first | decide | omega)) T.bi_TooMany (passF (takes_of rfl rfl rfl rfl)) (by rfl) T.x_TooMany.m (pv 0)) (mj_cons (ej_exn1 T.x_Endless.oex (T.x_Endless.nf _ (by decide)) T.x_Endless.iC T.x_Endless.tI (ok_Endless_init T) (hr.mono (by first | decide | omega)) T.bi_Endless (passF (takes_of rfl rfl rfl rfl)) (by rfl) T.x_Endless.m (pv 0)) (mj_cons (ej_exn1 T.x_NoPlan.oex (T.x_NoPlan.nf _ (by decide)) T.x_NoPlan.iC T.x_NoPlan.tI (ok_NoPlan_init T) (hr.mono (by first | decide | omega)) T.bi_NoPlan (passF (takes_of rfl rfl rfl rfl)) (by rfl) T.x_NoPlan.m (pv 0)) (mj_cons (ej_exn1 T.x_NoPicks.oex (T.x_NoPicks.nf _ (by decide)) T.x_NoPicks.iC T.x_NoPicks.tI (ok_NoPicks_init T) (hr.mono (by first | decide | omega)) T.bi_NoPicks (passF (takes_of rfl rfl rfl rfl)) (by rfl) T.x_NoPicks.m (pv 0)) mj_nil))))))))))
    (bj_one (sj_ret (ej_add (oj_cons (lj_va (pv 1)) (oj_cons (lj_ex (ej_lst (mj_cons (ej_exn1 T.x_NoTable.oex (T.x_NoTable.nf _ (by decide)) T.x_NoTable.iC T.x_NoTable.tI (ok_NoTable_init T) (hr.mono (by first | decide | omega)) T.bi_NoTable (passF (takes_of rfl rfl rfl rfl)) (by rfl) T.x_NoTable.m (pv 0)) (mj_cons (ej_exn1 T.x_NoName.oex (T.x_NoName.nf _ (by decide)) T.x_NoName.iC T.x_NoName.tI (ok_NoName_init T) (hr.mono (by first | decide | omega)) T.bi_NoName (passF (takes_of rfl rfl rfl rfl)) (by rfl) T.x_NoName.m (pv 0)) (mj_cons (ej_exn1 T.x_NoLine.oex (T.x_NoLine.nf _ (by decide)) T.x_NoLine.iC T.x_NoLine.tI (ok_NoLine_init T) (hr.mono (by first | decide | omega)) T.bi_NoLine (passF (takes_of rfl rfl rfl rfl)) (by rfl) T.x_NoLine.m (pv 0)) mj_nil))))) oj_nil))))))
noncomputable def g__law_by_name : Ss := (sSeq (sSet 1 (xLst [(xExn "NoRow" ["at"] 0), (xExn "NoMove" ["at"] 0), (xExn "NoWay" ["at"] 0), (xExn "NoPaper" ["at", "where"] 0), (xExn "TooMany" ["many"] 0), (xExn "Endless" ["move"] 0)]))
    (sRet (xPrim [.va 1, .ex (xLst [(xExn "NoPlan" ["what"] 0), (xExn "NoPicks" ["at"] 0), (xExn "NoTable" ["at"] 0), (xExn "NoName" ["name"] 0), (xExn "NoLine" ["at"] 0)])] pAdd)))
noncomputable def f__law_by_name : Fn := bodyF 2 g__law_by_name
theorem ok__law_by_name (T : Tx K mg cl) : FnOk P w K mg base (L2.CX P w) 3 T.a__law_by_name T.fd__law_by_name ["_law_x"] (spF (gk K cl) 1 f__law_by_name) :=
  fn_ok (N := ["_law_x", "_law_some"]) (k := 2) (g := g__law_by_name) T.F__law_by_name sc__law_by_name fun cdv A outer s H vs E hr => (bj_cons (sj_set (i := 1) sc__law_by_name.nd rfl (.inl rfl) (ej_lst (mj_cons (ej_exnK T.x_NoRow.oex (T.x_NoRow.nf _ (by decide)) T.x_NoRow.iC T.x_NoRow.tI (ok_NoRow_init T) (hr.mono (by first | decide | omega)) T.bk_NoRow (passF (takes_of rfl rfl rfl rfl)) (by rfl) T.x_NoRow.m (pv 0)) (mj_cons (ej_exnK T.x_NoMove.oex (T.x_NoMove.nf _ (by decide)) T.x_NoMove.iC T.x_NoMove.tI (ok_NoMove_init T) (hr.mono (by first | decide | omega)) T.bk_NoMove (passF (takes_of rfl rfl rfl rfl)) (by rfl) T.x_NoMove.m (pv 0)) (mj_cons (ej_exnK T.x_NoWay.oex (T.x_NoWay.nf _ (by decide)) T.x_NoWay.iC T.x_NoWay.tI (ok_NoWay_init T) (hr.mono (by first | decide | omega)) T.bk_NoWay (passF (takes_of rfl rfl rfl rfl)) (by rfl) T.x_NoWay.m (pv 0)) (mj_cons (ej_exnK2 T.x_NoPaper.oex (T.x_NoPaper.nf _ (by decide)) (T.x_NoPaper.nf _ (by decide)) T.x_NoPaper.iC T.x_NoPaper.tI (ok_NoPaper_init T) (hr.mono (by first | decide | omega)) T.bk_NoPaper (passF (takes_of rfl rfl rfl rfl)) (by rfl) T.x_NoPaper.m (pv 0) (pv 0)) (mj_cons (ej_exnK T.x_TooMany.oex (T.x_TooMany.nf _ (by decide)) T.x_TooMany.iC T.x_TooMany.tI (ok_TooMany_init T) (hr.mono (by first | decide | omega)) T.bk_TooMany (passF (takes_of rfl rfl rfl rfl)) (by rfl) T.x_TooMany.m (pv 0)) (mj_cons (ej_exnK T.x_Endless.oex (T.x_Endless.nf _ (by decide)) T.x_Endless.iC T.x_Endless.tI (ok_Endless_init T) (hr.mono (by first | decide | omega)) T.bk_Endless (passF (takes_of rfl rfl rfl rfl)) (by rfl) T.x_Endless.m (pv 0)) mj_nil))))))))
    (bj_one (sj_ret (ej_add (oj_cons (lj_va (pv 1)) (oj_cons (lj_ex (ej_lst (mj_cons (ej_exnK T.x_NoPlan.oex (T.x_NoPlan.nf _ (by decide)) T.x_NoPlan.iC T.x_NoPlan.tI (ok_NoPlan_init T) (hr.mono (by first | decide | omega)) T.bk_NoPlan (passF (takes_of rfl rfl rfl rfl)) (by rfl) T.x_NoPlan.m (pv 0)) (mj_cons (ej_exnK T.x_NoPicks.oex (T.x_NoPicks.nf _ (by decide)) T.x_NoPicks.iC T.x_NoPicks.tI (ok_NoPicks_init T) (hr.mono (by first | decide | omega)) T.bk_NoPicks (passF (takes_of rfl rfl rfl rfl)) (by rfl) T.x_NoPicks.m (pv 0)) (mj_cons (ej_exnK T.x_NoTable.oex (T.x_NoTable.nf _ (by decide)) T.x_NoTable.iC T.x_NoTable.tI (ok_NoTable_init T) (hr.mono (by first | decide | omega)) T.bk_NoTable (passF (takes_of rfl rfl rfl rfl)) (by rfl) T.x_NoTable.m (pv 0)) (mj_cons (ej_exnK T.x_NoName.oex (T.x_NoName.nf _ (by decide)) T.x_NoName.iC T.x_NoName.tI (ok_NoName_init T) (hr.mono (by first | decide | omega)) T.bk_NoName (passF (takes_of rfl rfl rfl rfl)) (by rfl) T.x_NoName.m (pv 0)) (mj_cons (ej_exnK T.x_NoLine.oex (T.x_NoLine.nf _ (by decide)) T.x_NoLine.iC T.x_NoLine.tI (ok_NoLine_init T) (hr.mono (by first | decide | omega)) T.bk_NoLine (passF (takes_of rfl rfl rfl rfl)) (by rfl) T.x_NoLine.m (pv 0)) mj_nil))))))) oj_nil))))))
noncomputable def g__law_fields : Ss := (sSeq (sSet 1 (xLst [(xPrim [.ex (xPrim [.va 0, .ex (xC (.int 0))] pIx)] (pXv ["NoLine", "NoMove", "NoPaper", "NoPicks", "NoRow", "NoTable", "NoWay"] "at")), (xPrim [.ex (xPrim [.va 0, .ex (xC (.int 1))] pIx)] (pXv ["NoLine", "NoMove", "NoPaper", "NoPicks", "NoRow", "NoTable", "NoWay"] "at")), (xPrim [.ex (xPrim [.va 0, .ex (xC (.int 2))] pIx)] (pXv ["NoLine", "NoMove", "NoPaper", "NoPicks", "NoRow", "NoTable", "NoWay"] "at")), (xPrim [.ex (xPrim [.va 0, .ex (xC (.int 3))] pIx)] (pXv ["NoLine", "NoMove", "NoPaper", "NoPicks", "NoRow", "NoTable", "NoWay"] "at")), (xPrim [.ex (xPrim [.va 0, .ex (xC (.int 3))] pIx)] (pXv ["NoPaper"] "where")), (xPrim [.ex (xPrim [.va 0, .ex (xC (.int 4))] pIx)] (pXv ["TooMany"] "many")), (xPrim [.ex (xPrim [.va 0, .ex (xC (.int 5))] pIx)] (pXv ["Endless"] "move"))]))
    (sRet (xPrim [.va 1, .ex (xLst [(xPrim [.ex (xPrim [.va 0, .ex (xC (.int 6))] pIx)] (pXv ["NoPlan"] "what")), (xPrim [.ex (xPrim [.va 0, .ex (xC (.int 7))] pIx)] (pXv ["NoLine", "NoMove", "NoPaper", "NoPicks", "NoRow", "NoTable", "NoWay"] "at")), (xPrim [.ex (xPrim [.va 0, .ex (xC (.int 8))] pIx)] (pXv ["NoLine", "NoMove", "NoPaper", "NoPicks", "NoRow", "NoTable", "NoWay"] "at")), (xPrim [.ex (xPrim [.va 0, .ex (xC (.int 9))] pIx)] (pXv ["NoName"] "name")), (xPrim [.ex (xPrim [.va 0, .ex (xC (.int 10))] pIx)] (pXv ["NoLine", "NoMove", "NoPaper", "NoPicks", "NoRow", "NoTable", "NoWay"] "at"))])] pAdd)))
noncomputable def f__law_fields : Fn := bodyF 2 g__law_fields
theorem ok__law_fields (T : Tx K mg cl) : FnOk P w K mg base (L2.CX P w) 1 T.a__law_fields T.fd__law_fields ["_law_some"] (spF (gk K cl) 1 f__law_fields) :=
  fn_ok (N := ["_law_some", "_law_found"]) (k := 0) (g := g__law_fields) T.F__law_fields sc__law_fields fun cdv A outer s H vs E hr => (bj_cons (sj_set (i := 1) sc__law_fields.nd rfl (.inl rfl) (ej_lst (mj_cons (ej_xv (cs := ["NoLine", "NoMove", "NoPaper", "NoPicks", "NoRow", "NoTable", "NoWay"]) (fun c hc => by
      simp only [List.mem_cons, List.not_mem_nil, or_false] at hc
      rcases hc with rfl | rfl | rfl | rfl | rfl | rfl | rfl
      · exact ⟨T.x_NoLine.xf, T.x_NoLine.nf _ (by decide)⟩
      · exact ⟨T.x_NoMove.xf, T.x_NoMove.nf _ (by decide)⟩
      · exact ⟨T.x_NoPaper.xf, T.x_NoPaper.nf _ (by decide)⟩
      · exact ⟨T.x_NoPicks.xf, T.x_NoPicks.nf _ (by decide)⟩
      · exact ⟨T.x_NoRow.xf, T.x_NoRow.nf _ (by decide)⟩
      · exact ⟨T.x_NoTable.xf, T.x_NoTable.nf _ (by decide)⟩
      · exact ⟨T.x_NoWay.xf, T.x_NoWay.nf _ (by decide)⟩) (oj_cons (lj_ex (ej_sbs (oj_cons (lj_va (pv 0)) (oj_cons (lj_ex ej_int) oj_nil)))) oj_nil)) (mj_cons (ej_xv (cs := ["NoLine", "NoMove", "NoPaper", "NoPicks", "NoRow", "NoTable", "NoWay"]) (fun c hc => by
      simp only [List.mem_cons, List.not_mem_nil, or_false] at hc
      rcases hc with rfl | rfl | rfl | rfl | rfl | rfl | rfl
      · exact ⟨T.x_NoLine.xf, T.x_NoLine.nf _ (by decide)⟩
      · exact ⟨T.x_NoMove.xf, T.x_NoMove.nf _ (by decide)⟩
      · exact ⟨T.x_NoPaper.xf, T.x_NoPaper.nf _ (by decide)⟩
      · exact ⟨T.x_NoPicks.xf, T.x_NoPicks.nf _ (by decide)⟩
      · exact ⟨T.x_NoRow.xf, T.x_NoRow.nf _ (by decide)⟩
      · exact ⟨T.x_NoTable.xf, T.x_NoTable.nf _ (by decide)⟩
      · exact ⟨T.x_NoWay.xf, T.x_NoWay.nf _ (by decide)⟩) (oj_cons (lj_ex (ej_sbs (oj_cons (lj_va (pv 0)) (oj_cons (lj_ex ej_int) oj_nil)))) oj_nil)) (mj_cons (ej_xv (cs := ["NoLine", "NoMove", "NoPaper", "NoPicks", "NoRow", "NoTable", "NoWay"]) (fun c hc => by
      simp only [List.mem_cons, List.not_mem_nil, or_false] at hc
      rcases hc with rfl | rfl | rfl | rfl | rfl | rfl | rfl
      · exact ⟨T.x_NoLine.xf, T.x_NoLine.nf _ (by decide)⟩
      · exact ⟨T.x_NoMove.xf, T.x_NoMove.nf _ (by decide)⟩
      · exact ⟨T.x_NoPaper.xf, T.x_NoPaper.nf _ (by decide)⟩
      · exact ⟨T.x_NoPicks.xf, T.x_NoPicks.nf _ (by decide)⟩
      · exact ⟨T.x_NoRow.xf, T.x_NoRow.nf _ (by decide)⟩
      · exact ⟨T.x_NoTable.xf, T.x_NoTable.nf _ (by decide)⟩
      · exact ⟨T.x_NoWay.xf, T.x_NoWay.nf _ (by decide)⟩) (oj_cons (lj_ex (ej_sbs (oj_cons (lj_va (pv 0)) (oj_cons (lj_ex ej_int) oj_nil)))) oj_nil)) (mj_cons (ej_xv (cs := ["NoLine", "NoMove", "NoPaper", "NoPicks", "NoRow", "NoTable", "NoWay"]) (fun c hc => by
      simp only [List.mem_cons, List.not_mem_nil, or_false] at hc
      rcases hc with rfl | rfl | rfl | rfl | rfl | rfl | rfl
      · exact ⟨T.x_NoLine.xf, T.x_NoLine.nf _ (by decide)⟩
      · exact ⟨T.x_NoMove.xf, T.x_NoMove.nf _ (by decide)⟩
      · exact ⟨T.x_NoPaper.xf, T.x_NoPaper.nf _ (by decide)⟩
      · exact ⟨T.x_NoPicks.xf, T.x_NoPicks.nf _ (by decide)⟩
      · exact ⟨T.x_NoRow.xf, T.x_NoRow.nf _ (by decide)⟩
      · exact ⟨T.x_NoTable.xf, T.x_NoTable.nf _ (by decide)⟩
      · exact ⟨T.x_NoWay.xf, T.x_NoWay.nf _ (by decide)⟩) (oj_cons (lj_ex (ej_sbs (oj_cons (lj_va (pv 0)) (oj_cons (lj_ex ej_int) oj_nil)))) oj_nil)) (mj_cons (ej_xv (cs := ["NoPaper"]) (fun c hc => by
      simp only [List.mem_cons, List.not_mem_nil, or_false] at hc
      rcases hc with rfl
      · exact ⟨T.x_NoPaper.xf, T.x_NoPaper.nf _ (by decide)⟩) (oj_cons (lj_ex (ej_sbs (oj_cons (lj_va (pv 0)) (oj_cons (lj_ex ej_int) oj_nil)))) oj_nil)) (mj_cons (ej_xv (cs := ["TooMany"]) (fun c hc => by
      simp only [List.mem_cons, List.not_mem_nil, or_false] at hc
      rcases hc with rfl
      · exact ⟨T.x_TooMany.xf, T.x_TooMany.nf _ (by decide)⟩) (oj_cons (lj_ex (ej_sbs (oj_cons (lj_va (pv 0)) (oj_cons (lj_ex ej_int) oj_nil)))) oj_nil)) (mj_cons (ej_xv (cs := ["Endless"]) (fun c hc => by
      simp only [List.mem_cons, List.not_mem_nil, or_false] at hc
      rcases hc with rfl
      · exact ⟨T.x_Endless.xf, T.x_Endless.nf _ (by decide)⟩) (oj_cons (lj_ex (ej_sbs (oj_cons (lj_va (pv 0)) (oj_cons (lj_ex ej_int) oj_nil)))) oj_nil)) mj_nil)))))))))
    (bj_one (sj_ret (ej_add (oj_cons (lj_va (pv 1)) (oj_cons (lj_ex (ej_lst (mj_cons (ej_xv (cs := ["NoPlan"]) (fun c hc => by
      simp only [List.mem_cons, List.not_mem_nil, or_false] at hc
      rcases hc with rfl
      · exact ⟨T.x_NoPlan.xf, T.x_NoPlan.nf _ (by decide)⟩) (oj_cons (lj_ex (ej_sbs (oj_cons (lj_va (pv 0)) (oj_cons (lj_ex ej_int) oj_nil)))) oj_nil)) (mj_cons (ej_xv (cs := ["NoLine", "NoMove", "NoPaper", "NoPicks", "NoRow", "NoTable", "NoWay"]) (fun c hc => by
      simp only [List.mem_cons, List.not_mem_nil, or_false] at hc
      rcases hc with rfl | rfl | rfl | rfl | rfl | rfl | rfl
      · exact ⟨T.x_NoLine.xf, T.x_NoLine.nf _ (by decide)⟩
      · exact ⟨T.x_NoMove.xf, T.x_NoMove.nf _ (by decide)⟩
      · exact ⟨T.x_NoPaper.xf, T.x_NoPaper.nf _ (by decide)⟩
      · exact ⟨T.x_NoPicks.xf, T.x_NoPicks.nf _ (by decide)⟩
      · exact ⟨T.x_NoRow.xf, T.x_NoRow.nf _ (by decide)⟩
      · exact ⟨T.x_NoTable.xf, T.x_NoTable.nf _ (by decide)⟩
      · exact ⟨T.x_NoWay.xf, T.x_NoWay.nf _ (by decide)⟩) (oj_cons (lj_ex (ej_sbs (oj_cons (lj_va (pv 0)) (oj_cons (lj_ex ej_int) oj_nil)))) oj_nil)) (mj_cons (ej_xv (cs := ["NoLine", "NoMove", "NoPaper", "NoPicks", "NoRow", "NoTable", "NoWay"]) (fun c hc => by
      simp only [List.mem_cons, List.not_mem_nil, or_false] at hc
      rcases hc with rfl | rfl | rfl | rfl | rfl | rfl | rfl
      · exact ⟨T.x_NoLine.xf, T.x_NoLine.nf _ (by decide)⟩
      · exact ⟨T.x_NoMove.xf, T.x_NoMove.nf _ (by decide)⟩
      · exact ⟨T.x_NoPaper.xf, T.x_NoPaper.nf _ (by decide)⟩
      · exact ⟨T.x_NoPicks.xf, T.x_NoPicks.nf _ (by decide)⟩
      · exact ⟨T.x_NoRow.xf, T.x_NoRow.nf _ (by decide)⟩
      · exact ⟨T.x_NoTable.xf, T.x_NoTable.nf _ (by decide)⟩
      · exact ⟨T.x_NoWay.xf, T.x_NoWay.nf _ (by decide)⟩) (oj_cons (lj_ex (ej_sbs (oj_cons (lj_va (pv 0)) (oj_cons (lj_ex ej_int) oj_nil)))) oj_nil)) (mj_cons (ej_xv (cs := ["NoName"]) (fun c hc => by
      simp only [List.mem_cons, List.not_mem_nil, or_false] at hc
      rcases hc with rfl
      · exact ⟨T.x_NoName.xf, T.x_NoName.nf _ (by decide)⟩) (oj_cons (lj_ex (ej_sbs (oj_cons (lj_va (pv 0)) (oj_cons (lj_ex ej_int) oj_nil)))) oj_nil)) (mj_cons (ej_xv (cs := ["NoLine", "NoMove", "NoPaper", "NoPicks", "NoRow", "NoTable", "NoWay"]) (fun c hc => by
      simp only [List.mem_cons, List.not_mem_nil, or_false] at hc
      rcases hc with rfl | rfl | rfl | rfl | rfl | rfl | rfl
      · exact ⟨T.x_NoLine.xf, T.x_NoLine.nf _ (by decide)⟩
      · exact ⟨T.x_NoMove.xf, T.x_NoMove.nf _ (by decide)⟩
      · exact ⟨T.x_NoPaper.xf, T.x_NoPaper.nf _ (by decide)⟩
      · exact ⟨T.x_NoPicks.xf, T.x_NoPicks.nf _ (by decide)⟩
      · exact ⟨T.x_NoRow.xf, T.x_NoRow.nf _ (by decide)⟩
      · exact ⟨T.x_NoTable.xf, T.x_NoTable.nf _ (by decide)⟩
      · exact ⟨T.x_NoWay.xf, T.x_NoWay.nf _ (by decide)⟩) (oj_cons (lj_ex (ej_sbs (oj_cons (lj_va (pv 0)) (oj_cons (lj_ex ej_int) oj_nil)))) oj_nil)) mj_nil))))))) oj_nil))))))
noncomputable def g__law_taken : Ss := (sSeq (sSet 1 (xLst [(xPrim [.va 0] (pIsV [("Endless", false), ("NoLine", false), ("NoMove", false), ("NoName", false), ("NoPaper", false), ("NoPicks", false), ("NoPlan", false), ("NoRow", true), ("NoTable", false), ("NoWay", false), ("TooMany", false)])), (xPrim [.va 0] (pIsV [("Endless", false), ("NoLine", false), ("NoMove", true), ("NoName", false), ("NoPaper", false), ("NoPicks", false), ("NoPlan", false), ("NoRow", false), ("NoTable", false), ("NoWay", false), ("TooMany", false)])), (xPrim [.va 0] (pIsV [("Endless", false), ("NoLine", false), ("NoMove", false), ("NoName", false), ("NoPaper", false), ("NoPicks", false), ("NoPlan", false), ("NoRow", false), ("NoTable", false), ("NoWay", true), ("TooMany", false)])), (xPrim [.va 0] (pIsV [("Endless", false), ("NoLine", false), ("NoMove", false), ("NoName", false), ("NoPaper", true), ("NoPicks", false), ("NoPlan", false), ("NoRow", false), ("NoTable", false), ("NoWay", false), ("TooMany", false)]))]))
    (sSeq (sSet 2 (xLst [(xPrim [.va 0] (pIsV [("Endless", false), ("NoLine", false), ("NoMove", false), ("NoName", false), ("NoPaper", false), ("NoPicks", false), ("NoPlan", false), ("NoRow", false), ("NoTable", false), ("NoWay", false), ("TooMany", true)])), (xPrim [.va 0] (pIsV [("Endless", true), ("NoLine", false), ("NoMove", false), ("NoName", false), ("NoPaper", false), ("NoPicks", false), ("NoPlan", false), ("NoRow", false), ("NoTable", false), ("NoWay", false), ("TooMany", false)])), (xPrim [.va 0] (pIsV [("Endless", false), ("NoLine", false), ("NoMove", false), ("NoName", false), ("NoPaper", false), ("NoPicks", false), ("NoPlan", true), ("NoRow", false), ("NoTable", false), ("NoWay", false), ("TooMany", false)])), (xPrim [.va 0] (pIsV [("Endless", false), ("NoLine", false), ("NoMove", false), ("NoName", false), ("NoPaper", false), ("NoPicks", true), ("NoPlan", false), ("NoRow", false), ("NoTable", false), ("NoWay", false), ("TooMany", false)]))]))
    (sRet (xPrim [.ex (xPrim [.va 1, .va 2] pAdd), .ex (xLst [(xPrim [.va 0] (pIsV [("Endless", false), ("NoLine", false), ("NoMove", false), ("NoName", false), ("NoPaper", false), ("NoPicks", false), ("NoPlan", false), ("NoRow", false), ("NoTable", true), ("NoWay", false), ("TooMany", false)])), (xPrim [.va 0] (pIsV [("Endless", false), ("NoLine", false), ("NoMove", false), ("NoName", true), ("NoPaper", false), ("NoPicks", false), ("NoPlan", false), ("NoRow", false), ("NoTable", false), ("NoWay", false), ("TooMany", false)])), (xPrim [.va 0] (pIsV [("Endless", false), ("NoLine", true), ("NoMove", false), ("NoName", false), ("NoPaper", false), ("NoPicks", false), ("NoPlan", false), ("NoRow", false), ("NoTable", false), ("NoWay", false), ("TooMany", false)]))])] pAdd))))
noncomputable def f__law_taken : Fn := bodyF 3 g__law_taken
theorem ok__law_taken (T : Tx K mg cl) : FnOk P w K mg base (L2.CX P w) 1 T.a__law_taken T.fd__law_taken ["_law_e"] (spF (gk K cl) 1 f__law_taken) :=
  fn_ok (N := ["_law_e", "_law_first", "_law_more"]) (k := 0) (g := g__law_taken) T.F__law_taken sc__law_taken fun cdv A outer s H vs E hr => (bj_cons (sj_set (i := 1) sc__law_taken.nd rfl (.inl rfl) (ej_lst (mj_cons (ej_isV (tb := [("Endless", false), ("NoLine", false), ("NoMove", false), ("NoName", false), ("NoPaper", false), ("NoPicks", false), ("NoPlan", false), ("NoRow", true), ("NoTable", false), ("NoWay", false), ("TooMany", false)]) (cV := (.ref (cl.at' "NoRow"))) (cv := (.ref (cl.at' "NoRow"))) (fun q hq => by
      simp only [List.mem_cons, List.not_mem_nil, or_false] at hq
      rcases hq with rfl | rfl | rfl | rfl | rfl | rfl | rfl | rfl | rfl | rfl | rfl
      · exact ⟨T.kx_Endless, T.ki_Endless_NoRow⟩
      · exact ⟨T.kx_NoLine, T.ki_NoLine_NoRow⟩
      · exact ⟨T.kx_NoMove, T.ki_NoMove_NoRow⟩
      · exact ⟨T.kx_NoName, T.ki_NoName_NoRow⟩
      · exact ⟨T.kx_NoPaper, T.ki_NoPaper_NoRow⟩
      · exact ⟨T.kx_NoPicks, T.ki_NoPicks_NoRow⟩
      · exact ⟨T.kx_NoPlan, T.ki_NoPlan_NoRow⟩
      · exact ⟨T.kx_NoRow, T.ki_NoRow_NoRow⟩
      · exact ⟨T.kx_NoTable, T.ki_NoTable_NoRow⟩
      · exact ⟨T.kx_NoWay, T.ki_NoWay_NoRow⟩
      · exact ⟨T.kx_TooMany, T.ki_TooMany_NoRow⟩) (.own _) T.z_isinstance (by rfl) (oj_cons (lj_va (pv 0)) oj_nil) (pe_glob (by rfl) T.mx_NoRow rfl)) (mj_cons (ej_isV (tb := [("Endless", false), ("NoLine", false), ("NoMove", true), ("NoName", false), ("NoPaper", false), ("NoPicks", false), ("NoPlan", false), ("NoRow", false), ("NoTable", false), ("NoWay", false), ("TooMany", false)]) (cV := (.ref (cl.at' "NoMove"))) (cv := (.ref (cl.at' "NoMove"))) (fun q hq => by
      simp only [List.mem_cons, List.not_mem_nil, or_false] at hq
      rcases hq with rfl | rfl | rfl | rfl | rfl | rfl | rfl | rfl | rfl | rfl | rfl
      · exact ⟨T.kx_Endless, T.ki_Endless_NoMove⟩
      · exact ⟨T.kx_NoLine, T.ki_NoLine_NoMove⟩
      · exact ⟨T.kx_NoMove, T.ki_NoMove_NoMove⟩
      · exact ⟨T.kx_NoName, T.ki_NoName_NoMove⟩
      · exact ⟨T.kx_NoPaper, T.ki_NoPaper_NoMove⟩
      · exact ⟨T.kx_NoPicks, T.ki_NoPicks_NoMove⟩
      · exact ⟨T.kx_NoPlan, T.ki_NoPlan_NoMove⟩
      · exact ⟨T.kx_NoRow, T.ki_NoRow_NoMove⟩
      · exact ⟨T.kx_NoTable, T.ki_NoTable_NoMove⟩
      · exact ⟨T.kx_NoWay, T.ki_NoWay_NoMove⟩
      · exact ⟨T.kx_TooMany, T.ki_TooMany_NoMove⟩) (.own _) T.z_isinstance (by rfl) (oj_cons (lj_va (pv 0)) oj_nil) (pe_glob (by rfl) T.mx_NoMove rfl)) (mj_cons (ej_isV (tb := [("Endless", false), ("NoLine", false), ("NoMove", false), ("NoName", false), ("NoPaper", false), ("NoPicks", false), ("NoPlan", false), ("NoRow", false), ("NoTable", false), ("NoWay", true), ("TooMany", false)]) (cV := (.ref (cl.at' "NoWay"))) (cv := (.ref (cl.at' "NoWay"))) (fun q hq => by
      simp only [List.mem_cons, List.not_mem_nil, or_false] at hq
      rcases hq with rfl | rfl | rfl | rfl | rfl | rfl | rfl | rfl | rfl | rfl | rfl
      · exact ⟨T.kx_Endless, T.ki_Endless_NoWay⟩
      · exact ⟨T.kx_NoLine, T.ki_NoLine_NoWay⟩
      · exact ⟨T.kx_NoMove, T.ki_NoMove_NoWay⟩
      · exact ⟨T.kx_NoName, T.ki_NoName_NoWay⟩
      · exact ⟨T.kx_NoPaper, T.ki_NoPaper_NoWay⟩
      · exact ⟨T.kx_NoPicks, T.ki_NoPicks_NoWay⟩
      · exact ⟨T.kx_NoPlan, T.ki_NoPlan_NoWay⟩
      · exact ⟨T.kx_NoRow, T.ki_NoRow_NoWay⟩
      · exact ⟨T.kx_NoTable, T.ki_NoTable_NoWay⟩
      · exact ⟨T.kx_NoWay, T.ki_NoWay_NoWay⟩
      · exact ⟨T.kx_TooMany, T.ki_TooMany_NoWay⟩) (.own _) T.z_isinstance (by rfl) (oj_cons (lj_va (pv 0)) oj_nil) (pe_glob (by rfl) T.mx_NoWay rfl)) (mj_cons (ej_isV (tb := [("Endless", false), ("NoLine", false), ("NoMove", false), ("NoName", false), ("NoPaper", true), ("NoPicks", false), ("NoPlan", false), ("NoRow", false), ("NoTable", false), ("NoWay", false), ("TooMany", false)]) (cV := (.ref (cl.at' "NoPaper"))) (cv := (.ref (cl.at' "NoPaper"))) (fun q hq => by
      simp only [List.mem_cons, List.not_mem_nil, or_false] at hq
      rcases hq with rfl | rfl | rfl | rfl | rfl | rfl | rfl | rfl | rfl | rfl | rfl
      · exact ⟨T.kx_Endless, T.ki_Endless_NoPaper⟩
      · exact ⟨T.kx_NoLine, T.ki_NoLine_NoPaper⟩
      · exact ⟨T.kx_NoMove, T.ki_NoMove_NoPaper⟩
      · exact ⟨T.kx_NoName, T.ki_NoName_NoPaper⟩
      · exact ⟨T.kx_NoPaper, T.ki_NoPaper_NoPaper⟩
      · exact ⟨T.kx_NoPicks, T.ki_NoPicks_NoPaper⟩
      · exact ⟨T.kx_NoPlan, T.ki_NoPlan_NoPaper⟩
      · exact ⟨T.kx_NoRow, T.ki_NoRow_NoPaper⟩
      · exact ⟨T.kx_NoTable, T.ki_NoTable_NoPaper⟩
      · exact ⟨T.kx_NoWay, T.ki_NoWay_NoPaper⟩
      · exact ⟨T.kx_TooMany, T.ki_TooMany_NoPaper⟩) (.own _) T.z_isinstance (by rfl) (oj_cons (lj_va (pv 0)) oj_nil) (pe_glob (by rfl) T.mx_NoPaper rfl)) mj_nil))))))
    (bj_cons (sj_set (i := 2) sc__law_taken.nd rfl (.inl rfl) (ej_lst (mj_cons (ej_isV (tb := [("Endless", false), ("NoLine", false), ("NoMove", false), ("NoName", false), ("NoPaper", false), ("NoPicks", false), ("NoPlan", false), ("NoRow", false), ("NoTable", false), ("NoWay", false), ("TooMany", true)]) (cV := (.ref (cl.at' "TooMany"))) (cv := (.ref (cl.at' "TooMany"))) (fun q hq => by
      simp only [List.mem_cons, List.not_mem_nil, or_false] at hq
      rcases hq with rfl | rfl | rfl | rfl | rfl | rfl | rfl | rfl | rfl | rfl | rfl
      · exact ⟨T.kx_Endless, T.ki_Endless_TooMany⟩
      · exact ⟨T.kx_NoLine, T.ki_NoLine_TooMany⟩
      · exact ⟨T.kx_NoMove, T.ki_NoMove_TooMany⟩
      · exact ⟨T.kx_NoName, T.ki_NoName_TooMany⟩
      · exact ⟨T.kx_NoPaper, T.ki_NoPaper_TooMany⟩
      · exact ⟨T.kx_NoPicks, T.ki_NoPicks_TooMany⟩
      · exact ⟨T.kx_NoPlan, T.ki_NoPlan_TooMany⟩
      · exact ⟨T.kx_NoRow, T.ki_NoRow_TooMany⟩
      · exact ⟨T.kx_NoTable, T.ki_NoTable_TooMany⟩
      · exact ⟨T.kx_NoWay, T.ki_NoWay_TooMany⟩
      · exact ⟨T.kx_TooMany, T.ki_TooMany_TooMany⟩) (.own _) T.z_isinstance (by rfl) (oj_cons (lj_va (pv 0)) oj_nil) (pe_glob (by rfl) T.mx_TooMany rfl)) (mj_cons (ej_isV (tb := [("Endless", true), ("NoLine", false), ("NoMove", false), ("NoName", false), ("NoPaper", false), ("NoPicks", false), ("NoPlan", false), ("NoRow", false), ("NoTable", false), ("NoWay", false), ("TooMany", false)]) (cV := (.ref (cl.at' "Endless"))) (cv := (.ref (cl.at' "Endless"))) (fun q hq => by
      simp only [List.mem_cons, List.not_mem_nil, or_false] at hq
      rcases hq with rfl | rfl | rfl | rfl | rfl | rfl | rfl | rfl | rfl | rfl | rfl
      · exact ⟨T.kx_Endless, T.ki_Endless_Endless⟩
      · exact ⟨T.kx_NoLine, T.ki_NoLine_Endless⟩
      · exact ⟨T.kx_NoMove, T.ki_NoMove_Endless⟩
      · exact ⟨T.kx_NoName, T.ki_NoName_Endless⟩
      · exact ⟨T.kx_NoPaper, T.ki_NoPaper_Endless⟩
      · exact ⟨T.kx_NoPicks, T.ki_NoPicks_Endless⟩
      · exact ⟨T.kx_NoPlan, T.ki_NoPlan_Endless⟩
      · exact ⟨T.kx_NoRow, T.ki_NoRow_Endless⟩
      · exact ⟨T.kx_NoTable, T.ki_NoTable_Endless⟩
      · exact ⟨T.kx_NoWay, T.ki_NoWay_Endless⟩
      · exact ⟨T.kx_TooMany, T.ki_TooMany_Endless⟩) (.own _) T.z_isinstance (by rfl) (oj_cons (lj_va (pv 0)) oj_nil) (pe_glob (by rfl) T.mx_Endless rfl)) (mj_cons (ej_isV (tb := [("Endless", false), ("NoLine", false), ("NoMove", false), ("NoName", false), ("NoPaper", false), ("NoPicks", false), ("NoPlan", true), ("NoRow", false), ("NoTable", false), ("NoWay", false), ("TooMany", false)]) (cV := (.ref (cl.at' "NoPlan"))) (cv := (.ref (cl.at' "NoPlan"))) (fun q hq => by
      simp only [List.mem_cons, List.not_mem_nil, or_false] at hq
      rcases hq with rfl | rfl | rfl | rfl | rfl | rfl | rfl | rfl | rfl | rfl | rfl
      · exact ⟨T.kx_Endless, T.ki_Endless_NoPlan⟩
      · exact ⟨T.kx_NoLine, T.ki_NoLine_NoPlan⟩
      · exact ⟨T.kx_NoMove, T.ki_NoMove_NoPlan⟩
      · exact ⟨T.kx_NoName, T.ki_NoName_NoPlan⟩
      · exact ⟨T.kx_NoPaper, T.ki_NoPaper_NoPlan⟩
      · exact ⟨T.kx_NoPicks, T.ki_NoPicks_NoPlan⟩
      · exact ⟨T.kx_NoPlan, T.ki_NoPlan_NoPlan⟩
      · exact ⟨T.kx_NoRow, T.ki_NoRow_NoPlan⟩
      · exact ⟨T.kx_NoTable, T.ki_NoTable_NoPlan⟩
      · exact ⟨T.kx_NoWay, T.ki_NoWay_NoPlan⟩
      · exact ⟨T.kx_TooMany, T.ki_TooMany_NoPlan⟩) (.own _) T.z_isinstance (by rfl) (oj_cons (lj_va (pv 0)) oj_nil) (pe_glob (by rfl) T.mx_NoPlan rfl)) (mj_cons (ej_isV (tb := [("Endless", false), ("NoLine", false), ("NoMove", false), ("NoName", false), ("NoPaper", false), ("NoPicks", true), ("NoPlan", false), ("NoRow", false), ("NoTable", false), ("NoWay", false), ("TooMany", false)]) (cV := (.ref (cl.at' "NoPicks"))) (cv := (.ref (cl.at' "NoPicks"))) (fun q hq => by
      simp only [List.mem_cons, List.not_mem_nil, or_false] at hq
      rcases hq with rfl | rfl | rfl | rfl | rfl | rfl | rfl | rfl | rfl | rfl | rfl
      · exact ⟨T.kx_Endless, T.ki_Endless_NoPicks⟩
      · exact ⟨T.kx_NoLine, T.ki_NoLine_NoPicks⟩
      · exact ⟨T.kx_NoMove, T.ki_NoMove_NoPicks⟩
      · exact ⟨T.kx_NoName, T.ki_NoName_NoPicks⟩
      · exact ⟨T.kx_NoPaper, T.ki_NoPaper_NoPicks⟩
      · exact ⟨T.kx_NoPicks, T.ki_NoPicks_NoPicks⟩
      · exact ⟨T.kx_NoPlan, T.ki_NoPlan_NoPicks⟩
      · exact ⟨T.kx_NoRow, T.ki_NoRow_NoPicks⟩
      · exact ⟨T.kx_NoTable, T.ki_NoTable_NoPicks⟩
      · exact ⟨T.kx_NoWay, T.ki_NoWay_NoPicks⟩
      · exact ⟨T.kx_TooMany, T.ki_TooMany_NoPicks⟩) (.own _) T.z_isinstance (by rfl) (oj_cons (lj_va (pv 0)) oj_nil) (pe_glob (by rfl) T.mx_NoPicks rfl)) mj_nil))))))
    (bj_one (sj_ret (ej_add (oj_cons (lj_ex (ej_add (oj_cons (lj_va (pv 1)) (oj_cons (lj_va (pv 2)) oj_nil)))) (oj_cons (lj_ex (ej_lst (mj_cons (ej_isV (tb := [("Endless", false), ("NoLine", false), ("NoMove", false), ("NoName", false), ("NoPaper", false), ("NoPicks", false), ("NoPlan", false), ("NoRow", false), ("NoTable", true), ("NoWay", false), ("TooMany", false)]) (cV := (.ref (cl.at' "NoTable"))) (cv := (.ref (cl.at' "NoTable"))) (fun q hq => by
      simp only [List.mem_cons, List.not_mem_nil, or_false] at hq
      rcases hq with rfl | rfl | rfl | rfl | rfl | rfl | rfl | rfl | rfl | rfl | rfl
      · exact ⟨T.kx_Endless, T.ki_Endless_NoTable⟩
      · exact ⟨T.kx_NoLine, T.ki_NoLine_NoTable⟩
      · exact ⟨T.kx_NoMove, T.ki_NoMove_NoTable⟩
      · exact ⟨T.kx_NoName, T.ki_NoName_NoTable⟩
      · exact ⟨T.kx_NoPaper, T.ki_NoPaper_NoTable⟩
      · exact ⟨T.kx_NoPicks, T.ki_NoPicks_NoTable⟩
      · exact ⟨T.kx_NoPlan, T.ki_NoPlan_NoTable⟩
      · exact ⟨T.kx_NoRow, T.ki_NoRow_NoTable⟩
      · exact ⟨T.kx_NoTable, T.ki_NoTable_NoTable⟩
      · exact ⟨T.kx_NoWay, T.ki_NoWay_NoTable⟩
      · exact ⟨T.kx_TooMany, T.ki_TooMany_NoTable⟩) (.own _) T.z_isinstance (by rfl) (oj_cons (lj_va (pv 0)) oj_nil) (pe_glob (by rfl) T.mx_NoTable rfl)) (mj_cons (ej_isV (tb := [("Endless", false), ("NoLine", false), ("NoMove", false), ("NoName", true), ("NoPaper", false), ("NoPicks", false), ("NoPlan", false), ("NoRow", false), ("NoTable", false), ("NoWay", false), ("TooMany", false)]) (cV := (.ref (cl.at' "NoName"))) (cv := (.ref (cl.at' "NoName"))) (fun q hq => by
      simp only [List.mem_cons, List.not_mem_nil, or_false] at hq
      rcases hq with rfl | rfl | rfl | rfl | rfl | rfl | rfl | rfl | rfl | rfl | rfl
      · exact ⟨T.kx_Endless, T.ki_Endless_NoName⟩
      · exact ⟨T.kx_NoLine, T.ki_NoLine_NoName⟩
      · exact ⟨T.kx_NoMove, T.ki_NoMove_NoName⟩
      · exact ⟨T.kx_NoName, T.ki_NoName_NoName⟩
      · exact ⟨T.kx_NoPaper, T.ki_NoPaper_NoName⟩
      · exact ⟨T.kx_NoPicks, T.ki_NoPicks_NoName⟩
      · exact ⟨T.kx_NoPlan, T.ki_NoPlan_NoName⟩
      · exact ⟨T.kx_NoRow, T.ki_NoRow_NoName⟩
      · exact ⟨T.kx_NoTable, T.ki_NoTable_NoName⟩
      · exact ⟨T.kx_NoWay, T.ki_NoWay_NoName⟩
      · exact ⟨T.kx_TooMany, T.ki_TooMany_NoName⟩) (.own _) T.z_isinstance (by rfl) (oj_cons (lj_va (pv 0)) oj_nil) (pe_glob (by rfl) T.mx_NoName rfl)) (mj_cons (ej_isV (tb := [("Endless", false), ("NoLine", true), ("NoMove", false), ("NoName", false), ("NoPaper", false), ("NoPicks", false), ("NoPlan", false), ("NoRow", false), ("NoTable", false), ("NoWay", false), ("TooMany", false)]) (cV := (.ref (cl.at' "NoLine"))) (cv := (.ref (cl.at' "NoLine"))) (fun q hq => by
      simp only [List.mem_cons, List.not_mem_nil, or_false] at hq
      rcases hq with rfl | rfl | rfl | rfl | rfl | rfl | rfl | rfl | rfl | rfl | rfl
      · exact ⟨T.kx_Endless, T.ki_Endless_NoLine⟩
      · exact ⟨T.kx_NoLine, T.ki_NoLine_NoLine⟩
      · exact ⟨T.kx_NoMove, T.ki_NoMove_NoLine⟩
      · exact ⟨T.kx_NoName, T.ki_NoName_NoLine⟩
      · exact ⟨T.kx_NoPaper, T.ki_NoPaper_NoLine⟩
      · exact ⟨T.kx_NoPicks, T.ki_NoPicks_NoLine⟩
      · exact ⟨T.kx_NoPlan, T.ki_NoPlan_NoLine⟩
      · exact ⟨T.kx_NoRow, T.ki_NoRow_NoLine⟩
      · exact ⟨T.kx_NoTable, T.ki_NoTable_NoLine⟩
      · exact ⟨T.kx_NoWay, T.ki_NoWay_NoLine⟩
      · exact ⟨T.kx_TooMany, T.ki_TooMany_NoLine⟩) (.own _) T.z_isinstance (by rfl) (oj_cons (lj_va (pv 0)) oj_nil) (pe_glob (by rfl) T.mx_NoLine rfl)) mj_nil))))) oj_nil)))))))
noncomputable def b__law_right_0 : Sb := (bT (xPrim [.ex (xCall f__law_fields [.va 2]), .ex (xPrim [.ex (xLst [(xVar 1)]), .ex (xC (.int 12))] pMul)] pNe))
noncomputable def c__law_right_0 : Sx := (xLc (srcRng1 [.ex (xC (.int 11))]) (stN 5) bYes (xPrim [.va 5, .va 3] pEq) [5])
noncomputable def b__law_right_1 : Sb := (bOr (bNot (bTru [.ex (xPrim [.va 4] (pIsV [("Endless", true), ("NoLine", true), ("NoMove", true), ("NoName", true), ("NoPaper", true), ("NoPicks", true), ("NoPlan", true), ("NoRow", true), ("NoTable", true), ("NoWay", true), ("TooMany", true)]))])) (bNot (bTru [.ex (xPrim [.va 4] (pIsV [("Endless", true), ("NoLine", true), ("NoMove", true), ("NoName", true), ("NoPaper", true), ("NoPicks", true), ("NoPlan", true), ("NoRow", true), ("NoTable", true), ("NoWay", true), ("TooMany", true)]))])))
noncomputable def l__law_right_1 : Ss := (sSeq (sIf (bT (xPrim [.ex (xCall f__law_taken [.va 4]), .ex c__law_right_0] pNe)) (sRet (xC (.bl false))) sNil)
    (sIf b__law_right_1 (sRet (xC (.bl false))) sNil))
noncomputable def l__law_right_2 : Ss := (sSeq (sIf b__law_right_0 (sRet (xC (.bl false))) sNil)
    (sFor (enumS (conF 2)) (stT [3, 4]) l__law_right_1))
noncomputable def g__law_right : Ss := (sSeq (sSet 1 (xPrim [.ex (xLst [(xCall f__law_draw [.va 0, .ex (xPrim [.ex (xC (.int 10)), .ex (xC (.int 9))] pPow)]), (xPrim [.ex (xC (.int 1))] pNeg), (xC .non), (xC (.str "moves")), (xTup [(xC (.int 0)), (xC (.int 1))])]), .ex (xCall f__law_draw [.va 0, .ex (xC (.int 5))])] pIx))
    (sSeq (sFor (con (.ex (xLst [(xCall f__law_by_place [.va 1]), (xCall f__law_by_name [.va 1])]))) (stN 2) l__law_right_2)
    (sRet (xNot (xC (.bl false))))))
noncomputable def f__law_right : Fn := bodyF 6 g__law_right
theorem ok__law_right (T : Tx K mg cl) : FnOk P w K mg base (L2.CX P w) 4 T.a__law_right T.fd__law_right ["_law_well"] (spF (gk K cl) 1 f__law_right) :=
  fn_ok (N := ["_law_well", "_law_x", "_law_some", "_law_spot", "_law_e", "_law_k"]) (k := 3) (g := g__law_right) T.F__law_right sc__law_right fun cdv A outer s H vs E hr => (bj_cons (sj_set (i := 1) sc__law_right.nd rfl (.inl rfl) (ej_sbs (oj_cons (lj_ex (ej_lst (mj_cons (ej_call (ok__law_draw T) (hr.mono (by first | decide | omega)) (by rfl) T.m__law_draw T.F__law_draw.kp T.b__law_draw (takes_of rfl rfl rfl rfl) (kj_cons (lj_va (pv 0)) (kj_cons (lj_ex (ej_pow (oj_cons (lj_ex ej_int) (oj_cons (lj_ex ej_int) oj_nil)))) kj_nil)) rfl) (mj_cons (ej_neg (oj_cons (lj_ex ej_int) oj_nil)) (mj_cons ej_non (mj_cons ej_str (mj_cons (ej_tup (mj_cons ej_int (mj_cons ej_int mj_nil))) mj_nil))))))) (oj_cons (lj_ex (ej_call (ok__law_draw T) (hr.mono (by first | decide | omega)) (by rfl) T.m__law_draw T.F__law_draw.kp T.b__law_draw (takes_of rfl rfl rfl rfl) (kj_cons (lj_va (pv 0)) (kj_cons (lj_ex ej_int) kj_nil)) rfl)) oj_nil))))
    (bj_cons (sj_for (passes_of rfl) rfl (ij_seq (lj_ex (ej_lst (mj_cons (ej_call (ok__law_by_place T) (hr.mono (by first | decide | omega)) (by rfl) T.m__law_by_place T.F__law_by_place.kp T.b__law_by_place (takes_of rfl rfl rfl rfl) (kj_cons (lj_va (pv 1)) kj_nil) rfl) (mj_cons (ej_call (ok__law_by_name T) (hr.mono (by first | decide | omega)) (by rfl) T.m__law_by_name T.F__law_by_name.kp T.b__law_by_name (takes_of rfl rfl rfl rfl) (kj_cons (lj_va (pv 1)) kj_nil) rfl) mj_nil))))) (gj_name (i := 2) sc__law_right.nd rfl (.inl rfl)) (bj_cons (sj_if (tj_ne hr.units (oj_cons (lj_ex (ej_call (ok__law_fields T) (hr.mono (by first | decide | omega)) (by rfl) T.m__law_fields T.F__law_fields.kp T.b__law_fields (takes_of rfl rfl rfl rfl) (kj_cons (lj_va (pv 2)) kj_nil) rfl)) (oj_cons (lj_ex (ej_mul (oj_cons (lj_ex (ej_lst (mj_cons (ej_var (pv 1)) mj_nil))) (oj_cons (lj_ex ej_int) oj_nil)))) oj_nil))) (bj_one (sj_ret ej_bl)) bj_nil)
    (bj_one (sj_for (passes_of rfl) rfl (ij_enumC (by rfl) T.z_enumerate (cj_F (pv 2))) (gj_tup (is := [3, 4]) rfl (pgs_cons (pg_name (i := 3) sc__law_right.nd rfl (.inr rfl)) (pgs_cons (pg_name (i := 4) sc__law_right.nd rfl (.inl rfl)) pgs_nil)) rfl) (bj_cons (sj_if (tj_ne hr.units (oj_cons (lj_ex (ej_call (ok__law_taken T) (hr.mono (by first | decide | omega)) (by rfl) T.m__law_taken T.F__law_taken.kp T.b__law_taken (takes_of rfl rfl rfl rfl) (kj_cons (lj_va (pv 4)) kj_nil) rfl)) (oj_cons (lj_ex (ej_lc rfl sc__law_right.nd (ij_rng1 (by rfl) T.z_range (oj_cons (lj_ex ej_int) oj_nil)) (blkOk_by (own := [("_law_k", 5)]) (by kernel_rfl)) (fun _ _ _ _ _ => (gj_name (i := 5) sc__law_right.nd rfl (.inl rfl))) (fun _ _ _ _ _ => fj_nil) (fun _ _ _ _ _ => (ej_eq hr.units (oj_cons (lj_va (pv 5)) (oj_cons (lj_va (pv 3)) oj_nil)))) (by decide))) oj_nil))) (bj_one (sj_ret ej_bl)) bj_nil)
    (bj_one (sj_if (WJ.tj (wj_or (tj_not (tj_tru (oj_cons (lj_ex (ej_isV (tb := [("Endless", true), ("NoLine", true), ("NoMove", true), ("NoName", true), ("NoPaper", true), ("NoPicks", true), ("NoPlan", true), ("NoRow", true), ("NoTable", true), ("NoWay", true), ("TooMany", true)]) (cV := (.ref (cl.at' "WayError"))) (cv := (.ref (cl.at' "WayError"))) (fun q hq => by
      simp only [List.mem_cons, List.not_mem_nil, or_false] at hq
      rcases hq with rfl | rfl | rfl | rfl | rfl | rfl | rfl | rfl | rfl | rfl | rfl
      · exact ⟨T.kx_Endless, T.ki_Endless_WayError⟩
      · exact ⟨T.kx_NoLine, T.ki_NoLine_WayError⟩
      · exact ⟨T.kx_NoMove, T.ki_NoMove_WayError⟩
      · exact ⟨T.kx_NoName, T.ki_NoName_WayError⟩
      · exact ⟨T.kx_NoPaper, T.ki_NoPaper_WayError⟩
      · exact ⟨T.kx_NoPicks, T.ki_NoPicks_WayError⟩
      · exact ⟨T.kx_NoPlan, T.ki_NoPlan_WayError⟩
      · exact ⟨T.kx_NoRow, T.ki_NoRow_WayError⟩
      · exact ⟨T.kx_NoTable, T.ki_NoTable_WayError⟩
      · exact ⟨T.kx_NoWay, T.ki_NoWay_WayError⟩
      · exact ⟨T.kx_TooMany, T.ki_TooMany_WayError⟩) (.own _) T.z_isinstance (by rfl) (oj_cons (lj_va (pv 4)) oj_nil) (pe_glob (by rfl) T.mx_WayError rfl))) oj_nil))) (wj_or1 (tj_not (tj_tru (oj_cons (lj_ex (ej_isV (tb := [("Endless", true), ("NoLine", true), ("NoMove", true), ("NoName", true), ("NoPaper", true), ("NoPicks", true), ("NoPlan", true), ("NoRow", true), ("NoTable", true), ("NoWay", true), ("TooMany", true)]) (cV := (.ty "ValueError")) (cv := (.type "ValueError")) (fun q hq => by
      simp only [List.mem_cons, List.not_mem_nil, or_false] at hq
      rcases hq with rfl | rfl | rfl | rfl | rfl | rfl | rfl | rfl | rfl | rfl | rfl
      · exact ⟨T.kx_Endless, T.ki_Endless_ValueError⟩
      · exact ⟨T.kx_NoLine, T.ki_NoLine_ValueError⟩
      · exact ⟨T.kx_NoMove, T.ki_NoMove_ValueError⟩
      · exact ⟨T.kx_NoName, T.ki_NoName_ValueError⟩
      · exact ⟨T.kx_NoPaper, T.ki_NoPaper_ValueError⟩
      · exact ⟨T.kx_NoPicks, T.ki_NoPicks_ValueError⟩
      · exact ⟨T.kx_NoPlan, T.ki_NoPlan_ValueError⟩
      · exact ⟨T.kx_NoRow, T.ki_NoRow_ValueError⟩
      · exact ⟨T.kx_NoTable, T.ki_NoTable_ValueError⟩
      · exact ⟨T.kx_NoWay, T.ki_NoWay_ValueError⟩
      · exact ⟨T.kx_TooMany, T.ki_TooMany_ValueError⟩) (.ty _) T.z_isinstance (by rfl) (oj_cons (lj_va (pv 4)) oj_nil) (pe_bltn (v := .ty "ValueError") (by rfl) T.z_ValueError (by decide +kernel) rfl))) oj_nil)))))) (bj_one (sj_ret ej_bl)) bj_nil)))))))
    (bj_one (sj_ret (ej_not (ej_isVE (bb := false) (cV := .ref (cl.at' "WayError")) (cv := .ref (cl.at' "WayError")) T.kv_WayError (.own _) T.z_isinstance (by rfl) T.z_ValueError (by rfl) (pe_glob (by rfl) T.mx_WayError rfl)))))))
noncomputable def b_law_0 : Sb := (bNot (bTru [.ex (xCallT f__law_right (xLst [(xPrim [.va 2, .ex (xPrim [.ex (xPrim [.va 2, .ex (xPrim [.ex (xC (.int 10)), .ex (xC (.int 18))] pPow)] pGe)] pInt)] pMul), (xPrim [.ex (xPrim [.va 2, .ex (xC (.int 2147483647))] pMod), .ex (xPrim [.ex (xC (.int 7919)), .va 1] pMul)] pAdd), (xC (.int 0))]))]))
noncomputable def l_law_0 : Ss := (sIf b_law_0 (sRet (xC (.bl false))) sNil)
noncomputable def g_law : Ss := (sSeq (sFor (srcEnum (.ex (xPrim [.ex (xPrim [.va 0, .ex (xLst [(xC (.int 0))])] pAdd), .ex (xC (.int 3))] pSlHi))) (stT [1, 2]) l_law_0)
    (sRet (xC (.bl true))))
noncomputable def f_law : Fn := bodyF 3 g_law
theorem ok_law (T : Tx K mg cl) : FnOk P w K mg base (L2.CX P w) 5 T.a_law T.fd_law ["_law_script"] (spF (gk K cl) 1 f_law) :=
  fn_ok (N := ["_law_script", "_law_k", "_law_cell"]) (k := 4) (g := g_law) T.F_law sc_law fun cdv A outer s H vs E hr => (bj_cons (sj_for (passes_of rfl) rfl (ij_enum (by rfl) T.z_enumerate (lj_ex (ej_slHi (oj_cons (lj_ex (ej_add (oj_cons (lj_va (pv 0)) (oj_cons (lj_ex (ej_lst (mj_cons ej_int mj_nil))) oj_nil)))) (oj_cons (lj_ex ej_int) oj_nil))))) (gj_tup (is := [1, 2]) rfl (pgs_cons (pg_name (i := 1) sc_law.nd rfl (.inl rfl)) (pgs_cons (pg_name (i := 2) sc_law.nd rfl (.inl rfl)) pgs_nil)) rfl) (bj_one (sj_if (tj_not (tj_tru (oj_cons (lj_ex (ej_callT (ok__law_right T) (hr.mono (by decide)) (by rfl) T.m__law_right T.F__law_right.kp T.b__law_right (takes_of rfl rfl rfl rfl) (ej_lst (mj_cons (ej_mul (oj_cons (lj_va (pv 2)) (oj_cons (lj_ex (ej_callTy call_int1 pr_int (by rfl) T.z_int (by decide +kernel) (oj_cons (lj_ex (ej_ge (oj_cons (lj_va (pv 2)) (oj_cons (lj_ex (ej_pow (oj_cons (lj_ex ej_int) (oj_cons (lj_ex ej_int) oj_nil)))) oj_nil)))) oj_nil))) oj_nil))) (mj_cons (ej_add (oj_cons (lj_ex (ej_mod (oj_cons (lj_va (pv 2)) (oj_cons (lj_ex ej_int) oj_nil)))) (oj_cons (lj_ex (ej_mul (oj_cons (lj_ex ej_int) (oj_cons (lj_va (pv 1)) oj_nil)))) oj_nil))) (mj_cons ej_int mj_nil)))))) oj_nil))) (bj_one (sj_ret ej_bl)) bj_nil)))
    (bj_one (sj_ret ej_bl)))
end
end Lw
end
section
namespace Lw
open PySem PySem.Spec PyProof.Rows L2 Wm
structure Wl where
  a : Int
  b : Int
  c : Int
def wl (w : Wl) : List D := [.int w.a, .int w.b, .int w.c]
def n1 (w : Wl) : Int := ((w.b + 104729 * (w.c + 1) + 1) * 48271).fmod 2147483647
def n2 (w : Wl) : Int := (n1 w * ((n1 w).fdiv 1009 + 69621)).fmod 2147483647
def dr (w : Wl) (m : Int) : Int := if 0 < w.a then w.a.fmod m else ((n2 w * ((n2 w).fdiv 2003 + 40692)).fmod 2147483399).fmod m
def dw (w : Wl) (m : Int) : Wl := if 0 < w.a then ⟨w.a.fdiv m, w.b, w.c⟩ else ⟨w.a, w.b, w.c + 1⟩
theorem fmod_bd (x m : Int) (h : 0 < m) : 0 ≤ x.fmod m ∧ x.fmod m < m := ⟨Int.fmod_nonneg_of_pos x h, Int.fmod_lt_of_pos x h⟩
theorem dr_bd (w : Wl) (m : Int) (h : 0 < m) : 0 ≤ dr w m ∧ dr w m < m := by
  unfold dr
  split
  · exact fmod_bd _ _ h
  · exact fmod_bd _ _ h
theorem draw_ev (w : Wl) (m : Int) (hm : 0 < m) (hm2 : m ≤ 4000000000) : f__law_draw [.byr (wl w), .sh (.int m)] = .ok (.sh (.int (dr w m)), [.byr (wl (dw w m)), .no]) := by
  obtain ⟨a, b, c⟩ := w
  have h0 : m ≠ 0 := by omega
  have hd : ∀ i, CDv i m := fun i => cdv_small h0 (by omega)
  by_cases ha : 0 < a
  · simp [f__law_draw, g__law_draw, wl, dr, dw, ha, h0, hd]
  · have k1 : ∀ x, IntMulOk 104729 x := fun x => mul_okL (by decide)
    have k2 : ∀ x, IntMulOk x 48271 := fun x => mul_okR (by decide)
    have k3 : ∀ x : Int, IntMulOk (x.fmod 2147483647) ((x.fmod 2147483647).fdiv 1009 + 69621) := fun x => mul_okL (by have := fmod_bd x 2147483647 (by decide); omega)
    have k4 : ∀ x : Int, IntMulOk (x.fmod 2147483647) ((x.fmod 2147483647).fdiv 2003 + 40692) := fun x => mul_okL (by have := fmod_bd x 2147483647 (by decide); omega)
    have k5 : ∀ x, CDv x 1009 := fun x => cdv_small (by decide) (by decide)
    have k6 : ∀ x, CDv x 2003 := fun x => cdv_small (by decide) (by decide)
    simp [f__law_draw, g__law_draw, wl, dr, dw, ha, h0, pMul_int, k1, k2, k3, k4, k5, k6, n1, n2]
theorem sz {m : Nat} (h : m ≤ 100000) : m ≤ sizeLine := by rw [szl]; omega
def exs (d : D) : List D := [.exn "NoRow" [("at", d)], .exn "NoMove" [("at", d)], .exn "NoWay" [("at", d)], .exn "NoPaper" [("at", d), ("where", d)], .exn "TooMany" [("many", d)], .exn "Endless" [("move", d)], .exn "NoPlan" [("what", d)], .exn "NoPicks" [("at", d)], .exn "NoTable" [("at", d)], .exn "NoName" [("name", d)], .exn "NoLine" [("at", d)]]
theorem place_ev (d : D) : f__law_by_place [.sh d] = .ok (.own (exs d), [.no]) := by
  have z1 : (8 : Nat) ≤ sizeLine := by decide
  have z2 : (3 : Nat) ≤ sizeLine := by decide
  have z3 : (11 : Nat) ≤ sizeLine := by decide
  simp [f__law_by_place, g__law_by_place, exs, z1, z2, z3]
theorem name_ev (d : D) : f__law_by_name [.sh d] = .ok (.own (exs d), [.no]) := by
  have z1 : (6 : Nat) ≤ sizeLine := by decide
  have z2 : (5 : Nat) ≤ sizeLine := by decide
  have z3 : (11 : Nat) ≤ sizeLine := by decide
  simp [f__law_by_name, g__law_by_name, exs, z1, z2, z3]
theorem fields_ev (d : D) : f__law_fields [.sh (.lst (exs d))] = .ok (.own [d, d, d, d, d, d, d, d, d, d, d, d], [.no]) := by
  have z1 : (7 : Nat) ≤ sizeLine := by decide
  have z2 : (5 : Nat) ≤ sizeLine := by decide
  have z3 : (12 : Nat) ≤ sizeLine := by decide
  have a0 : atI (exs d) 0 = some (.exn "NoRow" [("at", d)]) := rfl
  have a1 : atI (exs d) 1 = some (.exn "NoMove" [("at", d)]) := rfl
  have a2 : atI (exs d) 2 = some (.exn "NoWay" [("at", d)]) := rfl
  have a3 : atI (exs d) 3 = some (.exn "NoPaper" [("at", d), ("where", d)]) := rfl
  have a4 : atI (exs d) 4 = some (.exn "TooMany" [("many", d)]) := rfl
  have a5 : atI (exs d) 5 = some (.exn "Endless" [("move", d)]) := rfl
  have a6 : atI (exs d) 6 = some (.exn "NoPlan" [("what", d)]) := rfl
  have a7 : atI (exs d) 7 = some (.exn "NoPicks" [("at", d)]) := rfl
  have a8 : atI (exs d) 8 = some (.exn "NoTable" [("at", d)]) := rfl
  have a9 : atI (exs d) 9 = some (.exn "NoName" [("name", d)]) := rfl
  have a10 : atI (exs d) 10 = some (.exn "NoLine" [("at", d)]) := rfl
  generalize exs d = L at *
  simp [f__law_fields, g__law_fields, z1, z2, z3, a0, a1, a2, a3, a4, a5, a6, a7, a8, a9, a10]
end Lw
end
section
namespace Lw
open PySem PySem.Spec PyProof.Rows L2 Wm
abbrev bls (k : Nat) : List D := [.bl (0 == k), .bl (1 == k), .bl (2 == k), .bl (3 == k), .bl (4 == k), .bl (5 == k), .bl (6 == k), .bl (7 == k), .bl (8 == k), .bl (9 == k), .bl (10 == k)]
def Nth (d : D) (k : Nat) (x : D) : Prop := (k = 0 ∧ x = .exn "NoRow" [("at", d)]) ∨ (k = 1 ∧ x = .exn "NoMove" [("at", d)]) ∨ (k = 2 ∧ x = .exn "NoWay" [("at", d)]) ∨ (k = 3 ∧ x = .exn "NoPaper" [("at", d), ("where", d)]) ∨ (k = 4 ∧ x = .exn "TooMany" [("many", d)]) ∨ (k = 5 ∧ x = .exn "Endless" [("move", d)]) ∨ (k = 6 ∧ x = .exn "NoPlan" [("what", d)]) ∨ (k = 7 ∧ x = .exn "NoPicks" [("at", d)]) ∨ (k = 8 ∧ x = .exn "NoTable" [("at", d)]) ∨ (k = 9 ∧ x = .exn "NoName" [("name", d)]) ∨ (k = 10 ∧ x = .exn "NoLine" [("at", d)])
theorem taken_ev (d : D) (k : Nat) (x : D) (h : Nth d k x) : f__law_taken [.sh x] = .ok (.own (bls k), [.no]) := by
  have z1 : (4 : Nat) ≤ sizeLine := by decide
  have z2 : (3 : Nat) ≤ sizeLine := by decide
  have z3 : (8 : Nat) ≤ sizeLine := by decide
  have z4 : (11 : Nat) ≤ sizeLine := by decide
  rcases h with ⟨rfl, rfl⟩ | ⟨rfl, rfl⟩ | ⟨rfl, rfl⟩ | ⟨rfl, rfl⟩ | ⟨rfl, rfl⟩ | ⟨rfl, rfl⟩ | ⟨rfl, rfl⟩ | ⟨rfl, rfl⟩ | ⟨rfl, rfl⟩ | ⟨rfl, rfl⟩ | ⟨rfl, rfl⟩ <;> simp [f__law_taken, g__law_taken, z1, z2, z3, z4]
theorem all_ev (d : D) (k : Nat) (x : D) (h : Nth d k x) (ρ : List SD) (h4 : ρ[4]? = some (.sh x)) : b__law_right_1 ρ = .ok (false, ρ) := by
  rcases h with ⟨rfl, rfl⟩ | ⟨rfl, rfl⟩ | ⟨rfl, rfl⟩ | ⟨rfl, rfl⟩ | ⟨rfl, rfl⟩ | ⟨rfl, rfl⟩ | ⟨rfl, rfl⟩ | ⟨rfl, rfl⟩ | ⟨rfl, rfl⟩ | ⟨rfl, rfl⟩ | ⟨rfl, rfl⟩ <;> simp [b__law_right_1, h4]
end Lw
end
section
namespace Lw
open PySem PySem.Spec PyProof.Rows L2 Wm
theorem at_mem (xs : List D) (i : Int) (h0 : 0 ≤ i) (h1 : i < xs.length) : ∃ x ∈ xs, atI xs i = some x := by
  have e : ixN xs.length i = some i.toNat := by
    unfold ixN
    rw [if_pos (by omega), if_pos (by omega)]
  refine ⟨xs[i.toNat]'(by omega), List.getElem_mem _, ?_⟩
  unfold atI
  rw [e]
  exact List.getElem?_eq_getElem _
abbrev rst (w : Wl) (d : D) (L : List D) (x3 x4 : SD) : List SD := [.byr (wl w), .sh d, .sh (.lst L), x3, x4, .no]
theorem c0_ev (w : Wl) (d : D) (L : List D) (k : Nat) (hk : k ≤ 10) (x4 : SD) : c__law_right_0 (rst w d L (.sh (.int k)) x4) = .ok (.own (bls k), rst w d L (.sh (.int k)) x4) := by
  have key := lc_mapL (m := ⟨(List.range 11).map fun (j : Nat) => D.int j, []⟩) (st := stN 5) (test := bYes) (elt := xPrim [.va 5, .va 3] pEq) (vs := [5]) (g := fun (j : Nat) => D.int j) (f := fun (j : Nat) => D.bl ((j : Int) == (k : Int))) (ρ := rst w d L (.sh (.int k)) x4) (xs := List.range 11) (by
    intro j hj kk
    simp [okN, eqD])
  have e : ((List.range 11).map fun (j : Nat) => D.bl ((j : Int) == (k : Int))) = bls k := by
    have : k = 0 ∨ k = 1 ∨ k = 2 ∨ k = 3 ∨ k = 4 ∨ k = 5 ∨ k = 6 ∨ k = 7 ∨ k = 8 ∨ k = 9 ∨ k = 10 := by omega
    rcases this with rfl | rfl | rfl | rfl | rfl | rfl | rfl | rfl | rfl | rfl | rfl <;> rfl
  rw [e] at key
  have hr : rngOk 11 := by decide
  have hs : 11 ≤ sizeLine := by decide
  simp only [rst] at *
  generalize bls k = BK at *
  generalize wl w = WW at *
  simp [-List.map_map, -List.range_succ, c__law_right_0, hr, hs, key]
theorem nth_k {d : D} {k : Nat} {x : D} (h : Nth d k x) : k ≤ 10 := by
  rcases h with ⟨rfl, _⟩ | ⟨rfl, _⟩ | ⟨rfl, _⟩ | ⟨rfl, _⟩ | ⟨rfl, _⟩ | ⟨rfl, _⟩ | ⟨rfl, _⟩ | ⟨rfl, _⟩ | ⟨rfl, _⟩ | ⟨rfl, _⟩ | ⟨rfl, _⟩ <;> omega
theorem bls_ok (k : Nat) : okNs 59 (bls k) = true ∧ eqDs (bls k) (bls k) = true := by
  constructor
  · simp [okNs, okN]
  · simp [eqDs, eqD]
theorem turn (w : Wl) (d : D) (L : List D) (k : Nat) (x : D) (h : Nth d k x) : l__law_right_1 (rst w d L (.sh (.int k)) (.sh x)) = .ok (.nx (rst w d L (.sh (.int k)) (.sh x))) := by
  have e1 := taken_ev d k x h
  have e2 := c0_ev w d L k (nth_k h) (.sh x)
  have e3 := all_ev d k x h (rst w d L (.sh (.int k)) (.sh x)) rfl
  obtain ⟨o1, o2⟩ := bls_ok k
  simp only [rst] at *
  generalize bls k = BK at *
  generalize wl w = WW at *
  simp [l__law_right_1, e1, e2, e3, o1, o2]
theorem loop (w : Wl) (d : D) (x3 x4 : SD) : ∃ y3 y4, forL (stT [3, 4]) l__law_right_1 (enumD (exs d)) (rst w d (exs d) x3 x4) = .ok (.nx (rst w d (exs d) y3 y4)) := by
  obtain ⟨ρ1, ⟨y3, y4, rfl⟩, f1⟩ := for_thru (st := stT [3, 4]) (body := l__law_right_1) (g := fun (p : D × Nat) => D.tup [.int (p.2 : Nat), p.1]) (fun ρ => ∃ x3 x4, ρ = rst w d (exs d) x3 x4) (xs := (exs d).zipIdx) (fun p hp ρ ⟨x3, x4, e⟩ => by
    subst e
    have hn : Nth d p.2 p.1 := by
      unfold exs at hp
      simp only [List.zipIdx_cons, List.zipIdx_nil, List.mem_cons, List.not_mem_nil, or_false] at hp
      rcases hp with rfl | rfl | rfl | rfl | rfl | rfl | rfl | rfl | rfl | rfl | rfl <;> simp [Nth]
    refine ⟨_, ⟨.sh (.int (p.2 : Nat)), .sh p.1, rfl⟩, fun k => ?_⟩
    have t := turn w d (exs d) p.2 p.1 hn
    simp only [rst] at *
    generalize exs d = L at *
    generalize wl w = WW at *
    simp [t]) (ρ := rst w d (exs d) x3 x4) ⟨x3, x4, rfl⟩
  refine ⟨y3, y4, ?_⟩
  have en : enumD (exs d) = (exs d).zipIdx.map fun (p : D × Nat) => D.tup [.int (p.2 : Nat), p.1] := by
    have := enum_map (g := id) (exs d)
    simpa using this
  rw [← en] at f1
  exact f1
end Lw
end
section
namespace Lw
open PySem PySem.Spec PyProof.Rows L2 Wm
theorem body_turn (w : Wl) (d : D) (ok : okN 59 d = true) (eq : eqD d d = true) (x3 x4 : SD) : ∃ y3 y4, l__law_right_2 (rst w d (exs d) x3 x4) = .ok (.nx (rst w d (exs d) y3 y4)) := by
  obtain ⟨y3, y4, e⟩ := loop w d x3 x4
  have e1 := fields_ev d
  have z1 : (1 : Nat) ≤ sizeLine := by decide
  have hrep : pMul [.lst [d], .int 12] = .ok (.own [d, d, d, d, d, d, d, d, d, d, d, d]) := by rfl
  refine ⟨y3, y4, ?_⟩
  simp only [rst] at *
  generalize exs d = L at *
  generalize wl w = WW at *
  simp [l__law_right_2, b__law_right_0, conF, e1, hrep, z1, ok, eq, e]
theorem right_ev (w : Wl) : ∃ w', f__law_right [.byr (wl w)] = .ok (.sh (.bl true), [.byr (wl w')]) := by
  have d1 := draw_ev w (10 ^ 9) (by decide) (by decide)
  generalize dw w (10 ^ 9) = w1 at d1
  generalize dr w (10 ^ 9) = v at d1
  have d2 := draw_ev w1 5 (by decide) (by decide)
  have b2 := dr_bd w1 5 (by decide)
  generalize dw w1 5 = w2 at d2
  generalize dr w1 5 = i at d2 b2
  obtain ⟨d, hd, ed⟩ := at_mem [D.int v, .int (-1), .non, .str "moves", .tup [.int 0, .int 1]] i b2.1 b2.2
  have ok : okN 59 d = true ∧ eqD d d = true := by
    simp only [List.mem_cons, List.not_mem_nil, or_false] at hd
    rcases hd with rfl | rfl | rfl | rfl | rfl
    · simp [okN, eqD]
    · simp [okN, eqD]
    · simp [okN, eqD]
    · exact ⟨by decide +kernel, by decide +kernel⟩
    · exact ⟨by decide +kernel, by decide +kernel⟩
  have e1 := place_ev d
  have e2 := name_ev d
  obtain ⟨y3, y4, t1⟩ := body_turn w2 d ok.1 ok.2 .no .no
  obtain ⟨q3, q4, t2⟩ := body_turn w2 d ok.1 ok.2 y3 y4
  have hp : CPow 10 9 := by decide
  have z5 : (5 : Nat) ≤ sizeLine := by decide
  have z2 : (2 : Nat) ≤ sizeLine := by decide
  refine ⟨w2, ?_⟩
  simp only [rst] at *
  generalize exs d = L at *
  have d1 : f__law_draw [.byr (wl w), .sh (.int 1000000000)] = .ok (.sh (.int v), [.byr (wl w1), .no]) := d1
  simp [f__law_right, g__law_right, hp, d1, d2, z5, z2, ed, e1, e2, t1, t2]
end Lw
end
section
namespace Lw
open PySem PySem.Spec PyProof.Rows L2 Wm
theorem cells_law (ns : List Int) : ∀ (ds : List (Int × Nat)) (x1 x2 : SD), (∀ p ∈ ds, p.2 ≤ 100) → ∃ x1' x2', forL (stT [1, 2]) l_law_0 (ds.map fun p => D.tup [.int (p.2 : Nat), .int p.1]) [.sh (.scr ns), x1, x2] = .ok (.nx [.sh (.scr ns), x1', x2'])
  | [], x2, x3, _ => ⟨x2, x3, rfl⟩
  | (c, i) :: ds, x2, x3, h => by
    obtain ⟨x2', x3', e⟩ := cells_law ns ds (.sh (.int (i : Nat))) (.sh (.int c)) fun p hp => h p (List.mem_cons_of_mem _ hp)
    refine ⟨x2', x3', ?_⟩
    have hp : CPow 10 18 := by decide
    have k1 : IntMulOk c (if 1000000000000000000 ≤ c then 1 else 0) := mul_okR (by split <;> decide)
    have k2 : ∀ y, IntMulOk 7919 y := fun y => mul_okL (by decide)
    have hs3 : (3 : Nat) ≤ sizeLine := by decide
    have rv := fun a b => right_ev ⟨a, b, 0⟩
    obtain ⟨W, rv⟩ : ∃ W : Int → Int → Wl, ∀ a b, f__law_right [.byr [.int a, .int b, .int 0]] = .ok (.sh (.bl true), [.byr (wl (W a b))]) := ⟨fun a b => Classical.choose (rv a b), fun a b => Classical.choose_spec (rv a b)⟩
    rw [← e, List.map_cons, forL_cons]
    simp [l_law_0, b_law_0, hp, pMul_int, k1, k2, hs3, rv]
theorem law_true (ns : List Int) (hl : ns.length ≤ 63) : ∃ ρ, f_law [.sh (.scr ns)] = .ok (.sh (.bl true), ρ) := by
  have hs1 : (1 : Nat) ≤ sizeLine := by decide
  have hs3 : (3 : Nat) ≤ sizeLine := by decide
  have hsn : ns.length + 1 ≤ sizeLine := Lw.sz (by omega)
  have hcut : pSlHi [.lst (ns.map D.int ++ [.int 0]), .int 3] = .ok (.own (((ns ++ [0]).take 3).map D.int)) := by
    rw [slHi_lst _ _ (by omega)]
    simp
  have hen : enumD (((ns ++ [0]).take 3).map D.int) = (((ns ++ [0]).take 3).zipIdx).map (fun (p : Int × Nat) => D.tup [.int (p.2 : Nat), .int p.1]) := enum_map _
  obtain ⟨x2, x3, e⟩ := cells_law ns ((ns ++ [0]).take 3).zipIdx .no .no (fun p hp => by
    have := (List.mem_zipIdx_iff_getElem?.mp hp)
    have := (List.getElem?_eq_some_iff.mp this).1
    simp at this
    omega)
  refine ⟨[.no], ?_⟩
  simp [-List.map_take, f_law, g_law, hs1, hs3, hsn, hcut, hen, e]
end Lw
end
section
namespace Lw
open PySem PySem.Spec PyProof.Rows L2 Wm
theorem all_mk {P : Program} {w : World} {K : PySem.W.Frag} {h : Heap} {mg : Str → Option Value} {fa : Addr} (X : K.In h) (G : h.Ns mainGlobals mg) (hfa : mg "law" = some (.ref fa))
    {x0 : Addr} {oc0 kV0 dc0 pm0 cd0 ct0 : Value} {od0 an0 : Option Addr} {sl0 : Array (Option Value)}
    {x1 : Addr} {oc1 kV1 dc1 pm1 cd1 ct1 : Value} {od1 an1 : Option Addr} {sl1 : Array (Option Value)}
    {x2 : Addr} {oc2 kV2 dc2 pm2 cd2 ct2 : Value} {od2 an2 : Option Addr} {sl2 : Array (Option Value)}
    {x3 : Addr} {oc3 kV3 dc3 pm3 cd3 ct3 : Value} {od3 an3 : Option Addr} {sl3 : Array (Option Value)}
    {x4 : Addr} {oc4 kV4 dc4 pm4 cd4 ct4 : Value} {od4 an4 : Option Addr} {sl4 : Array (Option Value)}
    {x5 : Addr} {oc5 kV5 dc5 pm5 cd5 ct5 : Value} {od5 an5 : Option Addr} {sl5 : Array (Option Value)}
    {x6 : Addr} {oc6 kV6 dc6 pm6 cd6 ct6 : Value} {od6 an6 : Option Addr} {sl6 : Array (Option Value)}
    {CW : Addr}
    {C0 fI0 NN0 : Addr} {nm0 qq0 : Str} {bs0 sub0 : List Value} {sn0 : List Str} {ab0 : Bool} {col0 : Option Bool} {dd0 : Option Addr} {ma0 mb0 mc0 md0 me0 : Option Value} {ioc0 ikV0 idc0 ipm0 icd0 ict0 : Value} {iod0 ian0 : Option Addr} {isl0 : Array (Option Value)}
    {C1 fI1 NN1 : Addr} {nm1 qq1 : Str} {bs1 sub1 : List Value} {sn1 : List Str} {ab1 : Bool} {col1 : Option Bool} {dd1 : Option Addr} {ma1 mb1 mc1 md1 me1 : Option Value} {ioc1 ikV1 idc1 ipm1 icd1 ict1 : Value} {iod1 ian1 : Option Addr} {isl1 : Array (Option Value)}
    {C2 fI2 NN2 : Addr} {nm2 qq2 : Str} {bs2 sub2 : List Value} {sn2 : List Str} {ab2 : Bool} {col2 : Option Bool} {dd2 : Option Addr} {ma2 mb2 mc2 md2 me2 : Option Value} {ioc2 ikV2 idc2 ipm2 icd2 ict2 : Value} {iod2 ian2 : Option Addr} {isl2 : Array (Option Value)}
    {C3 fI3 NN3 : Addr} {nm3 qq3 : Str} {bs3 sub3 : List Value} {sn3 : List Str} {ab3 : Bool} {col3 : Option Bool} {dd3 : Option Addr} {ma3 mb3 mc3 md3 me3 : Option Value} {ioc3 ikV3 idc3 ipm3 icd3 ict3 : Value} {iod3 ian3 : Option Addr} {isl3 : Array (Option Value)}
    {C4 fI4 NN4 : Addr} {nm4 qq4 : Str} {bs4 sub4 : List Value} {sn4 : List Str} {ab4 : Bool} {col4 : Option Bool} {dd4 : Option Addr} {ma4 mb4 mc4 md4 me4 : Option Value} {ioc4 ikV4 idc4 ipm4 icd4 ict4 : Value} {iod4 ian4 : Option Addr} {isl4 : Array (Option Value)}
    {C5 fI5 NN5 : Addr} {nm5 qq5 : Str} {bs5 sub5 : List Value} {sn5 : List Str} {ab5 : Bool} {col5 : Option Bool} {dd5 : Option Addr} {ma5 mb5 mc5 md5 me5 : Option Value} {ioc5 ikV5 idc5 ipm5 icd5 ict5 : Value} {iod5 ian5 : Option Addr} {isl5 : Array (Option Value)}
    {C6 fI6 NN6 : Addr} {nm6 qq6 : Str} {bs6 sub6 : List Value} {sn6 : List Str} {ab6 : Bool} {col6 : Option Bool} {dd6 : Option Addr} {ma6 mb6 mc6 md6 me6 : Option Value} {ioc6 ikV6 idc6 ipm6 icd6 ict6 : Value} {iod6 ian6 : Option Addr} {isl6 : Array (Option Value)}
    {C7 fI7 NN7 : Addr} {nm7 qq7 : Str} {bs7 sub7 : List Value} {sn7 : List Str} {ab7 : Bool} {col7 : Option Bool} {dd7 : Option Addr} {ma7 mb7 mc7 md7 me7 : Option Value} {ioc7 ikV7 idc7 ipm7 icd7 ict7 : Value} {iod7 ian7 : Option Addr} {isl7 : Array (Option Value)}
    {C8 fI8 NN8 : Addr} {nm8 qq8 : Str} {bs8 sub8 : List Value} {sn8 : List Str} {ab8 : Bool} {col8 : Option Bool} {dd8 : Option Addr} {ma8 mb8 mc8 md8 me8 : Option Value} {ioc8 ikV8 idc8 ipm8 icd8 ict8 : Value} {iod8 ian8 : Option Addr} {isl8 : Array (Option Value)}
    {C9 fI9 NN9 : Addr} {nm9 qq9 : Str} {bs9 sub9 : List Value} {sn9 : List Str} {ab9 : Bool} {col9 : Option Bool} {dd9 : Option Addr} {ma9 mb9 mc9 md9 me9 : Option Value} {ioc9 ikV9 idc9 ipm9 icd9 ict9 : Value} {iod9 ian9 : Option Addr} {isl9 : Array (Option Value)}
    {C10 fI10 NN10 : Addr} {nm10 qq10 : Str} {bs10 sub10 : List Value} {sn10 : List Str} {ab10 : Bool} {col10 : Option Bool} {dd10 : Option Addr} {ma10 mb10 mc10 md10 me10 : Option Value} {ioc10 ikV10 idc10 ipm10 icd10 ict10 : Value} {iod10 ian10 : Option Addr} {isl10 : Array (Option Value)}
    (a0 : PySem.W.nsIn K mainGlobals "_law_draw" = some (some (.ref x0)))
    (l0 : K.lookup x0 = some ⟨oc0, od0, .func (PySem.W.fnOf "_law_draw" "_law_draw" (defArgs s__law_draw) (defBody s__law_draw) (defScope s__law_draw) .none kV0 dc0 pm0 an0 cd0 ct0), sl0⟩)
    (c0 : PySem.W.codeIn K cd0 "_law_draw" = true)
    (k0 : PySem.W.keepIn K (.ref x0) = true)
    (a1 : PySem.W.nsIn K mainGlobals "_law_by_place" = some (some (.ref x1)))
    (l1 : K.lookup x1 = some ⟨oc1, od1, .func (PySem.W.fnOf "_law_by_place" "_law_by_place" (defArgs s__law_by_place) (defBody s__law_by_place) (defScope s__law_by_place) .none kV1 dc1 pm1 an1 cd1 ct1), sl1⟩)
    (c1 : PySem.W.codeIn K cd1 "_law_by_place" = true)
    (k1 : PySem.W.keepIn K (.ref x1) = true)
    (a2 : PySem.W.nsIn K mainGlobals "_law_by_name" = some (some (.ref x2)))
    (l2 : K.lookup x2 = some ⟨oc2, od2, .func (PySem.W.fnOf "_law_by_name" "_law_by_name" (defArgs s__law_by_name) (defBody s__law_by_name) (defScope s__law_by_name) .none kV2 dc2 pm2 an2 cd2 ct2), sl2⟩)
    (c2 : PySem.W.codeIn K cd2 "_law_by_name" = true)
    (k2 : PySem.W.keepIn K (.ref x2) = true)
    (a3 : PySem.W.nsIn K mainGlobals "_law_fields" = some (some (.ref x3)))
    (l3 : K.lookup x3 = some ⟨oc3, od3, .func (PySem.W.fnOf "_law_fields" "_law_fields" (defArgs s__law_fields) (defBody s__law_fields) (defScope s__law_fields) .none kV3 dc3 pm3 an3 cd3 ct3), sl3⟩)
    (c3 : PySem.W.codeIn K cd3 "_law_fields" = true)
    (k3 : PySem.W.keepIn K (.ref x3) = true)
    (a4 : PySem.W.nsIn K mainGlobals "_law_taken" = some (some (.ref x4)))
    (l4 : K.lookup x4 = some ⟨oc4, od4, .func (PySem.W.fnOf "_law_taken" "_law_taken" (defArgs s__law_taken) (defBody s__law_taken) (defScope s__law_taken) .none kV4 dc4 pm4 an4 cd4 ct4), sl4⟩)
    (c4 : PySem.W.codeIn K cd4 "_law_taken" = true)
    (k4 : PySem.W.keepIn K (.ref x4) = true)
    (a5 : PySem.W.nsIn K mainGlobals "_law_right" = some (some (.ref x5)))
    (l5 : K.lookup x5 = some ⟨oc5, od5, .func (PySem.W.fnOf "_law_right" "_law_right" (defArgs s__law_right) (defBody s__law_right) (defScope s__law_right) .none kV5 dc5 pm5 an5 cd5 ct5), sl5⟩)
    (c5 : PySem.W.codeIn K cd5 "_law_right" = true)
    (k5 : PySem.W.keepIn K (.ref x5) = true)
    (a6 : PySem.W.nsIn K mainGlobals "law" = some (some (.ref x6)))
    (l6 : K.lookup x6 = some ⟨oc6, od6, .func (PySem.W.fnOf "law" "law" (defArgs s_law) (defBody s_law) (defScope s_law) .none kV6 dc6 pm6 an6 cd6 ct6), sl6⟩)
    (c6 : PySem.W.codeIn K cd6 "law" = true)
    (k6 : PySem.W.keepIn K (.ref x6) = true)
    (aW : PySem.W.nsIn K mainGlobals "WayError" = some (some (.ref CW)))
    (gaW : PySem.W.specialIn K (.ref CW) "__getattribute__" = some (some (.builtin "type.__getattribute__")))
    (rdW : PySem.W.readsIn K CW (.type "type") = true)
    (vVW : PySem.W.findCls K (.ref CW) (.type "type") "__init__" = some (.val (.builtin "ValueError.__init__")))
    (aC0 : PySem.W.nsIn K mainGlobals "Endless" = some (some (.ref C0)))
    (xL0 : K.lookup C0 = some (excClassObj nm0 qq0 C0 NN0 bs0 [.ref CW, .type "ValueError", .type "Exception", .type "BaseException", .type "object"] true sn0 sub0 ab0 col0 dd0 ma0 mb0 mc0 md0 me0 "ValueError.__new__"))
    (sa0 : PySem.W.findIn K (.ref C0) "__setattr__" = some (some (.builtin "object.__setattr__")))
    (ga0 : PySem.W.findIn K (.ref C0) "__getattribute__" = some (some (.builtin "BaseException.__getattribute__")))
    (gg0 : PySem.W.findIn K (.ref C0) "__getattr__" = some none)
    (nf0_move : PySem.W.findIn K (.ref C0) "move" = some none)
    (ii0 : PySem.W.findIn K (.ref C0) "__init__" = some (some (.ref fI0)))
    (ti0 : PySem.W.typeIn K (.ref fI0) = some (.type "function"))
    (li0 : K.lookup fI0 = some ⟨ioc0, iod0, .func (PySem.W.fnOf "__init__" "Endless.__init__" (defArgs s_Endless_init) (defBody s_Endless_init) (defScope s_Endless_init) .none ikV0 idc0 ipm0 ian0 icd0 ict0), isl0⟩)
    (ci0 : PySem.W.codeIn K icd0 "Endless.__init__" = true)
    (ki0 : PySem.W.keepIn K (.ref fI0) = true)
    (kC0 : PySem.W.keepIn K (.ref C0) = true)
    (eC0 : PySem.W.subIn K (.ref C0) (.type "BaseException") = some true)
    (tC0 : PySem.W.typeIn K (.ref C0) = some (.type "type"))
    (hC0 : PySem.W.hasDictIn K C0 = true)
    (iC0 : PySem.W.isClsIn K C0 = true)
    (aC1 : PySem.W.nsIn K mainGlobals "NoLine" = some (some (.ref C1)))
    (xL1 : K.lookup C1 = some (excClassObj nm1 qq1 C1 NN1 bs1 [.ref CW, .type "ValueError", .type "Exception", .type "BaseException", .type "object"] true sn1 sub1 ab1 col1 dd1 ma1 mb1 mc1 md1 me1 "ValueError.__new__"))
    (sa1 : PySem.W.findIn K (.ref C1) "__setattr__" = some (some (.builtin "object.__setattr__")))
    (ga1 : PySem.W.findIn K (.ref C1) "__getattribute__" = some (some (.builtin "BaseException.__getattribute__")))
    (gg1 : PySem.W.findIn K (.ref C1) "__getattr__" = some none)
    (nf1_at : PySem.W.findIn K (.ref C1) "at" = some none)
    (ii1 : PySem.W.findIn K (.ref C1) "__init__" = some (some (.ref fI1)))
    (ti1 : PySem.W.typeIn K (.ref fI1) = some (.type "function"))
    (li1 : K.lookup fI1 = some ⟨ioc1, iod1, .func (PySem.W.fnOf "__init__" "NoLine.__init__" (defArgs s_NoLine_init) (defBody s_NoLine_init) (defScope s_NoLine_init) .none ikV1 idc1 ipm1 ian1 icd1 ict1), isl1⟩)
    (ci1 : PySem.W.codeIn K icd1 "NoLine.__init__" = true)
    (ki1 : PySem.W.keepIn K (.ref fI1) = true)
    (kC1 : PySem.W.keepIn K (.ref C1) = true)
    (eC1 : PySem.W.subIn K (.ref C1) (.type "BaseException") = some true)
    (tC1 : PySem.W.typeIn K (.ref C1) = some (.type "type"))
    (hC1 : PySem.W.hasDictIn K C1 = true)
    (iC1 : PySem.W.isClsIn K C1 = true)
    (aC2 : PySem.W.nsIn K mainGlobals "NoMove" = some (some (.ref C2)))
    (xL2 : K.lookup C2 = some (excClassObj nm2 qq2 C2 NN2 bs2 [.ref CW, .type "ValueError", .type "Exception", .type "BaseException", .type "object"] true sn2 sub2 ab2 col2 dd2 ma2 mb2 mc2 md2 me2 "ValueError.__new__"))
    (sa2 : PySem.W.findIn K (.ref C2) "__setattr__" = some (some (.builtin "object.__setattr__")))
    (ga2 : PySem.W.findIn K (.ref C2) "__getattribute__" = some (some (.builtin "BaseException.__getattribute__")))
    (gg2 : PySem.W.findIn K (.ref C2) "__getattr__" = some none)
    (nf2_at : PySem.W.findIn K (.ref C2) "at" = some none)
    (ii2 : PySem.W.findIn K (.ref C2) "__init__" = some (some (.ref fI2)))
    (ti2 : PySem.W.typeIn K (.ref fI2) = some (.type "function"))
    (li2 : K.lookup fI2 = some ⟨ioc2, iod2, .func (PySem.W.fnOf "__init__" "NoMove.__init__" (defArgs s_NoMove_init) (defBody s_NoMove_init) (defScope s_NoMove_init) .none ikV2 idc2 ipm2 ian2 icd2 ict2), isl2⟩)
    (ci2 : PySem.W.codeIn K icd2 "NoMove.__init__" = true)
    (ki2 : PySem.W.keepIn K (.ref fI2) = true)
    (kC2 : PySem.W.keepIn K (.ref C2) = true)
    (eC2 : PySem.W.subIn K (.ref C2) (.type "BaseException") = some true)
    (tC2 : PySem.W.typeIn K (.ref C2) = some (.type "type"))
    (hC2 : PySem.W.hasDictIn K C2 = true)
    (iC2 : PySem.W.isClsIn K C2 = true)
    (aC3 : PySem.W.nsIn K mainGlobals "NoName" = some (some (.ref C3)))
    (xL3 : K.lookup C3 = some (excClassObj nm3 qq3 C3 NN3 bs3 [.ref CW, .type "ValueError", .type "Exception", .type "BaseException", .type "object"] true sn3 sub3 ab3 col3 dd3 ma3 mb3 mc3 md3 me3 "ValueError.__new__"))
    (sa3 : PySem.W.findIn K (.ref C3) "__setattr__" = some (some (.builtin "object.__setattr__")))
    (ga3 : PySem.W.findIn K (.ref C3) "__getattribute__" = some (some (.builtin "BaseException.__getattribute__")))
    (gg3 : PySem.W.findIn K (.ref C3) "__getattr__" = some none)
    (nf3_name : PySem.W.findIn K (.ref C3) "name" = some none)
    (ii3 : PySem.W.findIn K (.ref C3) "__init__" = some (some (.ref fI3)))
    (ti3 : PySem.W.typeIn K (.ref fI3) = some (.type "function"))
    (li3 : K.lookup fI3 = some ⟨ioc3, iod3, .func (PySem.W.fnOf "__init__" "NoName.__init__" (defArgs s_NoName_init) (defBody s_NoName_init) (defScope s_NoName_init) .none ikV3 idc3 ipm3 ian3 icd3 ict3), isl3⟩)
    (ci3 : PySem.W.codeIn K icd3 "NoName.__init__" = true)
    (ki3 : PySem.W.keepIn K (.ref fI3) = true)
    (kC3 : PySem.W.keepIn K (.ref C3) = true)
    (eC3 : PySem.W.subIn K (.ref C3) (.type "BaseException") = some true)
    (tC3 : PySem.W.typeIn K (.ref C3) = some (.type "type"))
    (hC3 : PySem.W.hasDictIn K C3 = true)
    (iC3 : PySem.W.isClsIn K C3 = true)
    (aC4 : PySem.W.nsIn K mainGlobals "NoPaper" = some (some (.ref C4)))
    (xL4 : K.lookup C4 = some (excClassObj nm4 qq4 C4 NN4 bs4 [.ref CW, .type "ValueError", .type "Exception", .type "BaseException", .type "object"] true sn4 sub4 ab4 col4 dd4 ma4 mb4 mc4 md4 me4 "ValueError.__new__"))
    (sa4 : PySem.W.findIn K (.ref C4) "__setattr__" = some (some (.builtin "object.__setattr__")))
    (ga4 : PySem.W.findIn K (.ref C4) "__getattribute__" = some (some (.builtin "BaseException.__getattribute__")))
    (gg4 : PySem.W.findIn K (.ref C4) "__getattr__" = some none)
    (nf4_where : PySem.W.findIn K (.ref C4) "where" = some none)
    (nf4_at : PySem.W.findIn K (.ref C4) "at" = some none)
    (ii4 : PySem.W.findIn K (.ref C4) "__init__" = some (some (.ref fI4)))
    (ti4 : PySem.W.typeIn K (.ref fI4) = some (.type "function"))
    (li4 : K.lookup fI4 = some ⟨ioc4, iod4, .func (PySem.W.fnOf "__init__" "NoPaper.__init__" (defArgs s_NoPaper_init) (defBody s_NoPaper_init) (defScope s_NoPaper_init) .none ikV4 idc4 ipm4 ian4 icd4 ict4), isl4⟩)
    (ci4 : PySem.W.codeIn K icd4 "NoPaper.__init__" = true)
    (ki4 : PySem.W.keepIn K (.ref fI4) = true)
    (kC4 : PySem.W.keepIn K (.ref C4) = true)
    (eC4 : PySem.W.subIn K (.ref C4) (.type "BaseException") = some true)
    (tC4 : PySem.W.typeIn K (.ref C4) = some (.type "type"))
    (hC4 : PySem.W.hasDictIn K C4 = true)
    (iC4 : PySem.W.isClsIn K C4 = true)
    (aC5 : PySem.W.nsIn K mainGlobals "NoPicks" = some (some (.ref C5)))
    (xL5 : K.lookup C5 = some (excClassObj nm5 qq5 C5 NN5 bs5 [.ref CW, .type "ValueError", .type "Exception", .type "BaseException", .type "object"] true sn5 sub5 ab5 col5 dd5 ma5 mb5 mc5 md5 me5 "ValueError.__new__"))
    (sa5 : PySem.W.findIn K (.ref C5) "__setattr__" = some (some (.builtin "object.__setattr__")))
    (ga5 : PySem.W.findIn K (.ref C5) "__getattribute__" = some (some (.builtin "BaseException.__getattribute__")))
    (gg5 : PySem.W.findIn K (.ref C5) "__getattr__" = some none)
    (nf5_at : PySem.W.findIn K (.ref C5) "at" = some none)
    (ii5 : PySem.W.findIn K (.ref C5) "__init__" = some (some (.ref fI5)))
    (ti5 : PySem.W.typeIn K (.ref fI5) = some (.type "function"))
    (li5 : K.lookup fI5 = some ⟨ioc5, iod5, .func (PySem.W.fnOf "__init__" "NoPicks.__init__" (defArgs s_NoPicks_init) (defBody s_NoPicks_init) (defScope s_NoPicks_init) .none ikV5 idc5 ipm5 ian5 icd5 ict5), isl5⟩)
    (ci5 : PySem.W.codeIn K icd5 "NoPicks.__init__" = true)
    (ki5 : PySem.W.keepIn K (.ref fI5) = true)
    (kC5 : PySem.W.keepIn K (.ref C5) = true)
    (eC5 : PySem.W.subIn K (.ref C5) (.type "BaseException") = some true)
    (tC5 : PySem.W.typeIn K (.ref C5) = some (.type "type"))
    (hC5 : PySem.W.hasDictIn K C5 = true)
    (iC5 : PySem.W.isClsIn K C5 = true)
    (aC6 : PySem.W.nsIn K mainGlobals "NoPlan" = some (some (.ref C6)))
    (xL6 : K.lookup C6 = some (excClassObj nm6 qq6 C6 NN6 bs6 [.ref CW, .type "ValueError", .type "Exception", .type "BaseException", .type "object"] true sn6 sub6 ab6 col6 dd6 ma6 mb6 mc6 md6 me6 "ValueError.__new__"))
    (sa6 : PySem.W.findIn K (.ref C6) "__setattr__" = some (some (.builtin "object.__setattr__")))
    (ga6 : PySem.W.findIn K (.ref C6) "__getattribute__" = some (some (.builtin "BaseException.__getattribute__")))
    (gg6 : PySem.W.findIn K (.ref C6) "__getattr__" = some none)
    (nf6_what : PySem.W.findIn K (.ref C6) "what" = some none)
    (ii6 : PySem.W.findIn K (.ref C6) "__init__" = some (some (.ref fI6)))
    (ti6 : PySem.W.typeIn K (.ref fI6) = some (.type "function"))
    (li6 : K.lookup fI6 = some ⟨ioc6, iod6, .func (PySem.W.fnOf "__init__" "NoPlan.__init__" (defArgs s_NoPlan_init) (defBody s_NoPlan_init) (defScope s_NoPlan_init) .none ikV6 idc6 ipm6 ian6 icd6 ict6), isl6⟩)
    (ci6 : PySem.W.codeIn K icd6 "NoPlan.__init__" = true)
    (ki6 : PySem.W.keepIn K (.ref fI6) = true)
    (kC6 : PySem.W.keepIn K (.ref C6) = true)
    (eC6 : PySem.W.subIn K (.ref C6) (.type "BaseException") = some true)
    (tC6 : PySem.W.typeIn K (.ref C6) = some (.type "type"))
    (hC6 : PySem.W.hasDictIn K C6 = true)
    (iC6 : PySem.W.isClsIn K C6 = true)
    (aC7 : PySem.W.nsIn K mainGlobals "NoRow" = some (some (.ref C7)))
    (xL7 : K.lookup C7 = some (excClassObj nm7 qq7 C7 NN7 bs7 [.ref CW, .type "ValueError", .type "Exception", .type "BaseException", .type "object"] true sn7 sub7 ab7 col7 dd7 ma7 mb7 mc7 md7 me7 "ValueError.__new__"))
    (sa7 : PySem.W.findIn K (.ref C7) "__setattr__" = some (some (.builtin "object.__setattr__")))
    (ga7 : PySem.W.findIn K (.ref C7) "__getattribute__" = some (some (.builtin "BaseException.__getattribute__")))
    (gg7 : PySem.W.findIn K (.ref C7) "__getattr__" = some none)
    (nf7_at : PySem.W.findIn K (.ref C7) "at" = some none)
    (ii7 : PySem.W.findIn K (.ref C7) "__init__" = some (some (.ref fI7)))
    (ti7 : PySem.W.typeIn K (.ref fI7) = some (.type "function"))
    (li7 : K.lookup fI7 = some ⟨ioc7, iod7, .func (PySem.W.fnOf "__init__" "NoRow.__init__" (defArgs s_NoRow_init) (defBody s_NoRow_init) (defScope s_NoRow_init) .none ikV7 idc7 ipm7 ian7 icd7 ict7), isl7⟩)
    (ci7 : PySem.W.codeIn K icd7 "NoRow.__init__" = true)
    (ki7 : PySem.W.keepIn K (.ref fI7) = true)
    (kC7 : PySem.W.keepIn K (.ref C7) = true)
    (eC7 : PySem.W.subIn K (.ref C7) (.type "BaseException") = some true)
    (tC7 : PySem.W.typeIn K (.ref C7) = some (.type "type"))
    (hC7 : PySem.W.hasDictIn K C7 = true)
    (iC7 : PySem.W.isClsIn K C7 = true)
    (aC8 : PySem.W.nsIn K mainGlobals "NoTable" = some (some (.ref C8)))
    (xL8 : K.lookup C8 = some (excClassObj nm8 qq8 C8 NN8 bs8 [.ref CW, .type "ValueError", .type "Exception", .type "BaseException", .type "object"] true sn8 sub8 ab8 col8 dd8 ma8 mb8 mc8 md8 me8 "ValueError.__new__"))
    (sa8 : PySem.W.findIn K (.ref C8) "__setattr__" = some (some (.builtin "object.__setattr__")))
    (ga8 : PySem.W.findIn K (.ref C8) "__getattribute__" = some (some (.builtin "BaseException.__getattribute__")))
    (gg8 : PySem.W.findIn K (.ref C8) "__getattr__" = some none)
    (nf8_at : PySem.W.findIn K (.ref C8) "at" = some none)
    (ii8 : PySem.W.findIn K (.ref C8) "__init__" = some (some (.ref fI8)))
    (ti8 : PySem.W.typeIn K (.ref fI8) = some (.type "function"))
    (li8 : K.lookup fI8 = some ⟨ioc8, iod8, .func (PySem.W.fnOf "__init__" "NoTable.__init__" (defArgs s_NoTable_init) (defBody s_NoTable_init) (defScope s_NoTable_init) .none ikV8 idc8 ipm8 ian8 icd8 ict8), isl8⟩)
    (ci8 : PySem.W.codeIn K icd8 "NoTable.__init__" = true)
    (ki8 : PySem.W.keepIn K (.ref fI8) = true)
    (kC8 : PySem.W.keepIn K (.ref C8) = true)
    (eC8 : PySem.W.subIn K (.ref C8) (.type "BaseException") = some true)
    (tC8 : PySem.W.typeIn K (.ref C8) = some (.type "type"))
    (hC8 : PySem.W.hasDictIn K C8 = true)
    (iC8 : PySem.W.isClsIn K C8 = true)
    (aC9 : PySem.W.nsIn K mainGlobals "NoWay" = some (some (.ref C9)))
    (xL9 : K.lookup C9 = some (excClassObj nm9 qq9 C9 NN9 bs9 [.ref CW, .type "ValueError", .type "Exception", .type "BaseException", .type "object"] true sn9 sub9 ab9 col9 dd9 ma9 mb9 mc9 md9 me9 "ValueError.__new__"))
    (sa9 : PySem.W.findIn K (.ref C9) "__setattr__" = some (some (.builtin "object.__setattr__")))
    (ga9 : PySem.W.findIn K (.ref C9) "__getattribute__" = some (some (.builtin "BaseException.__getattribute__")))
    (gg9 : PySem.W.findIn K (.ref C9) "__getattr__" = some none)
    (nf9_at : PySem.W.findIn K (.ref C9) "at" = some none)
    (ii9 : PySem.W.findIn K (.ref C9) "__init__" = some (some (.ref fI9)))
    (ti9 : PySem.W.typeIn K (.ref fI9) = some (.type "function"))
    (li9 : K.lookup fI9 = some ⟨ioc9, iod9, .func (PySem.W.fnOf "__init__" "NoWay.__init__" (defArgs s_NoWay_init) (defBody s_NoWay_init) (defScope s_NoWay_init) .none ikV9 idc9 ipm9 ian9 icd9 ict9), isl9⟩)
    (ci9 : PySem.W.codeIn K icd9 "NoWay.__init__" = true)
    (ki9 : PySem.W.keepIn K (.ref fI9) = true)
    (kC9 : PySem.W.keepIn K (.ref C9) = true)
    (eC9 : PySem.W.subIn K (.ref C9) (.type "BaseException") = some true)
    (tC9 : PySem.W.typeIn K (.ref C9) = some (.type "type"))
    (hC9 : PySem.W.hasDictIn K C9 = true)
    (iC9 : PySem.W.isClsIn K C9 = true)
    (aC10 : PySem.W.nsIn K mainGlobals "TooMany" = some (some (.ref C10)))
    (xL10 : K.lookup C10 = some (excClassObj nm10 qq10 C10 NN10 bs10 [.ref CW, .type "ValueError", .type "Exception", .type "BaseException", .type "object"] true sn10 sub10 ab10 col10 dd10 ma10 mb10 mc10 md10 me10 "ValueError.__new__"))
    (sa10 : PySem.W.findIn K (.ref C10) "__setattr__" = some (some (.builtin "object.__setattr__")))
    (ga10 : PySem.W.findIn K (.ref C10) "__getattribute__" = some (some (.builtin "BaseException.__getattribute__")))
    (gg10 : PySem.W.findIn K (.ref C10) "__getattr__" = some none)
    (nf10_many : PySem.W.findIn K (.ref C10) "many" = some none)
    (ii10 : PySem.W.findIn K (.ref C10) "__init__" = some (some (.ref fI10)))
    (ti10 : PySem.W.typeIn K (.ref fI10) = some (.type "function"))
    (li10 : K.lookup fI10 = some ⟨ioc10, iod10, .func (PySem.W.fnOf "__init__" "TooMany.__init__" (defArgs s_TooMany_init) (defBody s_TooMany_init) (defScope s_TooMany_init) .none ikV10 idc10 ipm10 ian10 icd10 ict10), isl10⟩)
    (ci10 : PySem.W.codeIn K icd10 "TooMany.__init__" = true)
    (ki10 : PySem.W.keepIn K (.ref fI10) = true)
    (kC10 : PySem.W.keepIn K (.ref C10) = true)
    (eC10 : PySem.W.subIn K (.ref C10) (.type "BaseException") = some true)
    (tC10 : PySem.W.typeIn K (.ref C10) = some (.type "type"))
    (hC10 : PySem.W.hasDictIn K C10 = true)
    (iC10 : PySem.W.isClsIn K C10 = true)
    (kha0 : PySem.W.findIn K (.ref C0) "__class__" = some (some (.builtin "object.__class__")))
    (khn0 : PySem.W.specialIn K (.builtin "object.__class__") "__get__" = some (some (.builtin "getset_descriptor.__get__")))
    (ktk0 : PySem.W.takesIn K (.builtin "object.__class__") = some true)
    (khm0 : PySem.W.mroIn K C0 (.type "object") = some true)
    (kha1 : PySem.W.findIn K (.ref C1) "__class__" = some (some (.builtin "object.__class__")))
    (khn1 : PySem.W.specialIn K (.builtin "object.__class__") "__get__" = some (some (.builtin "getset_descriptor.__get__")))
    (ktk1 : PySem.W.takesIn K (.builtin "object.__class__") = some true)
    (khm1 : PySem.W.mroIn K C1 (.type "object") = some true)
    (kha2 : PySem.W.findIn K (.ref C2) "__class__" = some (some (.builtin "object.__class__")))
    (khn2 : PySem.W.specialIn K (.builtin "object.__class__") "__get__" = some (some (.builtin "getset_descriptor.__get__")))
    (ktk2 : PySem.W.takesIn K (.builtin "object.__class__") = some true)
    (khm2 : PySem.W.mroIn K C2 (.type "object") = some true)
    (kha3 : PySem.W.findIn K (.ref C3) "__class__" = some (some (.builtin "object.__class__")))
    (khn3 : PySem.W.specialIn K (.builtin "object.__class__") "__get__" = some (some (.builtin "getset_descriptor.__get__")))
    (ktk3 : PySem.W.takesIn K (.builtin "object.__class__") = some true)
    (khm3 : PySem.W.mroIn K C3 (.type "object") = some true)
    (kha4 : PySem.W.findIn K (.ref C4) "__class__" = some (some (.builtin "object.__class__")))
    (khn4 : PySem.W.specialIn K (.builtin "object.__class__") "__get__" = some (some (.builtin "getset_descriptor.__get__")))
    (ktk4 : PySem.W.takesIn K (.builtin "object.__class__") = some true)
    (khm4 : PySem.W.mroIn K C4 (.type "object") = some true)
    (kha5 : PySem.W.findIn K (.ref C5) "__class__" = some (some (.builtin "object.__class__")))
    (khn5 : PySem.W.specialIn K (.builtin "object.__class__") "__get__" = some (some (.builtin "getset_descriptor.__get__")))
    (ktk5 : PySem.W.takesIn K (.builtin "object.__class__") = some true)
    (khm5 : PySem.W.mroIn K C5 (.type "object") = some true)
    (kha6 : PySem.W.findIn K (.ref C6) "__class__" = some (some (.builtin "object.__class__")))
    (khn6 : PySem.W.specialIn K (.builtin "object.__class__") "__get__" = some (some (.builtin "getset_descriptor.__get__")))
    (ktk6 : PySem.W.takesIn K (.builtin "object.__class__") = some true)
    (khm6 : PySem.W.mroIn K C6 (.type "object") = some true)
    (kha7 : PySem.W.findIn K (.ref C7) "__class__" = some (some (.builtin "object.__class__")))
    (khn7 : PySem.W.specialIn K (.builtin "object.__class__") "__get__" = some (some (.builtin "getset_descriptor.__get__")))
    (ktk7 : PySem.W.takesIn K (.builtin "object.__class__") = some true)
    (khm7 : PySem.W.mroIn K C7 (.type "object") = some true)
    (kha8 : PySem.W.findIn K (.ref C8) "__class__" = some (some (.builtin "object.__class__")))
    (khn8 : PySem.W.specialIn K (.builtin "object.__class__") "__get__" = some (some (.builtin "getset_descriptor.__get__")))
    (ktk8 : PySem.W.takesIn K (.builtin "object.__class__") = some true)
    (khm8 : PySem.W.mroIn K C8 (.type "object") = some true)
    (kha9 : PySem.W.findIn K (.ref C9) "__class__" = some (some (.builtin "object.__class__")))
    (khn9 : PySem.W.specialIn K (.builtin "object.__class__") "__get__" = some (some (.builtin "getset_descriptor.__get__")))
    (ktk9 : PySem.W.takesIn K (.builtin "object.__class__") = some true)
    (khm9 : PySem.W.mroIn K C9 (.type "object") = some true)
    (kha10 : PySem.W.findIn K (.ref C10) "__class__" = some (some (.builtin "object.__class__")))
    (khn10 : PySem.W.specialIn K (.builtin "object.__class__") "__get__" = some (some (.builtin "getset_descriptor.__get__")))
    (ktk10 : PySem.W.takesIn K (.builtin "object.__class__") = some true)
    (khm10 : PySem.W.mroIn K C10 (.type "object") = some true)
    (kk0_Endless : PySem.W.kitOne K (.ref C0) (.ref C0) = some true)
    (kk0_NoLine : PySem.W.kitOne K (.ref C0) (.ref C1) = some false)
    (kk0_NoMove : PySem.W.kitOne K (.ref C0) (.ref C2) = some false)
    (kk0_NoName : PySem.W.kitOne K (.ref C0) (.ref C3) = some false)
    (kk0_NoPaper : PySem.W.kitOne K (.ref C0) (.ref C4) = some false)
    (kk0_NoPicks : PySem.W.kitOne K (.ref C0) (.ref C5) = some false)
    (kk0_NoPlan : PySem.W.kitOne K (.ref C0) (.ref C6) = some false)
    (kk0_NoRow : PySem.W.kitOne K (.ref C0) (.ref C7) = some false)
    (kk0_NoTable : PySem.W.kitOne K (.ref C0) (.ref C8) = some false)
    (kk0_NoWay : PySem.W.kitOne K (.ref C0) (.ref C9) = some false)
    (kk0_TooMany : PySem.W.kitOne K (.ref C0) (.ref C10) = some false)
    (kk0_ValueError : PySem.W.kitOne K (.ref C0) (.type "ValueError") = some true)
    (kk0_WayError : PySem.W.kitOne K (.ref C0) (.ref CW) = some true)
    (kk1_Endless : PySem.W.kitOne K (.ref C1) (.ref C0) = some false)
    (kk1_NoLine : PySem.W.kitOne K (.ref C1) (.ref C1) = some true)
    (kk1_NoMove : PySem.W.kitOne K (.ref C1) (.ref C2) = some false)
    (kk1_NoName : PySem.W.kitOne K (.ref C1) (.ref C3) = some false)
    (kk1_NoPaper : PySem.W.kitOne K (.ref C1) (.ref C4) = some false)
    (kk1_NoPicks : PySem.W.kitOne K (.ref C1) (.ref C5) = some false)
    (kk1_NoPlan : PySem.W.kitOne K (.ref C1) (.ref C6) = some false)
    (kk1_NoRow : PySem.W.kitOne K (.ref C1) (.ref C7) = some false)
    (kk1_NoTable : PySem.W.kitOne K (.ref C1) (.ref C8) = some false)
    (kk1_NoWay : PySem.W.kitOne K (.ref C1) (.ref C9) = some false)
    (kk1_TooMany : PySem.W.kitOne K (.ref C1) (.ref C10) = some false)
    (kk1_ValueError : PySem.W.kitOne K (.ref C1) (.type "ValueError") = some true)
    (kk1_WayError : PySem.W.kitOne K (.ref C1) (.ref CW) = some true)
    (kk2_Endless : PySem.W.kitOne K (.ref C2) (.ref C0) = some false)
    (kk2_NoLine : PySem.W.kitOne K (.ref C2) (.ref C1) = some false)
    (kk2_NoMove : PySem.W.kitOne K (.ref C2) (.ref C2) = some true)
    (kk2_NoName : PySem.W.kitOne K (.ref C2) (.ref C3) = some false)
    (kk2_NoPaper : PySem.W.kitOne K (.ref C2) (.ref C4) = some false)
    (kk2_NoPicks : PySem.W.kitOne K (.ref C2) (.ref C5) = some false)
    (kk2_NoPlan : PySem.W.kitOne K (.ref C2) (.ref C6) = some false)
    (kk2_NoRow : PySem.W.kitOne K (.ref C2) (.ref C7) = some false)
    (kk2_NoTable : PySem.W.kitOne K (.ref C2) (.ref C8) = some false)
    (kk2_NoWay : PySem.W.kitOne K (.ref C2) (.ref C9) = some false)
    (kk2_TooMany : PySem.W.kitOne K (.ref C2) (.ref C10) = some false)
    (kk2_ValueError : PySem.W.kitOne K (.ref C2) (.type "ValueError") = some true)
    (kk2_WayError : PySem.W.kitOne K (.ref C2) (.ref CW) = some true)
    (kk3_Endless : PySem.W.kitOne K (.ref C3) (.ref C0) = some false)
    (kk3_NoLine : PySem.W.kitOne K (.ref C3) (.ref C1) = some false)
    (kk3_NoMove : PySem.W.kitOne K (.ref C3) (.ref C2) = some false)
    (kk3_NoName : PySem.W.kitOne K (.ref C3) (.ref C3) = some true)
    (kk3_NoPaper : PySem.W.kitOne K (.ref C3) (.ref C4) = some false)
    (kk3_NoPicks : PySem.W.kitOne K (.ref C3) (.ref C5) = some false)
    (kk3_NoPlan : PySem.W.kitOne K (.ref C3) (.ref C6) = some false)
    (kk3_NoRow : PySem.W.kitOne K (.ref C3) (.ref C7) = some false)
    (kk3_NoTable : PySem.W.kitOne K (.ref C3) (.ref C8) = some false)
    (kk3_NoWay : PySem.W.kitOne K (.ref C3) (.ref C9) = some false)
    (kk3_TooMany : PySem.W.kitOne K (.ref C3) (.ref C10) = some false)
    (kk3_ValueError : PySem.W.kitOne K (.ref C3) (.type "ValueError") = some true)
    (kk3_WayError : PySem.W.kitOne K (.ref C3) (.ref CW) = some true)
    (kk4_Endless : PySem.W.kitOne K (.ref C4) (.ref C0) = some false)
    (kk4_NoLine : PySem.W.kitOne K (.ref C4) (.ref C1) = some false)
    (kk4_NoMove : PySem.W.kitOne K (.ref C4) (.ref C2) = some false)
    (kk4_NoName : PySem.W.kitOne K (.ref C4) (.ref C3) = some false)
    (kk4_NoPaper : PySem.W.kitOne K (.ref C4) (.ref C4) = some true)
    (kk4_NoPicks : PySem.W.kitOne K (.ref C4) (.ref C5) = some false)
    (kk4_NoPlan : PySem.W.kitOne K (.ref C4) (.ref C6) = some false)
    (kk4_NoRow : PySem.W.kitOne K (.ref C4) (.ref C7) = some false)
    (kk4_NoTable : PySem.W.kitOne K (.ref C4) (.ref C8) = some false)
    (kk4_NoWay : PySem.W.kitOne K (.ref C4) (.ref C9) = some false)
    (kk4_TooMany : PySem.W.kitOne K (.ref C4) (.ref C10) = some false)
    (kk4_ValueError : PySem.W.kitOne K (.ref C4) (.type "ValueError") = some true)
    (kk4_WayError : PySem.W.kitOne K (.ref C4) (.ref CW) = some true)
    (kk5_Endless : PySem.W.kitOne K (.ref C5) (.ref C0) = some false)
    (kk5_NoLine : PySem.W.kitOne K (.ref C5) (.ref C1) = some false)
    (kk5_NoMove : PySem.W.kitOne K (.ref C5) (.ref C2) = some false)
    (kk5_NoName : PySem.W.kitOne K (.ref C5) (.ref C3) = some false)
    (kk5_NoPaper : PySem.W.kitOne K (.ref C5) (.ref C4) = some false)
    (kk5_NoPicks : PySem.W.kitOne K (.ref C5) (.ref C5) = some true)
    (kk5_NoPlan : PySem.W.kitOne K (.ref C5) (.ref C6) = some false)
    (kk5_NoRow : PySem.W.kitOne K (.ref C5) (.ref C7) = some false)
    (kk5_NoTable : PySem.W.kitOne K (.ref C5) (.ref C8) = some false)
    (kk5_NoWay : PySem.W.kitOne K (.ref C5) (.ref C9) = some false)
    (kk5_TooMany : PySem.W.kitOne K (.ref C5) (.ref C10) = some false)
    (kk5_ValueError : PySem.W.kitOne K (.ref C5) (.type "ValueError") = some true)
    (kk5_WayError : PySem.W.kitOne K (.ref C5) (.ref CW) = some true)
    (kk6_Endless : PySem.W.kitOne K (.ref C6) (.ref C0) = some false)
    (kk6_NoLine : PySem.W.kitOne K (.ref C6) (.ref C1) = some false)
    (kk6_NoMove : PySem.W.kitOne K (.ref C6) (.ref C2) = some false)
    (kk6_NoName : PySem.W.kitOne K (.ref C6) (.ref C3) = some false)
    (kk6_NoPaper : PySem.W.kitOne K (.ref C6) (.ref C4) = some false)
    (kk6_NoPicks : PySem.W.kitOne K (.ref C6) (.ref C5) = some false)
    (kk6_NoPlan : PySem.W.kitOne K (.ref C6) (.ref C6) = some true)
    (kk6_NoRow : PySem.W.kitOne K (.ref C6) (.ref C7) = some false)
    (kk6_NoTable : PySem.W.kitOne K (.ref C6) (.ref C8) = some false)
    (kk6_NoWay : PySem.W.kitOne K (.ref C6) (.ref C9) = some false)
    (kk6_TooMany : PySem.W.kitOne K (.ref C6) (.ref C10) = some false)
    (kk6_ValueError : PySem.W.kitOne K (.ref C6) (.type "ValueError") = some true)
    (kk6_WayError : PySem.W.kitOne K (.ref C6) (.ref CW) = some true)
    (kk7_Endless : PySem.W.kitOne K (.ref C7) (.ref C0) = some false)
    (kk7_NoLine : PySem.W.kitOne K (.ref C7) (.ref C1) = some false)
    (kk7_NoMove : PySem.W.kitOne K (.ref C7) (.ref C2) = some false)
    (kk7_NoName : PySem.W.kitOne K (.ref C7) (.ref C3) = some false)
    (kk7_NoPaper : PySem.W.kitOne K (.ref C7) (.ref C4) = some false)
    (kk7_NoPicks : PySem.W.kitOne K (.ref C7) (.ref C5) = some false)
    (kk7_NoPlan : PySem.W.kitOne K (.ref C7) (.ref C6) = some false)
    (kk7_NoRow : PySem.W.kitOne K (.ref C7) (.ref C7) = some true)
    (kk7_NoTable : PySem.W.kitOne K (.ref C7) (.ref C8) = some false)
    (kk7_NoWay : PySem.W.kitOne K (.ref C7) (.ref C9) = some false)
    (kk7_TooMany : PySem.W.kitOne K (.ref C7) (.ref C10) = some false)
    (kk7_ValueError : PySem.W.kitOne K (.ref C7) (.type "ValueError") = some true)
    (kk7_WayError : PySem.W.kitOne K (.ref C7) (.ref CW) = some true)
    (kk8_Endless : PySem.W.kitOne K (.ref C8) (.ref C0) = some false)
    (kk8_NoLine : PySem.W.kitOne K (.ref C8) (.ref C1) = some false)
    (kk8_NoMove : PySem.W.kitOne K (.ref C8) (.ref C2) = some false)
    (kk8_NoName : PySem.W.kitOne K (.ref C8) (.ref C3) = some false)
    (kk8_NoPaper : PySem.W.kitOne K (.ref C8) (.ref C4) = some false)
    (kk8_NoPicks : PySem.W.kitOne K (.ref C8) (.ref C5) = some false)
    (kk8_NoPlan : PySem.W.kitOne K (.ref C8) (.ref C6) = some false)
    (kk8_NoRow : PySem.W.kitOne K (.ref C8) (.ref C7) = some false)
    (kk8_NoTable : PySem.W.kitOne K (.ref C8) (.ref C8) = some true)
    (kk8_NoWay : PySem.W.kitOne K (.ref C8) (.ref C9) = some false)
    (kk8_TooMany : PySem.W.kitOne K (.ref C8) (.ref C10) = some false)
    (kk8_ValueError : PySem.W.kitOne K (.ref C8) (.type "ValueError") = some true)
    (kk8_WayError : PySem.W.kitOne K (.ref C8) (.ref CW) = some true)
    (kk9_Endless : PySem.W.kitOne K (.ref C9) (.ref C0) = some false)
    (kk9_NoLine : PySem.W.kitOne K (.ref C9) (.ref C1) = some false)
    (kk9_NoMove : PySem.W.kitOne K (.ref C9) (.ref C2) = some false)
    (kk9_NoName : PySem.W.kitOne K (.ref C9) (.ref C3) = some false)
    (kk9_NoPaper : PySem.W.kitOne K (.ref C9) (.ref C4) = some false)
    (kk9_NoPicks : PySem.W.kitOne K (.ref C9) (.ref C5) = some false)
    (kk9_NoPlan : PySem.W.kitOne K (.ref C9) (.ref C6) = some false)
    (kk9_NoRow : PySem.W.kitOne K (.ref C9) (.ref C7) = some false)
    (kk9_NoTable : PySem.W.kitOne K (.ref C9) (.ref C8) = some false)
    (kk9_NoWay : PySem.W.kitOne K (.ref C9) (.ref C9) = some true)
    (kk9_TooMany : PySem.W.kitOne K (.ref C9) (.ref C10) = some false)
    (kk9_ValueError : PySem.W.kitOne K (.ref C9) (.type "ValueError") = some true)
    (kk9_WayError : PySem.W.kitOne K (.ref C9) (.ref CW) = some true)
    (kk10_Endless : PySem.W.kitOne K (.ref C10) (.ref C0) = some false)
    (kk10_NoLine : PySem.W.kitOne K (.ref C10) (.ref C1) = some false)
    (kk10_NoMove : PySem.W.kitOne K (.ref C10) (.ref C2) = some false)
    (kk10_NoName : PySem.W.kitOne K (.ref C10) (.ref C3) = some false)
    (kk10_NoPaper : PySem.W.kitOne K (.ref C10) (.ref C4) = some false)
    (kk10_NoPicks : PySem.W.kitOne K (.ref C10) (.ref C5) = some false)
    (kk10_NoPlan : PySem.W.kitOne K (.ref C10) (.ref C6) = some false)
    (kk10_NoRow : PySem.W.kitOne K (.ref C10) (.ref C7) = some false)
    (kk10_NoTable : PySem.W.kitOne K (.ref C10) (.ref C8) = some false)
    (kk10_NoWay : PySem.W.kitOne K (.ref C10) (.ref C9) = some false)
    (kk10_TooMany : PySem.W.kitOne K (.ref C10) (.ref C10) = some true)
    (kk10_ValueError : PySem.W.kitOne K (.ref C10) (.type "ValueError") = some true)
    (kk10_WayError : PySem.W.kitOne K (.ref C10) (.ref CW) = some true)
    (kv_WayError : PySem.W.kitOne K (.type "ValueError") (.ref CW) = some false)
    (z_ValueError : PySem.W.nsIn K mainGlobals "ValueError" = some none)
    (z_enumerate : PySem.W.nsIn K mainGlobals "enumerate" = some none)
    (z_int : PySem.W.nsIn K mainGlobals "int" = some none)
    (z_isinstance : PySem.W.nsIn K mainGlobals "isinstance" = some none)
    (z_range : PySem.W.nsIn K mainGlobals "range" = some none) :
    ∃ fd : FuncData, (∀ (s : Shared) (v : Value), BindsTo s fd ⟨[v], []⟩ [("_law_script", v)]) ∧ ∀ base : Heap, K.In base → base.Ns mainGlobals mg → FnOk P w K mg base (L2.CX P w) 5 fa fd ["_law_script"] (spA K 1 f_law) := by
  have e := hfa.symm.trans (PySem.W.mg_of X G a6)
  cases e
  exact ⟨_, fun s v => .of_eq rfl, fun base _ _ => spA_ok (ok_law (cl := clOf [("Endless", C0), ("NoLine", C1), ("NoMove", C2), ("NoName", C3), ("NoPaper", C4), ("NoPicks", C5), ("NoPlan", C6), ("NoRow", C7), ("NoTable", C8), ("NoWay", C9), ("TooMany", C10), ("WayError", CW)]) ⟨_, _, fun_mk (st := s__law_draw) l0 c0 k0, PySem.W.mg_of X G a0,
    (fun_mk (st := s__law_draw) l0 c0 k0).binds fun _ _ _ _ _ _ us hl => match us, hl with | [_, _], _ => rfl,
    _, _, fun_mk (st := s__law_by_place) l1 c1 k1, PySem.W.mg_of X G a1,
    (fun_mk (st := s__law_by_place) l1 c1 k1).binds fun _ _ _ _ _ _ us hl => match us, hl with | [_], _ => rfl,
    _, _, fun_mk (st := s__law_by_name) l2 c2 k2, PySem.W.mg_of X G a2,
    (fun_mk (st := s__law_by_name) l2 c2 k2).binds fun _ _ _ _ _ _ us hl => match us, hl with | [_], _ => rfl,
    _, _, fun_mk (st := s__law_fields) l3 c3 k3, PySem.W.mg_of X G a3,
    (fun_mk (st := s__law_fields) l3 c3 k3).binds fun _ _ _ _ _ _ us hl => match us, hl with | [_], _ => rfl,
    _, _, fun_mk (st := s__law_taken) l4 c4 k4, PySem.W.mg_of X G a4,
    (fun_mk (st := s__law_taken) l4 c4 k4).binds fun _ _ _ _ _ _ us hl => match us, hl with | [_], _ => rfl,
    _, _, fun_mk (st := s__law_right) l5 c5 k5, PySem.W.mg_of X G a5,
    (fun_mk (st := s__law_right) l5 c5 k5).binds fun _ _ _ _ _ _ us hl => match us, hl with | [_], _ => rfl,
    _, _, fun_mk (st := s_law) l6 c6 k6, PySem.W.mg_of X G a6,
    (fun_mk (st := s_law) l6 c6 k6).binds fun _ _ _ _ _ _ us hl => match us, hl with | [_], _ => rfl,
    ⟨CW, .type "type", PySem.W.mg_of X G aW, gaW, rdW, vVW⟩,
    ⟨fI0, _, PySem.W.mg_of X G aC0, ⟨⟨_, _, _, _, _, _, _, _, _, _, _, _, _, _, _, xL0, rfl⟩, sa0, eC0, tC0, kC0⟩, fun f hf => by
      simp only [List.mem_cons, List.not_mem_nil, or_false] at hf
      rcases hf with rfl
      · exact nf0_move, ii0, ti0, fun_mk (st := s_Endless_init) li0 ci0 ki0, ⟨ga0, gg0, eC0, hC0⟩⟩,
    (fun_mk (st := s_Endless_init) li0 ci0 ki0).binds fun _ _ _ _ _ _ us hl => match us, hl with | [_, _], _ => rfl,
    kbs_mk (sel := [.arg 0, .arg 1]) [.inl 0, .inl 1] 0 [] ⟨rfl, ⟨rfl, trivial⟩⟩ (fun q hq => by cases hq) (fun us ws h1 h2 => match us, ws, h1, h2 with | [u0], [w0], _, _ => rfl),
    ⟨fI1, _, PySem.W.mg_of X G aC1, ⟨⟨_, _, _, _, _, _, _, _, _, _, _, _, _, _, _, xL1, rfl⟩, sa1, eC1, tC1, kC1⟩, fun f hf => by
      simp only [List.mem_cons, List.not_mem_nil, or_false] at hf
      rcases hf with rfl
      · exact nf1_at, ii1, ti1, fun_mk (st := s_NoLine_init) li1 ci1 ki1, ⟨ga1, gg1, eC1, hC1⟩⟩,
    (fun_mk (st := s_NoLine_init) li1 ci1 ki1).binds fun _ _ _ _ _ _ us hl => match us, hl with | [_, _], _ => rfl,
    kbs_mk (sel := [.arg 0, .arg 1]) [.inl 0, .inl 1] 0 [] ⟨rfl, ⟨rfl, trivial⟩⟩ (fun q hq => by cases hq) (fun us ws h1 h2 => match us, ws, h1, h2 with | [u0], [w0], _, _ => rfl),
    ⟨fI2, _, PySem.W.mg_of X G aC2, ⟨⟨_, _, _, _, _, _, _, _, _, _, _, _, _, _, _, xL2, rfl⟩, sa2, eC2, tC2, kC2⟩, fun f hf => by
      simp only [List.mem_cons, List.not_mem_nil, or_false] at hf
      rcases hf with rfl
      · exact nf2_at, ii2, ti2, fun_mk (st := s_NoMove_init) li2 ci2 ki2, ⟨ga2, gg2, eC2, hC2⟩⟩,
    (fun_mk (st := s_NoMove_init) li2 ci2 ki2).binds fun _ _ _ _ _ _ us hl => match us, hl with | [_, _], _ => rfl,
    kbs_mk (sel := [.arg 0, .arg 1]) [.inl 0, .inl 1] 0 [] ⟨rfl, ⟨rfl, trivial⟩⟩ (fun q hq => by cases hq) (fun us ws h1 h2 => match us, ws, h1, h2 with | [u0], [w0], _, _ => rfl),
    ⟨fI3, _, PySem.W.mg_of X G aC3, ⟨⟨_, _, _, _, _, _, _, _, _, _, _, _, _, _, _, xL3, rfl⟩, sa3, eC3, tC3, kC3⟩, fun f hf => by
      simp only [List.mem_cons, List.not_mem_nil, or_false] at hf
      rcases hf with rfl
      · exact nf3_name, ii3, ti3, fun_mk (st := s_NoName_init) li3 ci3 ki3, ⟨ga3, gg3, eC3, hC3⟩⟩,
    (fun_mk (st := s_NoName_init) li3 ci3 ki3).binds fun _ _ _ _ _ _ us hl => match us, hl with | [_, _], _ => rfl,
    kbs_mk (sel := [.arg 0, .arg 1]) [.inl 0, .inl 1] 0 [] ⟨rfl, ⟨rfl, trivial⟩⟩ (fun q hq => by cases hq) (fun us ws h1 h2 => match us, ws, h1, h2 with | [u0], [w0], _, _ => rfl),
    ⟨fI4, _, PySem.W.mg_of X G aC4, ⟨⟨_, _, _, _, _, _, _, _, _, _, _, _, _, _, _, xL4, rfl⟩, sa4, eC4, tC4, kC4⟩, fun f hf => by
      simp only [List.mem_cons, List.not_mem_nil, or_false] at hf
      rcases hf with rfl | rfl
      · exact nf4_where
      · exact nf4_at, ii4, ti4, fun_mk (st := s_NoPaper_init) li4 ci4 ki4, ⟨ga4, gg4, eC4, hC4⟩⟩,
    kbs_mk (sel := [.arg 0, .arg 1, .arg 2]) [.inl 0, .inl 1, .inl 2] 0 [] ⟨rfl, ⟨rfl, ⟨rfl, trivial⟩⟩⟩ (fun q hq => by cases hq) (fun us ws h1 h2 => match us, ws, h1, h2 with | [u0, u1], [w0], _, _ => rfl),
    kbs_mk (sel := [.arg 0, .arg 1, .arg 2]) [.inl 0, .inl 1, .inl 2] 0 [] ⟨rfl, ⟨rfl, ⟨rfl, trivial⟩⟩⟩ (fun q hq => by cases hq) (fun us ws h1 h2 => match us, ws, h1, h2 with | [u0], [w0, w1], _, _ => rfl),
    ⟨fI5, _, PySem.W.mg_of X G aC5, ⟨⟨_, _, _, _, _, _, _, _, _, _, _, _, _, _, _, xL5, rfl⟩, sa5, eC5, tC5, kC5⟩, fun f hf => by
      simp only [List.mem_cons, List.not_mem_nil, or_false] at hf
      rcases hf with rfl
      · exact nf5_at, ii5, ti5, fun_mk (st := s_NoPicks_init) li5 ci5 ki5, ⟨ga5, gg5, eC5, hC5⟩⟩,
    (fun_mk (st := s_NoPicks_init) li5 ci5 ki5).binds fun _ _ _ _ _ _ us hl => match us, hl with | [_, _], _ => rfl,
    kbs_mk (sel := [.arg 0, .arg 1]) [.inl 0, .inl 1] 0 [] ⟨rfl, ⟨rfl, trivial⟩⟩ (fun q hq => by cases hq) (fun us ws h1 h2 => match us, ws, h1, h2 with | [u0], [w0], _, _ => rfl),
    ⟨fI6, _, PySem.W.mg_of X G aC6, ⟨⟨_, _, _, _, _, _, _, _, _, _, _, _, _, _, _, xL6, rfl⟩, sa6, eC6, tC6, kC6⟩, fun f hf => by
      simp only [List.mem_cons, List.not_mem_nil, or_false] at hf
      rcases hf with rfl
      · exact nf6_what, ii6, ti6, fun_mk (st := s_NoPlan_init) li6 ci6 ki6, ⟨ga6, gg6, eC6, hC6⟩⟩,
    (fun_mk (st := s_NoPlan_init) li6 ci6 ki6).binds fun _ _ _ _ _ _ us hl => match us, hl with | [_, _], _ => rfl,
    kbs_mk (sel := [.arg 0, .arg 1]) [.inl 0, .inl 1] 0 [] ⟨rfl, ⟨rfl, trivial⟩⟩ (fun q hq => by cases hq) (fun us ws h1 h2 => match us, ws, h1, h2 with | [u0], [w0], _, _ => rfl),
    ⟨fI7, _, PySem.W.mg_of X G aC7, ⟨⟨_, _, _, _, _, _, _, _, _, _, _, _, _, _, _, xL7, rfl⟩, sa7, eC7, tC7, kC7⟩, fun f hf => by
      simp only [List.mem_cons, List.not_mem_nil, or_false] at hf
      rcases hf with rfl
      · exact nf7_at, ii7, ti7, fun_mk (st := s_NoRow_init) li7 ci7 ki7, ⟨ga7, gg7, eC7, hC7⟩⟩,
    (fun_mk (st := s_NoRow_init) li7 ci7 ki7).binds fun _ _ _ _ _ _ us hl => match us, hl with | [_, _], _ => rfl,
    kbs_mk (sel := [.arg 0, .arg 1]) [.inl 0, .inl 1] 0 [] ⟨rfl, ⟨rfl, trivial⟩⟩ (fun q hq => by cases hq) (fun us ws h1 h2 => match us, ws, h1, h2 with | [u0], [w0], _, _ => rfl),
    ⟨fI8, _, PySem.W.mg_of X G aC8, ⟨⟨_, _, _, _, _, _, _, _, _, _, _, _, _, _, _, xL8, rfl⟩, sa8, eC8, tC8, kC8⟩, fun f hf => by
      simp only [List.mem_cons, List.not_mem_nil, or_false] at hf
      rcases hf with rfl
      · exact nf8_at, ii8, ti8, fun_mk (st := s_NoTable_init) li8 ci8 ki8, ⟨ga8, gg8, eC8, hC8⟩⟩,
    (fun_mk (st := s_NoTable_init) li8 ci8 ki8).binds fun _ _ _ _ _ _ us hl => match us, hl with | [_, _], _ => rfl,
    kbs_mk (sel := [.arg 0, .arg 1]) [.inl 0, .inl 1] 0 [] ⟨rfl, ⟨rfl, trivial⟩⟩ (fun q hq => by cases hq) (fun us ws h1 h2 => match us, ws, h1, h2 with | [u0], [w0], _, _ => rfl),
    ⟨fI9, _, PySem.W.mg_of X G aC9, ⟨⟨_, _, _, _, _, _, _, _, _, _, _, _, _, _, _, xL9, rfl⟩, sa9, eC9, tC9, kC9⟩, fun f hf => by
      simp only [List.mem_cons, List.not_mem_nil, or_false] at hf
      rcases hf with rfl
      · exact nf9_at, ii9, ti9, fun_mk (st := s_NoWay_init) li9 ci9 ki9, ⟨ga9, gg9, eC9, hC9⟩⟩,
    (fun_mk (st := s_NoWay_init) li9 ci9 ki9).binds fun _ _ _ _ _ _ us hl => match us, hl with | [_, _], _ => rfl,
    kbs_mk (sel := [.arg 0, .arg 1]) [.inl 0, .inl 1] 0 [] ⟨rfl, ⟨rfl, trivial⟩⟩ (fun q hq => by cases hq) (fun us ws h1 h2 => match us, ws, h1, h2 with | [u0], [w0], _, _ => rfl),
    ⟨fI10, _, PySem.W.mg_of X G aC10, ⟨⟨_, _, _, _, _, _, _, _, _, _, _, _, _, _, _, xL10, rfl⟩, sa10, eC10, tC10, kC10⟩, fun f hf => by
      simp only [List.mem_cons, List.not_mem_nil, or_false] at hf
      rcases hf with rfl
      · exact nf10_many, ii10, ti10, fun_mk (st := s_TooMany_init) li10 ci10 ki10, ⟨ga10, gg10, eC10, hC10⟩⟩,
    (fun_mk (st := s_TooMany_init) li10 ci10 ki10).binds fun _ _ _ _ _ _ us hl => match us, hl with | [_, _], _ => rfl,
    kbs_mk (sel := [.arg 0, .arg 1]) [.inl 0, .inl 1] 0 [] ⟨rfl, ⟨rfl, trivial⟩⟩ (fun q hq => by cases hq) (fun us ws h1 h2 => match us, ws, h1, h2 with | [u0], [w0], _, _ => rfl),
    ⟨cls_some hC0, ga0, gg0, eC0, kha0, khn0, ktk0, khm0⟩,
    ⟨cls_some hC1, ga1, gg1, eC1, kha1, khn1, ktk1, khm1⟩,
    ⟨cls_some hC2, ga2, gg2, eC2, kha2, khn2, ktk2, khm2⟩,
    ⟨cls_some hC3, ga3, gg3, eC3, kha3, khn3, ktk3, khm3⟩,
    ⟨cls_some hC4, ga4, gg4, eC4, kha4, khn4, ktk4, khm4⟩,
    ⟨cls_some hC5, ga5, gg5, eC5, kha5, khn5, ktk5, khm5⟩,
    ⟨cls_some hC6, ga6, gg6, eC6, kha6, khn6, ktk6, khm6⟩,
    ⟨cls_some hC7, ga7, gg7, eC7, kha7, khn7, ktk7, khm7⟩,
    ⟨cls_some hC8, ga8, gg8, eC8, kha8, khn8, ktk8, khm8⟩,
    ⟨cls_some hC9, ga9, gg9, eC9, kha9, khn9, ktk9, khm9⟩,
    ⟨cls_some hC10, ga10, gg10, eC10, kha10, khn10, ktk10, khm10⟩,
    kk0_Endless,
    kk0_NoLine,
    kk0_NoMove,
    kk0_NoName,
    kk0_NoPaper,
    kk0_NoPicks,
    kk0_NoPlan,
    kk0_NoRow,
    kk0_NoTable,
    kk0_NoWay,
    kk0_TooMany,
    kk0_ValueError,
    kk0_WayError,
    kk1_Endless,
    kk1_NoLine,
    kk1_NoMove,
    kk1_NoName,
    kk1_NoPaper,
    kk1_NoPicks,
    kk1_NoPlan,
    kk1_NoRow,
    kk1_NoTable,
    kk1_NoWay,
    kk1_TooMany,
    kk1_ValueError,
    kk1_WayError,
    kk2_Endless,
    kk2_NoLine,
    kk2_NoMove,
    kk2_NoName,
    kk2_NoPaper,
    kk2_NoPicks,
    kk2_NoPlan,
    kk2_NoRow,
    kk2_NoTable,
    kk2_NoWay,
    kk2_TooMany,
    kk2_ValueError,
    kk2_WayError,
    kk3_Endless,
    kk3_NoLine,
    kk3_NoMove,
    kk3_NoName,
    kk3_NoPaper,
    kk3_NoPicks,
    kk3_NoPlan,
    kk3_NoRow,
    kk3_NoTable,
    kk3_NoWay,
    kk3_TooMany,
    kk3_ValueError,
    kk3_WayError,
    kk4_Endless,
    kk4_NoLine,
    kk4_NoMove,
    kk4_NoName,
    kk4_NoPaper,
    kk4_NoPicks,
    kk4_NoPlan,
    kk4_NoRow,
    kk4_NoTable,
    kk4_NoWay,
    kk4_TooMany,
    kk4_ValueError,
    kk4_WayError,
    kk5_Endless,
    kk5_NoLine,
    kk5_NoMove,
    kk5_NoName,
    kk5_NoPaper,
    kk5_NoPicks,
    kk5_NoPlan,
    kk5_NoRow,
    kk5_NoTable,
    kk5_NoWay,
    kk5_TooMany,
    kk5_ValueError,
    kk5_WayError,
    kk6_Endless,
    kk6_NoLine,
    kk6_NoMove,
    kk6_NoName,
    kk6_NoPaper,
    kk6_NoPicks,
    kk6_NoPlan,
    kk6_NoRow,
    kk6_NoTable,
    kk6_NoWay,
    kk6_TooMany,
    kk6_ValueError,
    kk6_WayError,
    kk7_Endless,
    kk7_NoLine,
    kk7_NoMove,
    kk7_NoName,
    kk7_NoPaper,
    kk7_NoPicks,
    kk7_NoPlan,
    kk7_NoRow,
    kk7_NoTable,
    kk7_NoWay,
    kk7_TooMany,
    kk7_ValueError,
    kk7_WayError,
    kk8_Endless,
    kk8_NoLine,
    kk8_NoMove,
    kk8_NoName,
    kk8_NoPaper,
    kk8_NoPicks,
    kk8_NoPlan,
    kk8_NoRow,
    kk8_NoTable,
    kk8_NoWay,
    kk8_TooMany,
    kk8_ValueError,
    kk8_WayError,
    kk9_Endless,
    kk9_NoLine,
    kk9_NoMove,
    kk9_NoName,
    kk9_NoPaper,
    kk9_NoPicks,
    kk9_NoPlan,
    kk9_NoRow,
    kk9_NoTable,
    kk9_NoWay,
    kk9_TooMany,
    kk9_ValueError,
    kk9_WayError,
    kk10_Endless,
    kk10_NoLine,
    kk10_NoMove,
    kk10_NoName,
    kk10_NoPaper,
    kk10_NoPicks,
    kk10_NoPlan,
    kk10_NoRow,
    kk10_NoTable,
    kk10_NoWay,
    kk10_TooMany,
    kk10_ValueError,
    kk10_WayError,
    PySem.W.mg_of X G aC0,
    PySem.W.mg_of X G aC1,
    PySem.W.mg_of X G aC2,
    PySem.W.mg_of X G aC3,
    PySem.W.mg_of X G aC4,
    PySem.W.mg_of X G aC5,
    PySem.W.mg_of X G aC6,
    PySem.W.mg_of X G aC7,
    PySem.W.mg_of X G aC8,
    PySem.W.mg_of X G aC9,
    PySem.W.mg_of X G aC10,
    PySem.W.mg_of X G aW,
    kv_WayError,
    trivial,
    fun _ => rfl,
    PySem.W.mg_none_of X G z_ValueError,
    PySem.W.mg_none_of X G z_enumerate,
    PySem.W.mg_none_of X G z_int,
    PySem.W.mg_none_of X G z_isinstance,
    PySem.W.mg_none_of X G z_range⟩)⟩
end Lw
open PySem PySem.W PyProof.Rows
set_option maxHeartbeats 0 in
theorem PySem.Challenge.cw_waymoves_k86_what_refusals_are_holds : PySem.Challenge.rw_waymoves_k86_what_refusals_are.Holds := by
  w_on; o_law; k_head; (case hw => w_witness2)
  k_fill
  refine L2.walk_of (l := PySem.Challenge.rw_waymoves_k86_what_refusals_are) (n := 63) (k := 5) (x := "_law_script") (CX := fun w => L2.CX (PySem.Challenge.rw_waymoves_k86_what_refusals_are).prog w) (sp := fun w => Wm.spA _ 1 Lw.f_law) rfl (by decide) rfl ⟨rfl, by decide, by decide⟩ (fun w h Y => PySem.W.kIn_of Y) ?F (fun _ _ a ns hl _ hS => Wm.spA_sp hl hS (Lw.law_true ns hl)) (fun _ H s e s' h => Wm.law_cx H s e s' h)
  case F =>
    intro w mg fa h KX G hmg
    refine' Lw.all_mk KX G hmg ?a0 ?l0 ?c0 ?k0 ?a1 ?l1 ?c1 ?k1 ?a2 ?l2 ?c2 ?k2 ?a3 ?l3 ?c3 ?k3 ?a4 ?l4 ?c4 ?k4 ?a5 ?l5 ?c5 ?k5 ?a6 ?l6 ?c6 ?k6 ?aW ?gaW ?rdW ?vVW ?aC0 ?xL0 ?sa0 ?ga0 ?gg0 ?nf0_move ?ii0 ?ti0 ?li0 ?ci0 ?ki0 ?kC0 ?eC0 ?tC0 ?hC0 ?iC0 ?aC1 ?xL1 ?sa1 ?ga1 ?gg1 ?nf1_at ?ii1 ?ti1 ?li1 ?ci1 ?ki1 ?kC1 ?eC1 ?tC1 ?hC1 ?iC1 ?aC2 ?xL2 ?sa2 ?ga2 ?gg2 ?nf2_at ?ii2 ?ti2 ?li2 ?ci2 ?ki2 ?kC2 ?eC2 ?tC2 ?hC2 ?iC2 ?aC3 ?xL3 ?sa3 ?ga3 ?gg3 ?nf3_name ?ii3 ?ti3 ?li3 ?ci3 ?ki3 ?kC3 ?eC3 ?tC3 ?hC3 ?iC3 ?aC4 ?xL4 ?sa4 ?ga4 ?gg4 ?nf4_where ?nf4_at ?ii4 ?ti4 ?li4 ?ci4 ?ki4 ?kC4 ?eC4 ?tC4 ?hC4 ?iC4 ?aC5 ?xL5 ?sa5 ?ga5 ?gg5 ?nf5_at ?ii5 ?ti5 ?li5 ?ci5 ?ki5 ?kC5 ?eC5 ?tC5 ?hC5 ?iC5 ?aC6 ?xL6 ?sa6 ?ga6 ?gg6 ?nf6_what ?ii6 ?ti6 ?li6 ?ci6 ?ki6 ?kC6 ?eC6 ?tC6 ?hC6 ?iC6 ?aC7 ?xL7 ?sa7 ?ga7 ?gg7 ?nf7_at ?ii7 ?ti7 ?li7 ?ci7 ?ki7 ?kC7 ?eC7 ?tC7 ?hC7 ?iC7 ?aC8 ?xL8 ?sa8 ?ga8 ?gg8 ?nf8_at ?ii8 ?ti8 ?li8 ?ci8 ?ki8 ?kC8 ?eC8 ?tC8 ?hC8 ?iC8 ?aC9 ?xL9 ?sa9 ?ga9 ?gg9 ?nf9_at ?ii9 ?ti9 ?li9 ?ci9 ?ki9 ?kC9 ?eC9 ?tC9 ?hC9 ?iC9 ?aC10 ?xL10 ?sa10 ?ga10 ?gg10 ?nf10_many ?ii10 ?ti10 ?li10 ?ci10 ?ki10 ?kC10 ?eC10 ?tC10 ?hC10 ?iC10 ?kha0 ?khn0 ?ktk0 ?khm0 ?kha1 ?khn1 ?ktk1 ?khm1 ?kha2 ?khn2 ?ktk2 ?khm2 ?kha3 ?khn3 ?ktk3 ?khm3 ?kha4 ?khn4 ?ktk4 ?khm4 ?kha5 ?khn5 ?ktk5 ?khm5 ?kha6 ?khn6 ?ktk6 ?khm6 ?kha7 ?khn7 ?ktk7 ?khm7 ?kha8 ?khn8 ?ktk8 ?khm8 ?kha9 ?khn9 ?ktk9 ?khm9 ?kha10 ?khn10 ?ktk10 ?khm10 ?kk0_Endless ?kk0_NoLine ?kk0_NoMove ?kk0_NoName ?kk0_NoPaper ?kk0_NoPicks ?kk0_NoPlan ?kk0_NoRow ?kk0_NoTable ?kk0_NoWay ?kk0_TooMany ?kk0_ValueError ?kk0_WayError ?kk1_Endless ?kk1_NoLine ?kk1_NoMove ?kk1_NoName ?kk1_NoPaper ?kk1_NoPicks ?kk1_NoPlan ?kk1_NoRow ?kk1_NoTable ?kk1_NoWay ?kk1_TooMany ?kk1_ValueError ?kk1_WayError ?kk2_Endless ?kk2_NoLine ?kk2_NoMove ?kk2_NoName ?kk2_NoPaper ?kk2_NoPicks ?kk2_NoPlan ?kk2_NoRow ?kk2_NoTable ?kk2_NoWay ?kk2_TooMany ?kk2_ValueError ?kk2_WayError ?kk3_Endless ?kk3_NoLine ?kk3_NoMove ?kk3_NoName ?kk3_NoPaper ?kk3_NoPicks ?kk3_NoPlan ?kk3_NoRow ?kk3_NoTable ?kk3_NoWay ?kk3_TooMany ?kk3_ValueError ?kk3_WayError ?kk4_Endless ?kk4_NoLine ?kk4_NoMove ?kk4_NoName ?kk4_NoPaper ?kk4_NoPicks ?kk4_NoPlan ?kk4_NoRow ?kk4_NoTable ?kk4_NoWay ?kk4_TooMany ?kk4_ValueError ?kk4_WayError ?kk5_Endless ?kk5_NoLine ?kk5_NoMove ?kk5_NoName ?kk5_NoPaper ?kk5_NoPicks ?kk5_NoPlan ?kk5_NoRow ?kk5_NoTable ?kk5_NoWay ?kk5_TooMany ?kk5_ValueError ?kk5_WayError ?kk6_Endless ?kk6_NoLine ?kk6_NoMove ?kk6_NoName ?kk6_NoPaper ?kk6_NoPicks ?kk6_NoPlan ?kk6_NoRow ?kk6_NoTable ?kk6_NoWay ?kk6_TooMany ?kk6_ValueError ?kk6_WayError ?kk7_Endless ?kk7_NoLine ?kk7_NoMove ?kk7_NoName ?kk7_NoPaper ?kk7_NoPicks ?kk7_NoPlan ?kk7_NoRow ?kk7_NoTable ?kk7_NoWay ?kk7_TooMany ?kk7_ValueError ?kk7_WayError ?kk8_Endless ?kk8_NoLine ?kk8_NoMove ?kk8_NoName ?kk8_NoPaper ?kk8_NoPicks ?kk8_NoPlan ?kk8_NoRow ?kk8_NoTable ?kk8_NoWay ?kk8_TooMany ?kk8_ValueError ?kk8_WayError ?kk9_Endless ?kk9_NoLine ?kk9_NoMove ?kk9_NoName ?kk9_NoPaper ?kk9_NoPicks ?kk9_NoPlan ?kk9_NoRow ?kk9_NoTable ?kk9_NoWay ?kk9_TooMany ?kk9_ValueError ?kk9_WayError ?kk10_Endless ?kk10_NoLine ?kk10_NoMove ?kk10_NoName ?kk10_NoPaper ?kk10_NoPicks ?kk10_NoPlan ?kk10_NoRow ?kk10_NoTable ?kk10_NoWay ?kk10_TooMany ?kk10_ValueError ?kk10_WayError ?kv_WayError ?z_ValueError ?z_enumerate ?z_int ?z_isinstance ?z_range
    (case a0 => k_is); (case l0 => k_is); (case c0 => k_is); (case k0 => k_is); (case a1 => k_is); (case l1 => k_is); (case c1 => k_is); (case k1 => k_is); (case a2 => k_is); (case l2 => k_is); (case c2 => k_is); (case k2 => k_is); (case a3 => k_is); (case l3 => k_is); (case c3 => k_is); (case k3 => k_is); (case a4 => k_is); (case l4 => k_is); (case c4 => k_is); (case k4 => k_is); (case a5 => k_is); (case l5 => k_is); (case c5 => k_is); (case k5 => k_is); (case a6 => k_is); (case l6 => k_is); (case c6 => k_is); (case k6 => k_is); (case aW => k_is); (case gaW => k_is); (case rdW => k_is); (case vVW => k_is); (case aC0 => k_is); (case xL0 => k_is); (case sa0 => k_is); (case ga0 => k_is); (case gg0 => k_is); (case nf0_move => k_is); (case ii0 => k_is); (case ti0 => k_is); (case li0 => k_is); (case ci0 => k_is); (case ki0 => k_is); (case kC0 => k_is); (case eC0 => k_is); (case tC0 => k_is); (case hC0 => k_is); (case iC0 => k_is); (case aC1 => k_is); (case xL1 => k_is); (case sa1 => k_is); (case ga1 => k_is); (case gg1 => k_is); (case nf1_at => k_is); (case ii1 => k_is); (case ti1 => k_is); (case li1 => k_is); (case ci1 => k_is); (case ki1 => k_is); (case kC1 => k_is); (case eC1 => k_is); (case tC1 => k_is); (case hC1 => k_is); (case iC1 => k_is); (case aC2 => k_is); (case xL2 => k_is); (case sa2 => k_is); (case ga2 => k_is); (case gg2 => k_is); (case nf2_at => k_is); (case ii2 => k_is); (case ti2 => k_is); (case li2 => k_is); (case ci2 => k_is); (case ki2 => k_is); (case kC2 => k_is); (case eC2 => k_is); (case tC2 => k_is); (case hC2 => k_is); (case iC2 => k_is); (case aC3 => k_is); (case xL3 => k_is); (case sa3 => k_is); (case ga3 => k_is); (case gg3 => k_is); (case nf3_name => k_is); (case ii3 => k_is); (case ti3 => k_is); (case li3 => k_is); (case ci3 => k_is); (case ki3 => k_is); (case kC3 => k_is); (case eC3 => k_is); (case tC3 => k_is); (case hC3 => k_is); (case iC3 => k_is); (case aC4 => k_is); (case xL4 => k_is); (case sa4 => k_is); (case ga4 => k_is); (case gg4 => k_is); (case nf4_where => k_is); (case nf4_at => k_is); (case ii4 => k_is); (case ti4 => k_is); (case li4 => k_is); (case ci4 => k_is); (case ki4 => k_is); (case kC4 => k_is); (case eC4 => k_is); (case tC4 => k_is); (case hC4 => k_is); (case iC4 => k_is); (case aC5 => k_is); (case xL5 => k_is); (case sa5 => k_is); (case ga5 => k_is); (case gg5 => k_is); (case nf5_at => k_is); (case ii5 => k_is); (case ti5 => k_is); (case li5 => k_is); (case ci5 => k_is); (case ki5 => k_is); (case kC5 => k_is); (case eC5 => k_is); (case tC5 => k_is); (case hC5 => k_is); (case iC5 => k_is); (case aC6 => k_is); (case xL6 => k_is); (case sa6 => k_is); (case ga6 => k_is); (case gg6 => k_is); (case nf6_what => k_is); (case ii6 => k_is); (case ti6 => k_is); (case li6 => k_is); (case ci6 => k_is); (case ki6 => k_is); (case kC6 => k_is); (case eC6 => k_is); (case tC6 => k_is); (case hC6 => k_is); (case iC6 => k_is); (case aC7 => k_is); (case xL7 => k_is); (case sa7 => k_is); (case ga7 => k_is); (case gg7 => k_is); (case nf7_at => k_is); (case ii7 => k_is); (case ti7 => k_is); (case li7 => k_is); (case ci7 => k_is); (case ki7 => k_is); (case kC7 => k_is); (case eC7 => k_is); (case tC7 => k_is); (case hC7 => k_is); (case iC7 => k_is); (case aC8 => k_is); (case xL8 => k_is); (case sa8 => k_is); (case ga8 => k_is); (case gg8 => k_is); (case nf8_at => k_is); (case ii8 => k_is); (case ti8 => k_is); (case li8 => k_is); (case ci8 => k_is); (case ki8 => k_is); (case kC8 => k_is); (case eC8 => k_is); (case tC8 => k_is); (case hC8 => k_is); (case iC8 => k_is); (case aC9 => k_is); (case xL9 => k_is); (case sa9 => k_is); (case ga9 => k_is); (case gg9 => k_is); (case nf9_at => k_is); (case ii9 => k_is); (case ti9 => k_is); (case li9 => k_is); (case ci9 => k_is); (case ki9 => k_is); (case kC9 => k_is); (case eC9 => k_is); (case tC9 => k_is); (case hC9 => k_is); (case iC9 => k_is); (case aC10 => k_is); (case xL10 => k_is); (case sa10 => k_is); (case ga10 => k_is); (case gg10 => k_is); (case nf10_many => k_is); (case ii10 => k_is); (case ti10 => k_is); (case li10 => k_is); (case ci10 => k_is); (case ki10 => k_is); (case kC10 => k_is); (case eC10 => k_is); (case tC10 => k_is); (case hC10 => k_is); (case iC10 => k_is); (case kha0 => k_is); (case khn0 => k_is); (case ktk0 => k_is); (case khm0 => k_is); (case kha1 => k_is); (case khn1 => k_is); (case ktk1 => k_is); (case khm1 => k_is); (case kha2 => k_is); (case khn2 => k_is); (case ktk2 => k_is); (case khm2 => k_is); (case kha3 => k_is); (case khn3 => k_is); (case ktk3 => k_is); (case khm3 => k_is); (case kha4 => k_is); (case khn4 => k_is); (case ktk4 => k_is); (case khm4 => k_is); (case kha5 => k_is); (case khn5 => k_is); (case ktk5 => k_is); (case khm5 => k_is); (case kha6 => k_is); (case khn6 => k_is); (case ktk6 => k_is); (case khm6 => k_is); (case kha7 => k_is); (case khn7 => k_is); (case ktk7 => k_is); (case khm7 => k_is); (case kha8 => k_is); (case khn8 => k_is); (case ktk8 => k_is); (case khm8 => k_is); (case kha9 => k_is); (case khn9 => k_is); (case ktk9 => k_is); (case khm9 => k_is); (case kha10 => k_is); (case khn10 => k_is); (case ktk10 => k_is); (case khm10 => k_is); (case kk0_Endless => kit_is); (case kk0_NoLine => kit_is); (case kk0_NoMove => kit_is); (case kk0_NoName => kit_is); (case kk0_NoPaper => kit_is); (case kk0_NoPicks => kit_is); (case kk0_NoPlan => kit_is); (case kk0_NoRow => kit_is); (case kk0_NoTable => kit_is); (case kk0_NoWay => kit_is); (case kk0_TooMany => kit_is); (case kk0_ValueError => kit_is); (case kk0_WayError => kit_is); (case kk1_Endless => kit_is); (case kk1_NoLine => kit_is); (case kk1_NoMove => kit_is); (case kk1_NoName => kit_is); (case kk1_NoPaper => kit_is); (case kk1_NoPicks => kit_is); (case kk1_NoPlan => kit_is); (case kk1_NoRow => kit_is); (case kk1_NoTable => kit_is); (case kk1_NoWay => kit_is); (case kk1_TooMany => kit_is); (case kk1_ValueError => kit_is); (case kk1_WayError => kit_is); (case kk2_Endless => kit_is); (case kk2_NoLine => kit_is); (case kk2_NoMove => kit_is); (case kk2_NoName => kit_is); (case kk2_NoPaper => kit_is); (case kk2_NoPicks => kit_is); (case kk2_NoPlan => kit_is); (case kk2_NoRow => kit_is); (case kk2_NoTable => kit_is); (case kk2_NoWay => kit_is); (case kk2_TooMany => kit_is); (case kk2_ValueError => kit_is); (case kk2_WayError => kit_is); (case kk3_Endless => kit_is); (case kk3_NoLine => kit_is); (case kk3_NoMove => kit_is); (case kk3_NoName => kit_is); (case kk3_NoPaper => kit_is); (case kk3_NoPicks => kit_is); (case kk3_NoPlan => kit_is); (case kk3_NoRow => kit_is); (case kk3_NoTable => kit_is); (case kk3_NoWay => kit_is); (case kk3_TooMany => kit_is); (case kk3_ValueError => kit_is); (case kk3_WayError => kit_is); (case kk4_Endless => kit_is); (case kk4_NoLine => kit_is); (case kk4_NoMove => kit_is); (case kk4_NoName => kit_is); (case kk4_NoPaper => kit_is); (case kk4_NoPicks => kit_is); (case kk4_NoPlan => kit_is); (case kk4_NoRow => kit_is); (case kk4_NoTable => kit_is); (case kk4_NoWay => kit_is); (case kk4_TooMany => kit_is); (case kk4_ValueError => kit_is); (case kk4_WayError => kit_is); (case kk5_Endless => kit_is); (case kk5_NoLine => kit_is); (case kk5_NoMove => kit_is); (case kk5_NoName => kit_is); (case kk5_NoPaper => kit_is); (case kk5_NoPicks => kit_is); (case kk5_NoPlan => kit_is); (case kk5_NoRow => kit_is); (case kk5_NoTable => kit_is); (case kk5_NoWay => kit_is); (case kk5_TooMany => kit_is); (case kk5_ValueError => kit_is); (case kk5_WayError => kit_is); (case kk6_Endless => kit_is); (case kk6_NoLine => kit_is); (case kk6_NoMove => kit_is); (case kk6_NoName => kit_is); (case kk6_NoPaper => kit_is); (case kk6_NoPicks => kit_is); (case kk6_NoPlan => kit_is); (case kk6_NoRow => kit_is); (case kk6_NoTable => kit_is); (case kk6_NoWay => kit_is); (case kk6_TooMany => kit_is); (case kk6_ValueError => kit_is); (case kk6_WayError => kit_is); (case kk7_Endless => kit_is); (case kk7_NoLine => kit_is); (case kk7_NoMove => kit_is); (case kk7_NoName => kit_is); (case kk7_NoPaper => kit_is); (case kk7_NoPicks => kit_is); (case kk7_NoPlan => kit_is); (case kk7_NoRow => kit_is); (case kk7_NoTable => kit_is); (case kk7_NoWay => kit_is); (case kk7_TooMany => kit_is); (case kk7_ValueError => kit_is); (case kk7_WayError => kit_is); (case kk8_Endless => kit_is); (case kk8_NoLine => kit_is); (case kk8_NoMove => kit_is); (case kk8_NoName => kit_is); (case kk8_NoPaper => kit_is); (case kk8_NoPicks => kit_is); (case kk8_NoPlan => kit_is); (case kk8_NoRow => kit_is); (case kk8_NoTable => kit_is); (case kk8_NoWay => kit_is); (case kk8_TooMany => kit_is); (case kk8_ValueError => kit_is); (case kk8_WayError => kit_is); (case kk9_Endless => kit_is); (case kk9_NoLine => kit_is); (case kk9_NoMove => kit_is); (case kk9_NoName => kit_is); (case kk9_NoPaper => kit_is); (case kk9_NoPicks => kit_is); (case kk9_NoPlan => kit_is); (case kk9_NoRow => kit_is); (case kk9_NoTable => kit_is); (case kk9_NoWay => kit_is); (case kk9_TooMany => kit_is); (case kk9_ValueError => kit_is); (case kk9_WayError => kit_is); (case kk10_Endless => kit_is); (case kk10_NoLine => kit_is); (case kk10_NoMove => kit_is); (case kk10_NoName => kit_is); (case kk10_NoPaper => kit_is); (case kk10_NoPicks => kit_is); (case kk10_NoPlan => kit_is); (case kk10_NoRow => kit_is); (case kk10_NoTable => kit_is); (case kk10_NoWay => kit_is); (case kk10_TooMany => kit_is); (case kk10_ValueError => kit_is); (case kk10_WayError => kit_is); (case kv_WayError => kit_is); (case z_ValueError => k_is); (case z_enumerate => k_is); (case z_int => k_is); (case z_isinstance => k_is); (case z_range => k_is)
end
