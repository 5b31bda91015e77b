import PyProof.Rows.All
import HandS.ForMost
import HandS.Exc
import HandS.TryOnly
import HandS.ExcOwn
import HandS.WordsExc
import HandS.CallSlots
import HandS.Wide
import HandS.Lambda
import HandS.TupAny
import HandS.TupMul
import HandS.TupLe
import HandS.Flow
import HandS.IsInst
import HandS.Conv
import HandS.SortInts
import KE.GoesNew
import KE.GoesEnum
import HandS.Defaults
import KE.IntBitsLaws
import HandS.ExcInit
import HandS.ExcField
import HandS.Deep
import KE.KSortedM
import HandS.EndTab
import HandS.MakeKwOnly
import KE.DataFind
import HandS.Style
import KE.KExcIs
import PyProof.InstNe
import HandS.OwnEq
import KE.KDictZip
import HandS.Rev
import HandS.Dict
import HandS.DictComp
import HandS.SortRule
import KE.KDictSum
import HandS.TryElse
import KE.SortData
import KE.DataMinKey
import PyProof.ReprRoads
import PyProof.ReprLen
import PyProof.ReprText
import KE.KTupSum
import KE.DataMinMax
import KE.KUnpackStar
import HandS.SetFor
import HandS.Strs
import KE.KSortKeySt
import HandS.Slots
import PySem.Challenge.RW_waymoves_k02_whole_any_way_or_a_bar
set_option Elab.async false
set_option linter.all false
set_option maxRecDepth 100000
set_option maxHeartbeats 4000000
section
namespace Wm
open PySem PySem.Spec PyProof.Rows L2
inductive D where
  | non | bl (b : Bool) | int (i : Int) | str (x : Str)
  | tup (xs : List D) | lst (xs : List D) | ins (c : Str) (fs : List (Str × D)) | scr (ns : List Int)
  | dct (kvs : List (Int × D))
inductive OT where
  | dat (d : D) | lst (ts : List OT) | tup (ts : List OT)
inductive SD where
  | no | sh (d : D) | own (xs : List D) | byr (xs : List D) | xn (c : Str) (fs : List (Str × D)) | gv | od (kvs : List (Int × D)) | ow (t : OT)
structure TC where
  tabs : List (Addr × Str) := []
  codes : List (Addr × Str) := []
  know : List (D × V) := []
structure KT0 (T : TC) (H : Hp) : Prop where
  t : LamX.Tabs T.tabs H
  c : ∀ p ∈ T.codes, H p.1 = some (LamX.CodeO p.1 p.2)
theorem KT0.ext {T : TC} {H H' : Hp} (k : KT0 T H) (e : ∀ b o, H b = some o → H' b = some o) : KT0 T H' := ⟨k.t.ext e, fun p hp => e _ _ (k.c p hp)⟩
structure Gx where
  K : PySem.W.Frag
  cls : Str → Addr
  xof : Addr → Option (Str × Addr)
  tabs : TC
structure Cl where
  at' : Str → Addr
  xof : Addr → Option (Str × Addr)
  tabs : TC
abbrev gk (K : PySem.W.Frag) (cl : Cl) : Gx := ⟨K, cl.at', cl.xof, cl.tabs⟩
def NoD (H : Hp) (b : Addr) : Prop := ∀ o, H b = some o → ∃ ps, o = .tbl ps
theorem noD_none {H : Hp} {b : Addr} (h : H b = none) : NoD H b := fun o e => by rw [h] at e; cases e
theorem noD_not {H : Hp} {b : Addr} {o : HO} (h : H b = some o) (ht : ∀ ps, o ≠ .tbl ps := by intro _ z; cases z) : ¬ NoD H b := fun z => by
  obtain ⟨ps, e⟩ := z o h
  exact ht ps e
def LO (K : PySem.W.Frag) (O : List Addr) (H : Hp) (a : Addr) (vs : List V) : Prop :=
  vs.length ≤ sizeLine ∧ H a = some (.lst vs) ∧ a ∉ O
def ScO (K : PySem.W.Frag) (O : List Addr) (H : Hp) (a : Addr) (vs : List V) : Prop :=
  vs.length ≤ sizeLine ∧ ((Rd H a (.lst vs) ∧ a ∉ O) ∨
    ∃ (o : Obj) (its : Array Value) (n : Nat), K.lookup a = some o ∧ o.cls = .type "list" ∧ o.dict = none ∧ o.data = .seq its n ∧ its.size ≤ sizeLine ∧ Vals vs its.toList)
theorem ScO.sq {K : PySem.W.Frag} {O : List Addr} {H : Hp} {a : Addr} {vs : List V} (h : ScO K O H a vs) : SqL K H a vs := by
  rcases h.2 with h | h
  · exact .inl h.1
  · exact .inr h
def TO (K : PySem.W.Frag) (O : List Addr) (H : Hp) (a : Addr) (vs : List V) : Prop :=
  vs.length ≤ sizeLine ∧ ((Rd H a (.tup vs) ∧ a ∉ O) ∨
    ∃ (o : Obj) (its : Array Value) (n : Nat), K.lookup a = some o ∧ o.cls = .type "tuple" ∧ o.data = .seq its n ∧ its.size ≤ sizeLine ∧ Vals vs its.toList)
theorem LO.sq {K : PySem.W.Frag} {O : List Addr} {H : Hp} {a : Addr} {vs : List V} (h : LO K O H a vs) : SqL K H a vs := SqL.of h.2.1
theorem TO.sq {K : PySem.W.Frag} {O : List Addr} {H : Hp} {a : Addr} {vs : List V} (h : TO K O H a vs) : SqT K H a vs := by
  rcases h.2 with h | h
  · exact .inl h.1
  · exact .inr h
mutual
def Rp (G : Gx) (O : List Addr) (H : Hp) : D → V → Prop
  | .non, v => v = .non
  | .bl b, v => v = .bl b
  | .int i, v => v = .int i
  | .str x, v => v = .str x
  | .tup ds, v => ∃ a vs, v = .ref a ∧ TO G.K O H a vs ∧ RpA G O H ds vs
  | .lst ds, v => ∃ a vs, v = .ref a ∧ LO G.K O H a vs ∧ RpA G O H ds vs
  | .ins c fs, v => ∃ a dx gs, v = .ref a ∧ H a = some (.ins (G.cls c) dx gs) ∧ a ∉ O ∧ RpF G O H fs gs
  | .scr ns, v => ∃ a, v = .ref a ∧ ScO G.K O H a (ns.map V.int)
  | .dct kvs, v => ∃ a gs, v = .ref a ∧ H a = some (.dK gs) ∧ a ∉ O ∧ RpD G O H kvs gs
def RpA (G : Gx) (O : List Addr) (H : Hp) : List D → List V → Prop
  | [], vs => vs = []
  | d :: ds, vs => ∃ v r, vs = v :: r ∧ Rp G O H d v ∧ RpA G O H ds r
def RpF (G : Gx) (O : List Addr) (H : Hp) : List (Str × D) → List (Str × V) → Prop
  | [], gs => gs = []
  | (n, d) :: fs, gs => ∃ v r, gs = (n, v) :: r ∧ Rp G O H d v ∧ RpF G O H fs r
def RpD (G : Gx) (O : List Addr) (H : Hp) : List (Int × D) → List (Key × V) → Prop
  | [], gs => gs = []
  | (n, d) :: fs, gs => ∃ v r, gs = (.inl n, v) :: r ∧ Rp G O H d v ∧ RpD G O H fs r
end
structure Stp (O W : List Addr) (H : Hp) (O' W' : List Addr) (H' : Hp) : Prop where
  keep : ∀ b o, H b = some o → b ∉ W → (∀ ps, o ≠ .tbl ps) → H' b = some o
  wnew : ∀ b ∈ W', b ∈ W ∨ NoD H b
  onew : ∀ b ∈ O', b ∈ O ∨ NoD H b
  trk : ∀ b, ¬ NoD H b → ¬ NoD H' b
  ofz : ∀ b ∈ O, b ∉ W → b ∈ O'
structure Wf (O W : List Addr) (H : Hp) : Prop where
  sub : ∀ b ∈ W, b ∈ O
  trk : ∀ b ∈ O, ¬ NoD H b
theorem Stp.refl {O W : List Addr} {H : Hp} : Stp O W H O W H := ⟨fun _ _ h _ _ => h, fun _ h => .inl h, fun _ h => .inl h, fun _ h => h, fun _ h _ => h⟩
theorem Stp.trans {O W O1 W1 O2 W2 : List Addr} {H H1 H2 : Hp} (w : Wf O W H) (a : Stp O W H O1 W1 H1) (b : Stp O1 W1 H1 O2 W2 H2) : Stp O W H O2 W2 H2 where
  keep := fun c o h hc ht => b.keep c o (a.keep c o h hc ht) (fun z => by
    rcases a.wnew c z with q | q
    · exact hc q
    · exact noD_not h ht q) ht
  wnew := fun c hc => by
    rcases b.wnew c hc with q | q
    · exact a.wnew c q
    · by_cases h : NoD H c
      · exact .inr h
      · exact absurd q (a.trk c h)
  onew := fun c hc => by
    rcases b.onew c hc with q | q
    · exact a.onew c q
    · by_cases h : NoD H c
      · exact .inr h
      · exact absurd q (a.trk c h)
  trk := fun c h => b.trk c (a.trk c h)
  ofz := fun c h hc => b.ofz c (a.ofz c h hc) fun z => by
    rcases a.wnew c z with q | q
    · exact hc q
    · exact w.trk c h q
section
variable {G : Gx} {O W O' W' : List Addr} {H H' : Hp}
theorem Stp.at (s : Stp O W H O' W' H') (w : Wf O W H) {a : Addr} {o : HO} (h : H a = some o) (ha : a ∉ O) (ht : ∀ ps, o ≠ .tbl ps := by intro _ z; cases z) : H' a = some o ∧ a ∉ O' :=
  ⟨s.keep a o h (fun z => ha (w.sub a z)) ht, fun z => by
    rcases s.onew a z with q | q
    · exact ha q
    · exact noD_not h ht q⟩
theorem LO.step {a : Addr} {vs : List V} (w : Wf O W H) (s : Stp O W H O' W' H') (h : LO G.K O H a vs) : LO G.K O' H' a vs := ⟨h.1, (s.at w h.2.1 h.2.2).1, (s.at w h.2.1 h.2.2).2⟩
theorem TO.step {a : Addr} {vs : List V} (w : Wf O W H) (s : Stp O W H O' W' H') (h : TO G.K O H a vs) : TO G.K O' H' a vs := by
  refine ⟨h.1, ?_⟩
  rcases h.2 with ⟨r | ⟨o, r⟩, hn⟩ | h
  · exact .inl ⟨.inl (s.at w r hn).1, (s.at w r hn).2⟩
  · exact .inl ⟨.inr ⟨o, (s.at w r hn).1⟩, (s.at w r hn).2⟩
  · exact .inr h
theorem LO.less {a : Addr} {vs : List V} (h : ∀ b ∈ O', b ∈ O) (r : LO G.K O H a vs) : LO G.K O' H a vs := ⟨r.1, r.2.1, fun z => r.2.2 (h a z)⟩
theorem TO.less {a : Addr} {vs : List V} (h : ∀ b ∈ O', b ∈ O) (r : TO G.K O H a vs) : TO G.K O' H a vs := by
  refine ⟨r.1, ?_⟩
  rcases r.2 with ⟨r, hn⟩ | r
  · exact .inl ⟨r, fun z => hn (h a z)⟩
  · exact .inr r
mutual
theorem Rp.step (w : Wf O W H) (s : Stp O W H O' W' H') : ∀ {d : D} {v : V}, Rp G O H d v → Rp G O' H' d v
  | .non, v, h => by simpa only [Rp] using h
  | .bl b, v, h => by simpa only [Rp] using h
  | .int i, v, h => by simpa only [Rp] using h
  | .str x, v, h => by simpa only [Rp] using h
  | .tup ds, v, h => by
    simp only [Rp] at h ⊢
    obtain ⟨a, vs, e, t, r⟩ := h
    exact ⟨a, vs, e, t.step w s, RpA.step w s r⟩
  | .lst ds, v, h => by
    simp only [Rp] at h ⊢
    obtain ⟨a, vs, e, t, r⟩ := h
    exact ⟨a, vs, e, t.step w s, RpA.step w s r⟩
  | .ins c fs, v, h => by
    simp only [Rp] at h ⊢
    obtain ⟨a, dx, gs, e, t, n, r⟩ := h
    exact ⟨a, dx, gs, e, (s.at w t n).1, (s.at w t n).2, RpF.step w s r⟩
  | .scr ns, v, h => by
    simp only [Rp] at h ⊢
    obtain ⟨a, e, t⟩ := h
    refine ⟨a, e, t.1, ?_⟩
    rcases t.2 with ⟨r | ⟨o, r⟩, hn⟩ | h
    · exact .inl ⟨.inl (s.at w r hn).1, (s.at w r hn).2⟩
    · exact .inl ⟨.inr ⟨o, (s.at w r hn).1⟩, (s.at w r hn).2⟩
    · exact .inr h
  | .dct kvs, v, h => by
    simp only [Rp] at h ⊢
    obtain ⟨a, gs, e, t, n, r⟩ := h
    exact ⟨a, gs, e, (s.at w t n).1, (s.at w t n).2, RpD.step w s r⟩
theorem RpA.step (w : Wf O W H) (s : Stp O W H O' W' H') : ∀ {ds : List D} {vs : List V}, RpA G O H ds vs → RpA G O' H' ds vs
  | [], vs, h => by simpa only [RpA] using h
  | d :: ds, vs, h => by
    simp only [RpA] at h ⊢
    obtain ⟨v, r, e, h1, h2⟩ := h
    exact ⟨v, r, e, Rp.step w s h1, RpA.step w s h2⟩
theorem RpF.step (w : Wf O W H) (s : Stp O W H O' W' H') : ∀ {ds : List (Str × D)} {vs : List (Str × V)}, RpF G O H ds vs → RpF G O' H' ds vs
  | [], vs, h => by simpa only [RpF] using h
  | (n, d) :: ds, vs, h => by
    simp only [RpF] at h ⊢
    obtain ⟨v, r, e, h1, h2⟩ := h
    exact ⟨v, r, e, Rp.step w s h1, RpF.step w s h2⟩
theorem RpD.step (w : Wf O W H) (s : Stp O W H O' W' H') : ∀ {ds : List (Int × D)} {vs : List (Key × V)}, RpD G O H ds vs → RpD G O' H' ds vs
  | [], vs, h => by simpa only [RpD] using h
  | (n, d) :: ds, vs, h => by
    simp only [RpD] at h ⊢
    obtain ⟨v, r, e, h1, h2⟩ := h
    exact ⟨v, r, e, Rp.step w s h1, RpD.step w s h2⟩
end
mutual
theorem Rp.less (h : ∀ b ∈ O', b ∈ O) : ∀ {d : D} {v : V}, Rp G O H d v → Rp G O' H d v
  | .non, v, q => by simpa only [Rp] using q
  | .bl b, v, q => by simpa only [Rp] using q
  | .int i, v, q => by simpa only [Rp] using q
  | .str x, v, q => by simpa only [Rp] using q
  | .tup ds, v, q => by
    simp only [Rp] at q ⊢
    obtain ⟨a, vs, e, t, r⟩ := q
    exact ⟨a, vs, e, t.less h, RpA.less h r⟩
  | .lst ds, v, q => by
    simp only [Rp] at q ⊢
    obtain ⟨a, vs, e, t, r⟩ := q
    exact ⟨a, vs, e, t.less h, RpA.less h r⟩
  | .ins c fs, v, q => by
    simp only [Rp] at q ⊢
    obtain ⟨a, dx, gs, e, t, n, r⟩ := q
    exact ⟨a, dx, gs, e, t, fun z => n (h a z), RpF.less h r⟩
  | .scr ns, v, q => by
    simp only [Rp] at q ⊢
    obtain ⟨a, e, t⟩ := q
    refine ⟨a, e, t.1, ?_⟩
    rcases t.2 with ⟨r, hn⟩ | r
    · exact .inl ⟨r, fun z => hn (h a z)⟩
    · exact .inr r
  | .dct kvs, v, q => by
    simp only [Rp] at q ⊢
    obtain ⟨a, gs, e, t, n, r⟩ := q
    exact ⟨a, gs, e, t, fun z => n (h a z), RpD.less h r⟩
theorem RpA.less (h : ∀ b ∈ O', b ∈ O) : ∀ {ds : List D} {vs : List V}, RpA G O H ds vs → RpA G O' H ds vs
  | [], vs, q => by simpa only [RpA] using q
  | d :: ds, vs, q => by
    simp only [RpA] at q ⊢
    obtain ⟨v, r, e, h1, h2⟩ := q
    exact ⟨v, r, e, Rp.less h h1, RpA.less h h2⟩
theorem RpF.less (h : ∀ b ∈ O', b ∈ O) : ∀ {ds : List (Str × D)} {vs : List (Str × V)}, RpF G O H ds vs → RpF G O' H ds vs
  | [], vs, q => by simpa only [RpF] using q
  | (n, d) :: ds, vs, q => by
    simp only [RpF] at q ⊢
    obtain ⟨v, r, e, h1, h2⟩ := q
    exact ⟨v, r, e, Rp.less h h1, RpF.less h h2⟩
theorem RpD.less (h : ∀ b ∈ O', b ∈ O) : ∀ {ds : List (Int × D)} {vs : List (Key × V)}, RpD G O H ds vs → RpD G O' H ds vs
  | [], vs, q => by simpa only [RpD] using q
  | (n, d) :: ds, vs, q => by
    simp only [RpD] at q ⊢
    obtain ⟨v, r, e, h1, h2⟩ := q
    exact ⟨v, r, e, Rp.less h h1, RpD.less h h2⟩
end
end
def OwnAt (G : Gx) (O W : List Addr) (H : Hp) (a : Addr) (xs : List D) : Prop :=
  a ∈ W ∧ ∃ vs, H a = some (.lst vs) ∧ vs.length ≤ sizeLine ∧ RpA G O H xs vs
def OwnD (G : Gx) (O W : List Addr) (H : Hp) (a : Addr) (kvs : List (Int × D)) : Prop :=
  a ∈ W ∧ ∃ gs, H a = some (.dK gs) ∧ RpD G O H kvs gs
mutual
/-- what is one's own; fp: the addresses of its lists -/
def OwT (G : Gx) (O W : List Addr) (H : Hp) : OT → V → List Addr → Prop
  | .dat d, v, fp => fp = [] ∧ Rp G O H d v
  | .lst ts, v, fp => ∃ a vs fs, v = .ref a ∧ fp = a :: fs ∧ a ∈ W ∧ a ∉ fs ∧ H a = some (.lst vs) ∧ vs.length ≤ sizeLine ∧ OwTs G O W H ts vs fs
  | .tup ts, v, fp => ∃ a vs, v = .ref a ∧ H a = some (.tup vs) ∧ a ∉ O ∧ vs.length ≤ sizeLine ∧ OwTs G O W H ts vs fp
def OwTs (G : Gx) (O W : List Addr) (H : Hp) : List OT → List V → List Addr → Prop
  | [], vs, fp => vs = [] ∧ fp = []
  | t :: ts, vs, fp => ∃ v r f g, vs = v :: r ∧ fp = f ++ g ∧ (∀ a ∈ f, a ∉ g) ∧ OwT G O W H t v f ∧ OwTs G O W H ts r g
end
def SlotR (G : Gx) (O W : List Addr) (H : Hp) (ov ov0 : Option V) : SD → Prop
  | .no => True
  | .sh d => ∃ v, ov = some v ∧ Rp G O H d v
  | .own xs => ∃ a, ov = some (.ref a) ∧ OwnAt G O W H a xs
  | .byr xs => ∃ a, ov = some (.ref a) ∧ ov0 = some (.ref a) ∧ OwnAt G O W H a xs
  | .xn c fs => ∃ a p gs, ov = some (.ref a) ∧ G.xof a = some (c, p) ∧ H p = some (.xd gs) ∧ p ∉ O ∧ RpF G O H fs gs
  | .gv => ov = ov0
  | .od kvs => ∃ a, ov = some (.ref a) ∧ OwnD G O W H a kvs
  | .ow _ => True
def SD.mine : SD → Bool
  | .own _ => true
  | .byr _ => true
  | .od _ => true
  | _ => false
structure KT (G : Gx) (O : List Addr) (H : Hp) : Prop where
  tc : KT0 G.tabs H
  k : ∀ q ∈ G.tabs.know, Rp G O H q.1 q.2
theorem KT.nil {G : Gx} {O : List Addr} {H : Hp} (h : G.tabs = {}) : KT G O H := ⟨by rw [h]; exact ⟨fun _ h => absurd h (by simp), fun _ h => absurd h (by simp)⟩, fun _ z => by rw [h] at z; exact absurd z (by simp)⟩
def OwS (G : Gx) (O W : List Addr) (σ : L2.St) (H : Hp) (ρ : List SD) : Prop := ∃ φ : Nat → List Addr,
  (∀ (i : Nat) (t : OT), ρ[i]? = some (.ow t) → ∃ v, σ[i]? = some (some v) ∧ OwT G O W H t v (φ i)) ∧
  (∀ (i j : Nat) (t u : OT) (a : Addr), ρ[i]? = some (.ow t) → ρ[j]? = some (.ow u) → a ∈ φ i → a ∈ φ j → i = j) ∧
  (∀ (i j : Nat) (t : OT) (s : SD) (a : Addr), ρ[i]? = some (.ow t) → ρ[j]? = some s → s.mine = true → σ[j]? = some (some (.ref a)) → a ∉ φ i)
structure Fre (G : Gx) (O W : List Addr) (σ : L2.St) (H : Hp) (ρ : List SD) (a : Addr) : Prop where
  m : ∀ (i : Nat) (s : SD), ρ[i]? = some s → s.mine = true → σ[i]? ≠ some (some (.ref a))
  t : ∀ (i : Nat) (u : OT) (v : V) (fp : List Addr), ρ[i]? = some (.ow u) → σ[i]? = some (some v) → OwT G O W H u v fp → a ∉ fp
structure SR (G : Gx) (vs0 : List V) (O W : List Addr) (σ : L2.St) (H : Hp) (ρ : List SD) : Prop where
  wf : Wf O W H
  len : σ.length = ρ.length
  slot : ∀ (i : Nat) (s : SD), ρ[i]? = some s → SlotR G O W H (σ[i]?.join) vs0[i]? s
  apart : ∀ (i j : Nat) (s t : SD) (a : Addr), ρ[i]? = some s → ρ[j]? = some t → s.mine = true → t.mine = true → σ[i]? = some (some (.ref a)) → σ[j]? = some (some (.ref a)) → i = j
  tabs : KT G O H
  ows : OwS G O W σ H ρ
def ResR (G : Gx) (O W : List Addr) (σ : L2.St) (H : Hp) (ρ : List SD) (v : V) : SD → Prop
  | .sh d => Rp G O H d v
  | .own xs => ∃ a, v = .ref a ∧ OwnAt G O W H a xs ∧ Fre G O W σ H ρ a
  | .od kvs => ∃ a, v = .ref a ∧ OwnD G O W H a kvs ∧ Fre G O W σ H ρ a
  | .ow t => ∃ fp, OwT G O W H t v fp ∧ ∀ a ∈ fp, Fre G O W σ H ρ a
  | _ => False
end Wm
end
section
namespace Wm
open PySem PySem.Spec PyProof.Rows L2
inductive Rs (α : Type) where
  | ok (a : α) | exc (c : Str) (fs : List (Str × D)) (ρ : List SD) | bad
def Rs.bind {α β : Type} : Rs α → (α → Rs β) → Rs β
  | .ok a, f => f a
  | .exc c fs ρ, _ => .exc c fs ρ
  | .bad, _ => .bad
theorem Rs.bind_ok {α β : Type} (a : α) (f : α → Rs β) : (Rs.ok a).bind f = f a := rfl
abbrev Sx := List SD → Rs (SD × List SD)
abbrev Sb := List SD → Rs (Bool × List SD)
abbrev So := List SD → Rs (List D × List SD)
inductive Fl where
  | nx (ρ : List SD) | rt (r : SD) (ρ : List SD) | bk (ρ : List SD) | ct (ρ : List SD)
abbrev Ss := List SD → Rs Fl
abbrev gx (X : Cx) (cl : Cl) : Gx := gk X.K cl
def ExcA (G : Gx) (vs0 : List V) (Wx : WX) (O W : List Addr) (σ : L2.St) (H : Hp) (c : Str) (fs : List (Str × D)) (ρ' : List SD) : Prop :=
  ∀ p gs O' W' H', Stp O W H O' W' H' → SR G vs0 O' W' σ H' ρ' → (H' p = some (.xd gs) ∧ p ∉ O') → RpF G O' H' fs gs → Wx (.ref (G.cls c)) (some p) σ H'
def AftE (G : Gx) (vs0 : List V) (Wx : WX) (O W : List Addr) (σ : L2.St) (H : Hp) (Q : VK) : Rs (SD × List SD) → Prop
  | .ok (r, ρ') => ∀ v O' W' H', Stp O W H O' W' H' → SR G vs0 O' W' σ H' ρ' → ResR G O' W' σ H' ρ' v r → Q v H'
  | .exc c fs ρ' => ExcA G vs0 Wx O W σ H c fs ρ'
  | .bad => False
def AftB (G : Gx) (vs0 : List V) (Wx : WX) (O W : List Addr) (σ : L2.St) (H : Hp) (Q : Bool → Hp → Prop) : Rs (Bool × List SD) → Prop
  | .ok (r, ρ') => ∀ O' W' H', Stp O W H O' W' H' → SR G vs0 O' W' σ H' ρ' → Q r H'
  | .exc c fs ρ' => ExcA G vs0 Wx O W σ H c fs ρ'
  | .bad => False
def Op1 (G : Gx) (O W : List Addr) (H : Hp) (d : D) (v : V) : Prop := Rp G O H d v ∨ ∃ a xs, d = .lst xs ∧ v = .ref a ∧ OwnAt G O W H a xs
def OpA (G : Gx) (O W : List Addr) (H : Hp) : List D → List V → Prop
  | [], vs => vs = []
  | d :: ds, vs => ∃ v r, vs = v :: r ∧ Op1 G O W H d v ∧ OpA G O W H ds r
def AftO (G : Gx) (vs0 : List V) (Wx : WX) (O W : List Addr) (σ : L2.St) (H : Hp) (Q : List V → Hp → Prop) : Rs (List D × List SD) → Prop
  | .ok (ds, ρ') => ∀ vs O' W' H', Stp O W H O' W' H' → SR G vs0 O' W' σ H' ρ' → OpA G O' W' H' ds vs → Q vs H'
  | .exc c fs ρ' => ExcA G vs0 Wx O W σ H c fs ρ'
  | .bad => False
structure EJ (X : Cx) (cl : Cl) (vs0 : List V) (Wx : WX) (e : Expr) (f : Sx) : Prop where
  ex : ∃ t, PE X e t ∧ ∀ O W σ H ρ Q, SR (gx X cl) vs0 O W σ H ρ → AftE (gx X cl) vs0 Wx O W σ H Q (f ρ) → t σ H Q
structure TJ (X : Cx) (cl : Cl) (vs0 : List V) (Wx : WX) (e : Expr) (f : Sb) : Prop where
  ex : ∃ t, PT X e t ∧ ∀ O W σ H ρ Q, SR (gx X cl) vs0 O W σ H ρ → AftB (gx X cl) vs0 Wx O W σ H Q (f ρ) → t σ H Q
section
variable {G : Gx} {vs0 : List V} {O W O' W' O1 W1 : List Addr} {σ : L2.St} {H H' H1 : Hp} {ρ ρ' : List SD} {Wx : WX}
theorem ExcA.back {c : Str} {fs : List (Str × D)} (w : Wf O W H) (s : Stp O W H O1 W1 H1) (h : ExcA G vs0 Wx O W σ H c fs ρ') : ExcA G vs0 Wx O1 W1 σ H1 c fs ρ' :=
  fun p gs O' W' H' s' r hp hf => h p gs O' W' H' (s.trans w s') r hp hf
theorem AftE.back {Q : VK} (w : Wf O W H) (s : Stp O W H O1 W1 H1) : ∀ {r : Rs (SD × List SD)}, AftE G vs0 Wx O W σ H Q r → AftE G vs0 Wx O1 W1 σ H1 Q r
  | .ok (_, _), h => fun v O' W' H' s' sr rr => h v O' W' H' (s.trans w s') sr rr
  | .exc _ _ _, h => ExcA.back w s h
  | .bad, h => h
theorem AftB.back {Q : Bool → Hp → Prop} (w : Wf O W H) (s : Stp O W H O1 W1 H1) : ∀ {r : Rs (Bool × List SD)}, AftB G vs0 Wx O W σ H Q r → AftB G vs0 Wx O1 W1 σ H1 Q r
  | .ok (_, _), h => fun O' W' H' s' sr => h O' W' H' (s.trans w s') sr
  | .exc _ _ _, h => ExcA.back w s h
  | .bad, h => h
theorem AftO.back {Q : List V → Hp → Prop} (w : Wf O W H) (s : Stp O W H O1 W1 H1) : ∀ {r : Rs (List D × List SD)}, AftO G vs0 Wx O W σ H Q r → AftO G vs0 Wx O1 W1 σ H1 Q r
  | .ok (_, _), h => fun v O' W' H' s' sr rr => h v O' W' H' (s.trans w s') sr rr
  | .exc _ _ _, h => ExcA.back w s h
  | .bad, h => h
theorem tabs_but {T : TC} {H H' : Hp} {p : Addr} {o : HO} (t : KT0 T H) (hp : H p = some o) (k : ∀ b u, b ≠ p → H b = some u → H' b = some u) (ht : ∀ ps, o ≠ .tbl ps := by intro _ z; cases z) (hx : ∀ f, o ≠ .ext f := by intro _ z; cases z) : KT0 T H' := ⟨fun q hq => by
  obtain ⟨ps, h1, h2, h3⟩ := t.t q hq
  refine ⟨ps, k _ _ (fun z => ?_) h1, h2, fun pos cv hc => ?_⟩
  · rw [z, hp] at h1; exact ht ps (Option.some.inj h1)
  · obtain ⟨c, e1, e2⟩ := h3 pos cv hc
    refine ⟨c, e1, k _ _ (fun z => ?_) e2⟩
    rw [z, hp] at e2; exact hx _ (Option.some.inj e2), fun q hq => k _ _ (fun z => hx _ (Option.some.inj (hp.symm.trans (by rw [← z]; exact t.c q hq)))) (t.c q hq)⟩
theorem noD_same {b : Addr} (h : Same H H') (n : ¬ NoD H b) : ¬ NoD H' b := fun z => n fun o e => z o (h b o e)
theorem Stp.same (h : Same H H') : Stp O W H O W H' := ⟨fun b o e _ _ => h b o e, fun _ h => .inl h, fun _ h => .inl h, fun b hb => noD_same h hb, fun _ h _ => h⟩
theorem Stp.new {a : Addr} (h : Same H H') (n : H a = none) : Stp O W H (a :: O) (a :: W) H' := ⟨fun b o e _ _ => h b o e, fun b hb => by
  rcases List.mem_cons.mp hb with e | e
  · right; rw [e]; exact noD_none n
  · exact .inl e, fun b hb => by
  rcases List.mem_cons.mp hb with e | e
  · right; rw [e]; exact noD_none n
  · exact .inl e, fun b hb => noD_same h hb, fun _ h _ => List.mem_cons_of_mem _ h⟩
theorem Wf.same (w : Wf O W H) (h : Same H H') : Wf O W H' := ⟨w.sub, fun b hb => noD_same h (w.trk b hb)⟩
theorem Wf.new {a : Addr} (w : Wf O W H) (h : Same H H') (n : ¬ NoD H' a) : Wf (a :: O) (a :: W) H' := ⟨fun b hb => by
  rcases List.mem_cons.mp hb with e | e
  · rw [e]; exact List.mem_cons_self
  · exact List.mem_cons_of_mem _ (w.sub b e), fun b hb => by
  rcases List.mem_cons.mp hb with e | e
  · rw [e]; exact n
  · exact (w.same h).trk b e⟩
theorem OwnAt.step {a : Addr} {xs : List D} (w : Wf O W H) (s : Stp O W H O' W' H') (hw : ∀ b ∈ W, b ∈ W') (hk : ∀ b o, b ∈ W → H b = some o → H' b = some o) (h : OwnAt G O W H a xs) : OwnAt G O' W' H' a xs := by
  obtain ⟨h1, vs, h2, h3, h4⟩ := h
  exact ⟨hw a h1, vs, hk a _ h1 h2, h3, RpA.step w s h4⟩
mutual
theorem OwT.go {U W1 : List Addr} (w : Wf O U H) (s : Stp O U H O' W1 H') : ∀ {t : OT} {v : V} {fp : List Addr}, OwT G O W H t v fp → (∀ b ∈ fp, b ∈ W' ∧ ∀ vs, H b = some (.lst vs) → H' b = some (.lst vs)) → OwT G O' W' H' t v fp
  | .dat d, v, fp, h, _ => by
    simp only [OwT] at h ⊢
    exact ⟨h.1, h.2.step w s⟩
  | .lst ts, v, fp, h, k => by
    simp only [OwT] at h ⊢
    obtain ⟨a, vs, fs, e, ef, h1, h2, h3, h4, h5⟩ := h
    subst ef
    exact ⟨a, vs, fs, e, rfl, (k a (by simp)).1, h2, (k a (by simp)).2 _ h3, h4, OwTs.go w s h5 fun b hb => k b (List.mem_cons_of_mem _ hb)⟩
  | .tup ts, v, fp, h, k => by
    simp only [OwT] at h ⊢
    obtain ⟨a, vs, e, h3, h1, h4, h5⟩ := h
    exact ⟨a, vs, e, (s.at w h3 h1).1, (s.at w h3 h1).2, h4, OwTs.go w s h5 k⟩
theorem OwTs.go {U W1 : List Addr} (w : Wf O U H) (s : Stp O U H O' W1 H') : ∀ {ts : List OT} {vs : List V} {fp : List Addr}, OwTs G O W H ts vs fp → (∀ b ∈ fp, b ∈ W' ∧ ∀ vs, H b = some (.lst vs) → H' b = some (.lst vs)) → OwTs G O' W' H' ts vs fp
  | [], vs, fp, h, _ => by simpa only [OwTs] using h
  | t :: ts, vs, fp, h, k => by
    simp only [OwTs] at h ⊢
    obtain ⟨v, r, f, g, e, ef, h1, h2, h3⟩ := h
    subst ef
    exact ⟨v, r, f, g, e, rfl, h1, OwT.go w s h2 fun b hb => k b (List.mem_append.mpr (.inl hb)), OwTs.go w s h3 fun b hb => k b (List.mem_append.mpr (.inr hb))⟩
end
mutual
theorem OwT.less (hO : ∀ b ∈ O', b ∈ O) : ∀ {t : OT} {v : V} {fp : List Addr}, OwT G O W H t v fp → (∀ b ∈ fp, b ∈ W') → OwT G O' W' H t v fp
  | .dat d, v, fp, h, _ => by
    simp only [OwT] at h ⊢
    exact ⟨h.1, h.2.less hO⟩
  | .lst ts, v, fp, h, k => by
    simp only [OwT] at h ⊢
    obtain ⟨a, vs, fs, e, ef, h1, h2, h3, h4, h5⟩ := h
    subst ef
    exact ⟨a, vs, fs, e, rfl, k a (by simp), h2, h3, h4, OwTs.less hO h5 fun b hb => k b (List.mem_cons_of_mem _ hb)⟩
  | .tup ts, v, fp, h, k => by
    simp only [OwT] at h ⊢
    obtain ⟨a, vs, e, h3, h1, h4, h5⟩ := h
    exact ⟨a, vs, e, h3, fun z => h1 (hO a z), h4, OwTs.less hO h5 k⟩
theorem OwTs.less (hO : ∀ b ∈ O', b ∈ O) : ∀ {ts : List OT} {vs : List V} {fp : List Addr}, OwTs G O W H ts vs fp → (∀ b ∈ fp, b ∈ W') → OwTs G O' W' H ts vs fp
  | [], vs, fp, h, _ => by simpa only [OwTs] using h
  | t :: ts, vs, fp, h, k => by
    simp only [OwTs] at h ⊢
    obtain ⟨v, r, f, g, e, ef, h1, h2, h3⟩ := h
    subst ef
    exact ⟨v, r, f, g, e, rfl, h1, OwT.less hO h2 fun b hb => k b (List.mem_append.mpr (.inl hb)), OwTs.less hO h3 fun b hb => k b (List.mem_append.mpr (.inr hb))⟩
end
mutual
theorem OwT.sub : ∀ {t : OT} {v : V} {fp : List Addr}, OwT G O W H t v fp → ∀ b ∈ fp, b ∈ W
  | .dat d, v, fp, h, b, hb => by
    simp only [OwT] at h
    rw [h.1] at hb; cases hb
  | .lst ts, v, fp, h, b, hb => by
    simp only [OwT] at h
    obtain ⟨a, vs, fs, e, ef, h1, h2, h3, h4, h5⟩ := h
    subst ef
    rcases List.mem_cons.mp hb with z | z
    · rw [z]; exact h1
    · exact OwTs.sub h5 b z
  | .tup ts, v, fp, h, b, hb => by
    simp only [OwT] at h
    obtain ⟨a, vs, e, h3, h1, h4, h5⟩ := h
    exact OwTs.sub h5 b hb
theorem OwTs.sub : ∀ {ts : List OT} {vs : List V} {fp : List Addr}, OwTs G O W H ts vs fp → ∀ b ∈ fp, b ∈ W
  | [], vs, fp, h, b, hb => by
    simp only [OwTs] at h
    rw [h.2] at hb; cases hb
  | t :: ts, vs, fp, h, b, hb => by
    simp only [OwTs] at h
    obtain ⟨v, r, f, g, e, ef, h1, h2, h3⟩ := h
    subst ef
    rcases List.mem_append.mp hb with z | z
    · exact OwT.sub h2 b z
    · exact OwTs.sub h3 b z
end
mutual
theorem OwT.det : ∀ {t : OT} {v : V} {f f' : List Addr}, OwT G O W H t v f → OwT G O' W' H t v f' → f = f'
  | .dat d, v, f, f', h, h' => by
    simp only [OwT] at h h'
    rw [h.1, h'.1]
  | .lst ts, v, f, f', h, h' => by
    simp only [OwT] at h h'
    obtain ⟨a, vs, fs, e, ef, h1, h2, h3, h4, h5⟩ := h
    obtain ⟨a', vs', fs', e', ef', h1', h2', h3', h4', h5'⟩ := h'
    rw [e] at e'; cases e'
    rw [h3] at h3'; cases h3'
    rw [ef, ef', OwTs.det h5 h5']
  | .tup ts, v, f, f', h, h' => by
    simp only [OwT] at h h'
    obtain ⟨a, vs, e, h3, h1, h4, h5⟩ := h
    obtain ⟨a', vs', e', h3', h1', h4', h5'⟩ := h'
    rw [e] at e'; cases e'
    rw [h3] at h3'; cases h3'
    exact OwTs.det h5 h5'
theorem OwTs.det : ∀ {ts : List OT} {vs : List V} {f f' : List Addr}, OwTs G O W H ts vs f → OwTs G O' W' H ts vs f' → f = f'
  | [], vs, f, f', h, h' => by
    simp only [OwTs] at h h'
    rw [h.2, h'.2]
  | t :: ts, vs, f, f', h, h' => by
    simp only [OwTs] at h h'
    obtain ⟨v, r, f1, g1, e, ef, h1, h2, h3⟩ := h
    obtain ⟨v', r', f2, g2, e', ef', h1', h2', h3'⟩ := h'
    rw [e] at e'; cases e'
    rw [ef, ef', OwT.det h2 h2', OwTs.det h3 h3']
end
theorem OwS.nil (h : ∀ (i : Nat) (t : OT), ρ[i]? ≠ some (.ow t)) : OwS G O W σ H ρ := ⟨fun _ => [], fun i t e => absurd e (h i t), fun i _ t _ _ e => absurd e (h i t), fun i _ t _ _ e => absurd e (h i t)⟩
theorem OwS.go (h : OwS G O W σ H ρ) (w : Wf O W H) (s : Stp O W H O' W' H')
    (k : ∀ (i : Nat) (t : OT) (v : V) (fp : List Addr) (b : Addr), ρ[i]? = some (.ow t) → σ[i]? = some (some v) → OwT G O W H t v fp → b ∈ fp → b ∈ W' ∧ ∀ vs, H b = some (.lst vs) → H' b = some (.lst vs)) : OwS G O' W' σ H' ρ := by
  obtain ⟨φ, h1, h2, h3⟩ := h
  refine ⟨φ, fun i t e => ?_, h2, h3⟩
  obtain ⟨v, ev, o⟩ := h1 i t e
  exact ⟨v, ev, o.go w s fun b hb => k i t v _ b e ev o hb⟩
theorem OwS.step (h : OwS G O W σ H ρ) (w : Wf O W H) (s : Stp O W H O' W' H') (hw : ∀ b ∈ W, b ∈ W') (hk : ∀ b o, b ∈ W → H b = some o → H' b = some o) : OwS G O' W' σ H' ρ :=
  h.go w s fun _ _ _ _ b _ _ o hb => ⟨hw b (o.sub b hb), fun x e => hk b _ (o.sub b hb) e⟩
theorem OwS.less (h : OwS G O W σ H ρ) (hO : ∀ b ∈ O', b ∈ O) (k : ∀ (i : Nat) (t : OT) (v : V) (fp : List Addr) (b : Addr), ρ[i]? = some (.ow t) → σ[i]? = some (some v) → OwT G O W H t v fp → b ∈ fp → b ∈ W') : OwS G O' W' σ H ρ := by
  obtain ⟨φ, h1, h2, h3⟩ := h
  refine ⟨φ, fun i t e => ?_, h2, h3⟩
  obtain ⟨v, ev, o⟩ := h1 i t e
  exact ⟨v, ev, o.less hO fun b hb => k i t v _ b e ev o hb⟩
theorem OwS.map (h : OwS G O W σ H ρ) (k : ∀ (i : Nat) (t : OT) (v : V) (fp : List Addr), ρ[i]? = some (.ow t) → σ[i]? = some (some v) → OwT G O W H t v fp → OwT G O' W' H' t v fp) : OwS G O' W' σ H' ρ := by
  obtain ⟨φ, h1, h2, h3⟩ := h
  refine ⟨φ, fun i t e => ?_, h2, h3⟩
  obtain ⟨v, ev, o⟩ := h1 i t e
  exact ⟨v, ev, k i t v _ e ev o⟩
theorem OwS.mono {σ' : L2.St} (h : OwS G O W σ H ρ) (ho : ∀ (i : Nat) (t : OT), ρ'[i]? = some (.ow t) → ρ[i]? = some (.ow t) ∧ σ'[i]? = σ[i]?)
    (hm : ∀ (j : Nat) (s : SD) (a : Addr), ρ'[j]? = some s → s.mine = true → σ'[j]? = some (some (.ref a)) → (∃ s0, ρ[j]? = some s0 ∧ s0.mine = true ∧ σ[j]? = some (some (.ref a))) ∨ Fre G O W σ H ρ a) : OwS G O W σ' H ρ' := by
  obtain ⟨φ, h1, h2, h3⟩ := h
  refine ⟨φ, fun i t e => ?_, fun i j t u a e1 e2 => h2 i j t u a (ho i t e1).1 (ho j u e2).1, fun i j t s a e1 e2 m z hb => ?_⟩
  · rw [(ho i t e).2]; exact h1 i t (ho i t e).1
  · rcases hm j s a e2 m z with ⟨s0, q1, q2, q3⟩ | q
    · exact h3 i j t s0 a (ho i t e1).1 q1 q2 q3 hb
    · obtain ⟨v, ev, o⟩ := h1 i t (ho i t e1).1
      exact q.t i t v _ (ho i t e1).1 ev o hb
theorem OwS.reix {σ' : L2.St} (h : OwS G O W σ H ρ) (R : Nat → Nat → Prop) (inj : ∀ i i' j, R i j → R i' j → i = i')
    (k : ∀ (i : Nat) (s : SD), ρ'[i]? = some s → (s.mine = true ∨ ∃ t, s = .ow t) → ∃ j, R i j ∧ ρ[j]? = some s ∧ σ'[i]? = σ[j]?) : OwS G O W σ' H ρ' := by
  obtain ⟨φ, h1, h2, h3⟩ := h
  have : ∀ i, ∃ j, ∀ t, ρ'[i]? = some (.ow t) → R i j ∧ ρ[j]? = some (.ow t) ∧ σ'[i]? = σ[j]? := fun i => by
    cases e : ρ'[i]? with
    | none => exact ⟨0, fun t z => by cases z⟩
    | some s =>
      by_cases hs : ∃ t, s = .ow t
      · obtain ⟨t, rfl⟩ := hs
        obtain ⟨j, q⟩ := k i _ e (.inr ⟨t, rfl⟩)
        exact ⟨j, fun t' z => by cases z; exact q⟩
      · exact ⟨0, fun t z => by cases z; exact absurd ⟨t, rfl⟩ hs⟩
  obtain ⟨g, hg⟩ := Classical.skolem.mp this
  refine ⟨fun i => φ (g i), fun i t e => ?_, fun i j t u a e1 e2 m1 m2 => ?_, fun i j t s a e1 e2 m z => ?_⟩
  · obtain ⟨_, q2, q3⟩ := hg i t e
    rw [q3]; exact h1 _ t q2
  · obtain ⟨p1, p2, _⟩ := hg i t e1
    obtain ⟨q1, q2, _⟩ := hg j u e2
    have := h2 _ _ t u a p2 q2 m1 m2
    rw [this] at p1
    exact inj i j _ p1 q1
  · obtain ⟨p1, p2, _⟩ := hg i t e1
    obtain ⟨j', r1, r2, r3⟩ := k j s e2 (.inl m)
    rw [r3] at z
    exact h3 _ j' t s a p2 r2 m z
theorem OwS.gone {i : Nat} (h : OwS G O W σ H ρ) : OwS G O W (σ.set i none) H (ρ.set i .no) := by
  have inb : ∀ {k : Nat} {t : SD}, (ρ.set i .no)[k]? = some t → k < ρ.length := fun {k t} e => by
    have := (List.getElem?_eq_some_iff.mp e).1
    rw [List.length_set] at this
    exact this
  refine h.mono (fun j t e => ?_) fun j u a e m z => ?_
  · by_cases hj : i = j
    · subst hj
      rw [List.getElem?_set_self (inb e)] at e; cases e
    · rw [List.getElem?_set_ne hj] at e
      rw [List.getElem?_set_ne hj]
      exact ⟨e, rfl⟩
  · by_cases hj : i = j
    · subst hj
      rw [List.getElem?_set_self (inb e)] at e; cases e; cases m
    · rw [List.getElem?_set_ne hj] at e z
      exact .inl ⟨u, e, m, z⟩
theorem OwS.putT {i : Nat} {u : OT} {v : V} {fp : List Addr} (hl : ρ.length = σ.length) (h : OwS G O W σ H ρ) (o : OwT G O W H u v fp) (f : ∀ a ∈ fp, Fre G O W σ H ρ a) : OwS G O W (σ.set i (some v)) H (ρ.set i (.ow u)) := by
  obtain ⟨φ, h1, h2, h3⟩ := h
  have inb : ∀ {k : Nat} {t : SD}, (ρ.set i (.ow u))[k]? = some t → k < σ.length := fun {k t} e => by
    have := (List.getElem?_eq_some_iff.mp e).1
    rw [List.length_set] at this
    omega
  obtain ⟨ψ, w1, w2⟩ : ∃ ψ : Nat → List Addr, ψ i = fp ∧ ∀ j, i ≠ j → ψ j = φ j := ⟨fun j => if j = i then fp else φ j, if_pos rfl, fun j z => if_neg fun y => z y.symm⟩
  refine ⟨ψ, fun j t e => ?_, fun j k t t' a e1 e2 m1 m2 => ?_, fun j k t s a e1 e2 m z hb => ?_⟩
  · by_cases hj : i = j
    · subst hj
      have q := inb e
      rw [List.getElem?_set_self (by rw [hl]; exact q)] at e; cases e
      rw [w1]
      exact ⟨v, List.getElem?_set_self q, o⟩
    · rw [List.getElem?_set_ne hj] at e
      rw [List.getElem?_set_ne hj, w2 j hj]
      exact h1 j t e
  · by_cases hj : i = j
    · by_cases hk : i = k
      · rw [← hj, ← hk]
      · rw [← hj, w1] at m1
        rw [w2 k hk] at m2
        rw [List.getElem?_set_ne hk] at e2
        obtain ⟨w, ev, ow⟩ := h1 k t' e2
        exact absurd m2 ((f a m1).t k t' w _ e2 ev ow)
    · by_cases hk : i = k
      · rw [w2 j hj] at m1
        rw [← hk, w1] at m2
        rw [List.getElem?_set_ne hj] at e1
        obtain ⟨w, ev, ow⟩ := h1 j t e1
        exact absurd m1 ((f a m2).t j t w _ e1 ev ow)
      · rw [w2 j hj] at m1
        rw [w2 k hk] at m2
        rw [List.getElem?_set_ne hj] at e1
        rw [List.getElem?_set_ne hk] at e2
        exact h2 j k t t' a e1 e2 m1 m2
  · have nk : i ≠ k := fun y => by
      subst y
      rw [List.getElem?_set_self (by rw [hl]; exact inb e2)] at e2; cases e2; cases m
    rw [List.getElem?_set_ne nk] at e2 z
    by_cases hj : i = j
    · rw [← hj, w1] at hb
      exact (f a hb).m k s e2 m z
    · rw [w2 j hj] at hb
      rw [List.getElem?_set_ne hj] at e1
      exact h3 j k t s a e1 e2 m z hb
theorem SlotR.step {ov ov0 : Option V} {s : SD} (w : Wf O W H) (st : Stp O W H O' W' H') (hw : ∀ b ∈ W, b ∈ W') (hk : ∀ b o, b ∈ W → H b = some o → H' b = some o) (h : SlotR G O W H ov ov0 s) : SlotR G O' W' H' ov ov0 s := by
  cases s with
  | no => trivial
  | sh d => obtain ⟨v, e, r⟩ := h; exact ⟨v, e, r.step w st⟩
  | own xs => obtain ⟨a, e, r⟩ := h; exact ⟨a, e, r.step w st hw hk⟩
  | byr xs => obtain ⟨a, e, e0, r⟩ := h; exact ⟨a, e, e0, r.step w st hw hk⟩
  | xn c fs => obtain ⟨a, p, gs, e, x, t, n, r⟩ := h; exact ⟨a, p, gs, e, x, (st.at w t n).1, (st.at w t n).2, RpF.step w st r⟩
  | gv => exact h
  | od kvs => obtain ⟨a, e, h1, gs, h2, h4⟩ := h; exact ⟨a, e, hw a h1, gs, hk a _ h1 h2, RpD.step w st h4⟩
  | ow _ => trivial
theorem SR.step (r : SR G vs0 O W σ H ρ) (w' : Wf O' W' H') (st : Stp O W H O' W' H') (hw : ∀ b ∈ W, b ∈ W') (hk : ∀ b o, b ∈ W → H b = some o → H' b = some o) (tb : KT0 G.tabs H') : SR G vs0 O' W' σ H' ρ :=
  ⟨w', r.len, fun i s e => (r.slot i s e).step r.wf st hw hk, r.apart, ⟨tb, fun q hq => (r.tabs.k q hq).step r.wf st⟩, r.ows.step r.wf st hw hk⟩
theorem SR.same (r : SR G vs0 O W σ H ρ) (h : Same H H') : SR G vs0 O W σ H' ρ := r.step (r.wf.same h) (Stp.same h) (fun _ h => h) (fun b o _ e => h b o e) (r.tabs.tc.ext h)
theorem SR.new {a : Addr} (r : SR G vs0 O W σ H ρ) (h : Same H H') (n : H a = none) (n' : ¬ NoD H' a) : SR G vs0 (a :: O) (a :: W) σ H' ρ :=
  r.step (r.wf.new h n') (Stp.new h n) (fun _ h => List.mem_cons_of_mem _ h) (fun b o _ e => h b o e) (r.tabs.tc.ext h)
abbrev off (a : Addr) (l : List Addr) : List Addr := l.filter fun b => decide (b ≠ a)
theorem mem_off {a b : Addr} {l : List Addr} : b ∈ off a l ↔ b ∈ l ∧ b ≠ a := by simp [off]
theorem Stp.off {a : Addr} (ha : a ∈ W) : Stp O W H (off a O) (off a W) H :=
  ⟨fun _ _ h _ _ => h, fun b hb => .inl (mem_off.mp hb).1, fun b hb => .inl (mem_off.mp hb).1, fun _ h => h, fun b hb hn => mem_off.mpr ⟨hb, fun e => hn (e ▸ ha)⟩⟩
theorem Wf.off {a : Addr} (w : Wf O W H) : Wf (off a O) (off a W) H :=
  ⟨fun b hb => mem_off.mpr ⟨w.sub b (mem_off.mp hb).1, (mem_off.mp hb).2⟩, fun b hb => w.trk b (mem_off.mp hb).1⟩
theorem less_off {a : Addr} : ∀ b ∈ off a O, b ∈ O := fun b hb => (mem_off.mp hb).1
theorem OwnAt.off {a b : Addr} {xs : List D} (h : OwnAt G O W H b xs) (hn : b ≠ a) : OwnAt G (off a O) (off a W) H b xs := by
  obtain ⟨h1, vs, h2, h3, h4⟩ := h
  exact ⟨mem_off.mpr ⟨h1, hn⟩, vs, h2, h3, h4.less less_off⟩
theorem OwnAt.data {a : Addr} {xs : List D} (h : OwnAt G O W H a xs) : Rp G (Wm.off a O) H (.lst xs) (.ref a) := by
  obtain ⟨h1, vs, h2, h3, h4⟩ := h
  simp only [Rp]
  exact ⟨a, vs, rfl, ⟨h3, h2, fun z => (mem_off.mp z).2 rfl⟩, h4.less less_off⟩
theorem SR.off {a : Addr} (r : SR G vs0 O W σ H ρ) (hn : Fre G O W σ H ρ a) : SR G vs0 (off a O) (off a W) σ H ρ := by
  refine ⟨r.wf.off, r.len, fun i s e => ?_, r.apart, ⟨r.tabs.tc, fun q hq => (r.tabs.k q hq).less less_off⟩, r.ows.less less_off fun i t v fp b e ev o hb => mem_off.mpr ⟨o.sub b hb, fun z => hn.t i t v fp e ev o (z ▸ hb)⟩⟩
  have q := r.slot i s e
  have nn := hn.m i s e
  cases s with
  | no => trivial
  | sh d => obtain ⟨v, e, r⟩ := q; exact ⟨v, e, r.less less_off⟩
  | own xs =>
    obtain ⟨b, e, r⟩ := q
    refine ⟨b, e, r.off fun z => nn rfl ?_⟩
    subst z
    cases hh : σ[i]? with
    | none => rw [hh] at e; cases e
    | some o => rw [hh] at e; exact congrArg some e
  | byr xs =>
    obtain ⟨b, e, e0, r⟩ := q
    refine ⟨b, e, e0, r.off fun z => nn rfl ?_⟩
    subst z
    cases hh : σ[i]? with
    | none => rw [hh] at e; cases e
    | some o => rw [hh] at e; exact congrArg some e
  | xn c fs => obtain ⟨b, p, gs, e, x, t, n, r⟩ := q; exact ⟨b, p, gs, e, x, t, fun z => n (less_off p z), RpF.less less_off r⟩
  | gv => exact q
  | od kvs =>
    obtain ⟨b, e, h1, gs, h2, h4⟩ := q
    refine ⟨b, e, mem_off.mpr ⟨h1, fun z => nn rfl ?_⟩, gs, h2, RpD.less less_off h4⟩
    subst z
    cases hh : σ[i]? with
    | none => rw [hh] at e; cases e
    | some o => rw [hh] at e; exact congrArg some e
  | ow _ => trivial
abbrev offl (fp l : List Addr) : List Addr := l.filter fun b => decide (b ∉ fp)
theorem mem_offl {fp l : List Addr} {b : Addr} : b ∈ offl fp l ↔ b ∈ l ∧ b ∉ fp := by simp [offl]
theorem less_offl {fp : List Addr} : ∀ b ∈ offl fp O, b ∈ O := fun b hb => (mem_offl.mp hb).1
theorem Stp.offl {fp : List Addr} (ha : ∀ b ∈ fp, b ∈ W) : Stp O W H (offl fp O) (offl fp W) H :=
  ⟨fun _ _ h _ _ => h, fun b hb => .inl (mem_offl.mp hb).1, fun b hb => .inl (mem_offl.mp hb).1, fun _ h => h, fun b hb hn => mem_offl.mpr ⟨hb, fun e => hn (ha b e)⟩⟩
theorem SR.offl {fp : List Addr} (r : SR G vs0 O W σ H ρ) (hn : ∀ a ∈ fp, Fre G O W σ H ρ a) : SR G vs0 (Wm.offl fp O) (Wm.offl fp W) σ H ρ := by
  refine ⟨⟨fun b hb => mem_offl.mpr ⟨r.wf.sub b (mem_offl.mp hb).1, (mem_offl.mp hb).2⟩, fun b hb => r.wf.trk b (mem_offl.mp hb).1⟩, r.len, fun i s e => ?_, r.apart, ⟨r.tabs.tc, fun q hq => (r.tabs.k q hq).less less_offl⟩, r.ows.less less_offl fun i t v fp' b e ev o hb => mem_offl.mpr ⟨o.sub b hb, fun z => (hn b z).t i t v fp' e ev o hb⟩⟩
  have q := r.slot i s e
  have nn : ∀ b, s.mine = true → (σ[i]?).join = some (.ref b) → b ∉ fp := fun b m w z => (hn b z).m i s e m (by
    cases hh : σ[i]? with
    | none => rw [hh] at w; cases w
    | some o => rw [hh] at w; exact congrArg some w)
  cases s with
  | no => trivial
  | sh d => obtain ⟨v, e, r⟩ := q; exact ⟨v, e, r.less less_offl⟩
  | own xs =>
    obtain ⟨b, e, h1, vs, h2, h3, h4⟩ := q
    exact ⟨b, e, mem_offl.mpr ⟨h1, nn b rfl e⟩, vs, h2, h3, RpA.less less_offl h4⟩
  | byr xs =>
    obtain ⟨b, e, e0, h1, vs, h2, h3, h4⟩ := q
    exact ⟨b, e, e0, mem_offl.mpr ⟨h1, nn b rfl e⟩, vs, h2, h3, RpA.less less_offl h4⟩
  | xn c fs => obtain ⟨b, p, gs, e, x, t, n, r⟩ := q; exact ⟨b, p, gs, e, x, t, fun z => n (less_offl p z), RpF.less less_offl r⟩
  | gv => exact q
  | od kvs =>
    obtain ⟨b, e, h1, gs, h2, h4⟩ := q
    exact ⟨b, e, mem_offl.mpr ⟨h1, nn b rfl e⟩, gs, h2, RpD.less less_offl h4⟩
  | ow _ => trivial
mutual
/-- what it is as data -/
def OT.dt : OT → D
  | .dat d => d
  | .lst ts => .lst (OT.dts ts)
  | .tup ts => .tup (OT.dts ts)
def OT.dts : List OT → List D
  | [] => []
  | t :: ts => t.dt :: OT.dts ts
end
mutual
theorem OwT.rp (hO : ∀ b ∈ O', b ∈ O) : ∀ {t : OT} {v : V} {fp : List Addr}, OwT G O W H t v fp → (∀ b ∈ fp, b ∉ O') → Rp G O' H t.dt v
  | .dat d, v, fp, h, _ => by
    simp only [OwT] at h
    simp only [OT.dt]
    exact h.2.less hO
  | .lst ts, v, fp, h, k => by
    simp only [OwT] at h
    obtain ⟨a, vs, fs, e, ef, h1, h2, h3, h4, h5⟩ := h
    subst ef
    simp only [OT.dt, Rp]
    exact ⟨a, vs, e, ⟨h4, h3, k a (by simp)⟩, OwTs.rp hO h5 fun b hb => k b (List.mem_cons_of_mem _ hb)⟩
  | .tup ts, v, fp, h, k => by
    simp only [OwT] at h
    obtain ⟨a, vs, e, h3, h1, h4, h5⟩ := h
    simp only [OT.dt, Rp]
    exact ⟨a, vs, e, ⟨h4, .inl ⟨.inl h3, fun z => h1 (hO a z)⟩⟩, OwTs.rp hO h5 k⟩
theorem OwTs.rp (hO : ∀ b ∈ O', b ∈ O) : ∀ {ts : List OT} {vs : List V} {fp : List Addr}, OwTs G O W H ts vs fp → (∀ b ∈ fp, b ∉ O') → RpA G O' H (OT.dts ts) vs
  | [], vs, fp, h, _ => by
    simp only [OwTs] at h
    simp only [OT.dts, RpA]
    exact h.1
  | t :: ts, vs, fp, h, k => by
    simp only [OwTs] at h
    obtain ⟨v, r, f, g, e, ef, h1, h2, h3⟩ := h
    subst ef
    simp only [OT.dts, RpA]
    exact ⟨v, r, e, OwT.rp hO h2 fun b hb => k b (List.mem_append.mpr (.inl hb)), OwTs.rp hO h3 fun b hb => k b (List.mem_append.mpr (.inr hb))⟩
end
def SD.frz : SD → D
  | .sh d => d
  | .own xs => .lst xs
  | .byr xs => .lst xs
  | .no => .non
  | .xn _ _ => .non
  | .gv => .non
  | .od kvs => .dct kvs
  | .ow t => t.dt
theorem ResR.frz {v : V} {r : SD} (sr : SR G vs0 O W σ H ρ) (h : ResR G O W σ H ρ v r) : ∃ O' W', Stp O W H O' W' H ∧ SR G vs0 O' W' σ H ρ ∧ Rp G O' H r.frz v := by
  cases r with
  | no => exact h.elim
  | byr xs => exact h.elim
  | xn _ _ => exact h.elim
  | gv => exact h.elim
  | od kvs =>
    obtain ⟨a, e, ⟨h1, gs, h2, h4⟩, n⟩ := h
    subst e
    refine ⟨off a O, off a W, Stp.off h1, sr.off n, ?_⟩
    simp only [SD.frz, Rp]
    exact ⟨a, gs, rfl, h2, fun z => (mem_off.mp z).2 rfl, RpD.less less_off h4⟩
  | ow t =>
    obtain ⟨fp, o, n⟩ := h
    exact ⟨offl fp O, offl fp W, Stp.offl o.sub, sr.offl n, o.rp less_offl fun b hb z => (mem_offl.mp z).2 hb⟩
  | sh d => exact ⟨O, W, Stp.refl, sr, h⟩
  | own xs =>
    obtain ⟨a, e, o, n⟩ := h
    subst e
    exact ⟨off a O, off a W, Stp.off o.1, sr.off n, o.data⟩
theorem join_some {o : Option (Option V)} {v : V} (h : o.join = some v) : o = some (some v) := by
  cases o with
  | none => cases h
  | some o => exact congrArg some h
theorem SR.get {i : Nat} {d : D} (r : SR G vs0 O W σ H ρ) (h : ρ[i]? = some (.sh d)) : ∃ v, σ[i]? = some (some v) ∧ Rp G O H d v := by
  obtain ⟨v, e, q⟩ := r.slot i _ h
  exact ⟨v, join_some e, q⟩
theorem SR.getOwn {i : Nat} {s : SD} {xs : List D} (r : SR G vs0 O W σ H ρ) (h : ρ[i]? = some s) (hs : s = .own xs ∨ s = .byr xs) : ∃ a, σ[i]? = some (some (.ref a)) ∧ OwnAt G O W H a xs := by
  rcases hs with rfl | rfl
  · obtain ⟨a, e, q⟩ := r.slot i _ h
    exact ⟨a, join_some e, q⟩
  · obtain ⟨a, e, _, q⟩ := r.slot i _ h
    exact ⟨a, join_some e, q⟩
theorem SR.mineW {i : Nat} {s : SD} (r : SR G vs0 O W σ H ρ) (h : ρ[i]? = some s) (m : s.mine = true) : ∃ a, σ[i]? = some (some (.ref a)) ∧ a ∈ W := by
  have q := r.slot i _ h
  cases s with
  | own xs => obtain ⟨a, e, q⟩ := q; exact ⟨a, join_some e, q.1⟩
  | byr xs => obtain ⟨a, e, _, q⟩ := q; exact ⟨a, join_some e, q.1⟩
  | od kvs => obtain ⟨a, e, q⟩ := q; exact ⟨a, join_some e, q.1⟩
  | ow _ => cases m
  | xn _ _ => cases m
  | gv => cases m
  | no => cases m
  | sh d => cases m
theorem OwS.write {i : Nat} {s0 s1 : SD} {a : Addr} {o' : HO} (h : OwS G O W σ H ρ) (w : Wf O W H) (st : Stp O W H O W (upd H a o')) (e0 : ρ[i]? = some s0) (m0 : s0.mine = true) (ea : σ[i]? = some (some (.ref a))) (hs : ∀ t, s1 ≠ .ow t) : OwS G O W σ (upd H a o') (ρ.set i s1) := by
  have h1 : OwS G O W σ (upd H a o') ρ := h.go w st fun j t v fp b e ev o hb => ⟨o.sub b hb, fun vs eb => by
    obtain ⟨φ, h1, _, h3⟩ := h
    obtain ⟨v', ev', o'⟩ := h1 j t e
    rw [ev] at ev'; cases ev'
    have : b ≠ a := fun z => h3 j i t s0 a e e0 m0 ea (OwT.det o o' ▸ z ▸ hb)
    rw [upd_ne this]; exact eb⟩
  refine h1.mono (fun j t e => ?_) fun j u b e m z => .inl ?_
  · by_cases hj : i = j
    · subst hj
      rw [List.getElem?_set_self (List.getElem?_eq_some_iff.mp e0).1] at e; cases e; exact absurd rfl (hs t)
    · rw [List.getElem?_set_ne hj] at e
      exact ⟨e, rfl⟩
  · by_cases hj : i = j
    · subst hj
      exact ⟨s0, e0, m0, z⟩
    · rw [List.getElem?_set_ne hj] at e
      exact ⟨u, e, m, z⟩
theorem SR.fre {a : Addr} (r : SR G vs0 O W σ H ρ) (h : a ∉ W) : Fre G O W σ H ρ a := ⟨fun i s e m z => by
  obtain ⟨b, eb, ob⟩ := r.mineW e m
  rw [eb] at z; cases z
  exact h ob, fun i u v fp _ _ o hb => h (o.sub a hb)⟩
theorem set_inb {i k : Nat} {s t : SD} (hl : σ.length = ρ.length) (h : (ρ.set i s)[k]? = some t) : k < σ.length := by
  have := (List.getElem?_eq_some_iff.mp h).1
  rw [List.length_set] at this
  omega
theorem SR.fre_of {a : Addr} (r : SR G vs0 O W σ H ρ) (hn : a ∉ W) (k : ∀ u v fp, OwT G O W H u v fp → OwT G O' W' H' u v fp) : Fre G O' W' σ H' ρ a := ⟨(r.fre hn).m, fun i u v fp e ev o hb => by
  obtain ⟨φ, h1, _, _⟩ := r.ows
  obtain ⟨v', ev', o'⟩ := h1 i u e
  rw [ev] at ev'; cases ev'
  exact hn (o'.sub a (OwT.det o (k u v _ o') ▸ hb))⟩
theorem SR.fre_mk {a : Addr} (r : SR G vs0 O W σ H ρ) (h : Same H H') (n : H a = none) : Fre G (a :: O) (a :: W) σ H' ρ a :=
  r.fre_of (fun z => r.wf.trk a (r.wf.sub a z) (noD_none n)) fun u v fp o => o.go r.wf (Stp.new h n) fun b hb => ⟨List.mem_cons_of_mem _ (o.sub b hb), fun o e => h b _ e⟩
theorem SR.fre_add {a : Addr} (r : SR G vs0 O W σ H ρ) (hn : a ∉ W) : Fre G O (a :: W) σ H ρ a :=
  r.fre_of hn fun u v fp o => o.less (fun _ h => h) fun b hb => List.mem_cons_of_mem _ (o.sub b hb)
theorem OwS.set1 {i : Nat} {s : SD} {v : V} (h : OwS G O W σ H ρ) (hl : σ.length = ρ.length) (hs : ∀ t, s ≠ .ow t) (hm : s.mine = true → ∀ a, v = .ref a → Fre G O W σ H ρ a) : OwS G O W (σ.set i (some v)) H (ρ.set i s) := by
  refine h.mono (fun j t e => ?_) fun j u a e m z => ?_
  · by_cases hj : i = j
    · subst hj
      rw [List.getElem?_set_self (by rw [← hl]; exact set_inb hl e)] at e
      cases e; exact absurd rfl (hs t)
    · rw [List.getElem?_set_ne hj] at e
      rw [List.getElem?_set_ne hj]
      exact ⟨e, rfl⟩
  · by_cases hj : i = j
    · subst hj
      have q := set_inb hl e
      rw [List.getElem?_set_self (by rw [← hl]; exact q)] at e
      rw [List.getElem?_set_self q] at z
      cases e; cases z
      exact .inr (hm m a rfl)
    · rw [List.getElem?_set_ne hj] at e z
      exact .inl ⟨u, e, m, z⟩
theorem OwS.set0 {i : Nat} {s : SD} (h : OwS G O W σ H ρ) (hs : ∀ t, s ≠ .ow t) (hm : s.mine = false) : OwS G O W σ H (ρ.set i s) := by
  have inb : ∀ {k : Nat} {t : SD}, (ρ.set i s)[k]? = some t → k < ρ.length := fun {k t} e => by
    have := (List.getElem?_eq_some_iff.mp e).1
    rw [List.length_set] at this
    exact this
  refine h.mono (fun j t e => ?_) fun j u a e m z => ?_
  · by_cases hj : i = j
    · subst hj
      rw [List.getElem?_set_self (inb e)] at e
      cases e; exact absurd rfl (hs t)
    · rw [List.getElem?_set_ne hj] at e
      exact ⟨e, rfl⟩
  · by_cases hj : i = j
    · subst hj
      rw [List.getElem?_set_self (inb e)] at e
      cases e; rw [hm] at m; cases m
    · rw [List.getElem?_set_ne hj] at e
      exact .inl ⟨u, e, m, z⟩
theorem SR.set {i : Nat} {d : D} {v : V} (r : SR G vs0 O W σ H ρ) (h : Rp G O H d v) : SR G vs0 O W (σ.set i (some v)) H (ρ.set i (.sh d)) := by
  refine ⟨r.wf, by rw [List.length_set, List.length_set, r.len], fun j s e => ?_, fun j k s t a e1 e2 m1 m2 s1 s2 => ?_, r.tabs, r.ows.set1 r.len (fun _ z => by cases z) fun m => by cases m⟩
  · by_cases hj : i = j
    · subst hj
      by_cases hl : i < ρ.length
      · rw [List.getElem?_set_self hl] at e; cases e
        rw [List.getElem?_set_self (by rw [r.len]; exact hl)]
        exact ⟨v, rfl, h⟩
      · rw [List.getElem?_eq_none (by rw [List.length_set]; omega)] at e; cases e
    · rw [List.getElem?_set_ne hj] at e
      rw [List.getElem?_set_ne hj]
      exact r.slot j s e
  · have nj : i ≠ j := fun z => by
      subst z
      by_cases hl : i < ρ.length
      · rw [List.getElem?_set_self hl] at e1; cases e1; cases m1
      · rw [List.getElem?_eq_none (by rw [List.length_set]; omega)] at e1; cases e1
    have nk : i ≠ k := fun z => by
      subst z
      by_cases hl : i < ρ.length
      · rw [List.getElem?_set_self hl] at e2; cases e2; cases m2
      · rw [List.getElem?_eq_none (by rw [List.length_set]; omega)] at e2; cases e2
    rw [List.getElem?_set_ne nj] at e1 s1
    rw [List.getElem?_set_ne nk] at e2 s2
    exact r.apart j k s t a e1 e2 m1 m2 s1 s2
theorem SR.setM {i : Nat} {u : SD} {a : Addr} (r : SR G vs0 O W σ H ρ) (h : ∀ ov0, SlotR G O W H (some (.ref a)) ov0 u) (hu : ∀ t, u ≠ .ow t) (hf : Fre G O W σ H ρ a) :
    SR G vs0 O W (σ.set i (some (.ref a))) H (ρ.set i u) := by
  have hn := hf.m
  refine ⟨r.wf, by rw [List.length_set, List.length_set, r.len], fun j s e => ?_, fun j k s t b e1 e2 m1 m2 s1 s2 => ?_, r.tabs, r.ows.set1 r.len hu fun _ b e => by cases e; exact hf⟩
  · by_cases hj : i = j
    · subst hj
      by_cases hl : i < ρ.length
      · rw [List.getElem?_set_self hl] at e; cases e
        rw [List.getElem?_set_self (by rw [r.len]; exact hl)]
        exact h _
      · rw [List.getElem?_eq_none (by rw [List.length_set]; omega)] at e; cases e
    · rw [List.getElem?_set_ne hj] at e
      rw [List.getElem?_set_ne hj]
      exact r.slot j s e
  · have inb : ∀ {k : Nat} {t : SD}, (ρ.set i u)[k]? = some t → k < σ.length := fun {k t} e => by
      have := (List.getElem?_eq_some_iff.mp e).1
      rw [List.length_set] at this
      rw [r.len]; exact this
    by_cases nj : i = j
    · by_cases nk : i = k
      · exact nj.symm.trans nk
      · subst nj
        rw [List.getElem?_set_self (inb e1)] at s1
        rw [List.getElem?_set_ne nk] at e2 s2
        cases s1
        exact absurd s2 (hn k t e2 m2)
    · by_cases nk : i = k
      · subst nk
        rw [List.getElem?_set_self (inb e2)] at s2
        rw [List.getElem?_set_ne nj] at e1 s1
        cases s2
        exact absurd s1 (hn j s e1 m1)
      · rw [List.getElem?_set_ne nj] at e1 s1
        rw [List.getElem?_set_ne nk] at e2 s2
        exact r.apart j k s t b e1 e2 m1 m2 s1 s2
theorem SR.setOwn {i : Nat} {xs : List D} {a : Addr} (r : SR G vs0 O W σ H ρ) (h : OwnAt G O W H a xs) (hn : Fre G O W σ H ρ a) :
    SR G vs0 O W (σ.set i (some (.ref a))) H (ρ.set i (.own xs)) := r.setM (fun _ => ⟨a, rfl, h⟩) (fun _ z => by cases z) hn
theorem SR.setT {i : Nat} {u : OT} {v : V} {fp : List Addr} (r : SR G vs0 O W σ H ρ) (h : OwT G O W H u v fp) (hf : ∀ a ∈ fp, Fre G O W σ H ρ a) : SR G vs0 O W (σ.set i (some v)) H (ρ.set i (.ow u)) := by
  refine ⟨r.wf, by rw [List.length_set, List.length_set, r.len], fun j s e => ?_, fun j k s t a e1 e2 m1 m2 s1 s2 => ?_, r.tabs, r.ows.putT r.len.symm h hf⟩
  · by_cases hj : i = j
    · subst hj
      rw [List.getElem?_set_self (by rw [← r.len]; exact set_inb r.len e)] at e; cases e
      trivial
    · rw [List.getElem?_set_ne hj] at e
      rw [List.getElem?_set_ne hj]
      exact r.slot j s e
  · have key : ∀ {j : Nat} {s : SD}, (ρ.set i (.ow u))[j]? = some s → s.mine = true → i ≠ j := fun {j s} e m z => by
      subst z
      rw [List.getElem?_set_self (by rw [← r.len]; exact set_inb r.len e)] at e; cases e; cases m
    have nj := key e1 m1
    have nk := key e2 m2
    rw [List.getElem?_set_ne nj] at e1 s1
    rw [List.getElem?_set_ne nk] at e2 s2
    exact r.apart j k s t a e1 e2 m1 m2 s1 s2
theorem SR.put {i : Nat} {v : V} {s : SD} (r : SR G vs0 O W σ H ρ) (h : ResR G O W σ H ρ v s) : SR G vs0 O W (σ.set i (some v)) H (ρ.set i s) := by
  cases s with
  | no => exact h.elim
  | byr xs => exact h.elim
  | xn _ _ => exact h.elim
  | gv => exact h.elim
  | sh d => exact r.set h
  | own xs =>
    obtain ⟨a, e, o, n⟩ := h
    subst e
    exact r.setOwn o n
  | od kvs =>
    obtain ⟨a, e, o, n⟩ := h
    subst e
    exact r.setM (fun _ => ⟨a, rfl, o⟩) (fun _ z => by cases z) n
  | ow t =>
    obtain ⟨fp, o, n⟩ := h
    exact r.setT o n
theorem SR.demoteM {i : Nat} {s : SD} {d : D} {a : Addr} (r : SR G vs0 O W σ H ρ) (h : ρ[i]? = some s) (hm : s.mine = true) (e : σ[i]? = some (some (.ref a))) (hd : Rp G (Wm.off a O) H d (.ref a)) :
    SR G vs0 (Wm.off a O) (Wm.off a W) σ H (ρ.set i (.sh d)) := by
  have ffs : ∀ (i' : Nat) (t : OT) (v : V) (fp : List Addr) (b : Addr), (ρ.set i (.sh d))[i']? = some (.ow t) → σ[i']? = some (some v) → OwT G O W H t v fp → b ∈ fp → b ∈ Wm.off a W := fun i' t v fp b q ev o hb => mem_off.mpr ⟨o.sub b hb, fun z => by
    subst z
    have ni : i ≠ i' := fun y => by
      subst y
      rw [List.getElem?_set_self (List.getElem?_eq_some_iff.mp h).1] at q; cases q
    rw [List.getElem?_set_ne ni] at q
    obtain ⟨φ, h1, h2, h3⟩ := r.ows
    obtain ⟨v', ev', o'⟩ := h1 i' t q
    rw [ev] at ev'; cases ev'
    exact h3 i' i t s b q h hm e (OwT.det o o' ▸ hb)⟩
  refine ⟨r.wf.off, by rw [List.length_set, r.len], fun j t q => ?_, fun j k t u b e1 e2 m1 m2 s1 s2 => ?_, ⟨r.tabs.tc, fun q hq => (r.tabs.k q hq).less less_off⟩, (r.ows.set0 (fun _ z => by cases z) rfl).less less_off ffs⟩
  · by_cases hj : i = j
    · subst hj
      rw [List.getElem?_set_self (List.getElem?_eq_some_iff.mp h).1] at q; cases q
      rw [e]
      exact ⟨.ref a, rfl, hd⟩
    · rw [List.getElem?_set_ne hj] at q
      have z := r.slot j t q
      have ne : ∀ b, t.mine = true → (σ[j]?).join = some (.ref b) → b ≠ a := fun b m w y => by
        subst y
        exact hj (r.apart i j s t b h q hm m e (join_some w))
      cases t with
      | no => trivial
      | sh d => obtain ⟨v, e, r⟩ := z; exact ⟨v, e, r.less less_off⟩
      | own ys => obtain ⟨b, e, r⟩ := z; exact ⟨b, e, r.off (ne b rfl e)⟩
      | byr ys => obtain ⟨b, e, e0, r⟩ := z; exact ⟨b, e, e0, r.off (ne b rfl e)⟩
      | xn c fs => obtain ⟨b, p, gs, e, x, t, n, r⟩ := z; exact ⟨b, p, gs, e, x, t, fun z => n (less_off p z), RpF.less less_off r⟩
      | gv => exact z
      | od kvs => obtain ⟨b, e, h1, gs, h2, h4⟩ := z; exact ⟨b, e, mem_off.mpr ⟨h1, ne b rfl e⟩, gs, h2, RpD.less less_off h4⟩
      | ow _ => trivial
  · have nj : i ≠ j := fun z => by
      subst z
      rw [List.getElem?_set_self (List.getElem?_eq_some_iff.mp h).1] at e1; cases e1; cases m1
    have nk : i ≠ k := fun z => by
      subst z
      rw [List.getElem?_set_self (List.getElem?_eq_some_iff.mp h).1] at e2; cases e2; cases m2
    rw [List.getElem?_set_ne nj] at e1
    rw [List.getElem?_set_ne nk] at e2
    exact r.apart j k t u b e1 e2 m1 m2 s1 s2
theorem SR.demote {i : Nat} {s : SD} {xs : List D} (r : SR G vs0 O W σ H ρ) (h : ρ[i]? = some s) (hs : s = .own xs ∨ s = .byr xs) :
    ∃ a O' W', σ[i]? = some (some (.ref a)) ∧ Stp O W H O' W' H ∧ SR G vs0 O' W' σ H (ρ.set i (.sh (.lst xs))) ∧ Rp G O' H (.lst xs) (.ref a) := by
  obtain ⟨a, e, o⟩ := r.getOwn h hs
  have hm : s.mine = true := by rcases hs with rfl | rfl <;> rfl
  exact ⟨a, Wm.off a O, Wm.off a W, e, Stp.off o.1, r.demoteM h hm e o.data, o.data⟩
theorem SR.getD {i : Nat} {kvs : List (Int × D)} (r : SR G vs0 O W σ H ρ) (h : ρ[i]? = some (.od kvs)) : ∃ a, σ[i]? = some (some (.ref a)) ∧ OwnD G O W H a kvs := by
  obtain ⟨a, e, q⟩ := r.slot i _ h
  exact ⟨a, join_some e, q⟩
theorem OwnD.data {a : Addr} {kvs : List (Int × D)} (h : OwnD G O W H a kvs) : Rp G (Wm.off a O) H (.dct kvs) (.ref a) := by
  obtain ⟨h1, gs, h2, h4⟩ := h
  simp only [Rp]
  exact ⟨a, gs, rfl, h2, fun z => (mem_off.mp z).2 rfl, RpD.less less_off h4⟩
theorem SR.demoteD {i : Nat} {kvs : List (Int × D)} (r : SR G vs0 O W σ H ρ) (h : ρ[i]? = some (.od kvs)) :
    ∃ a O' W', σ[i]? = some (some (.ref a)) ∧ Stp O W H O' W' H ∧ SR G vs0 O' W' σ H (ρ.set i (.sh (.dct kvs))) ∧ Rp G O' H (.dct kvs) (.ref a) := by
  obtain ⟨a, e, o⟩ := r.getD h
  exact ⟨a, Wm.off a O, Wm.off a W, e, Stp.off o.1, r.demoteM h rfl e o.data, o.data⟩
theorem SR.getT {i : Nat} {t : OT} (r : SR G vs0 O W σ H ρ) (h : ρ[i]? = some (.ow t)) : ∃ v fp, σ[i]? = some (some v) ∧ OwT G O W H t v fp ∧ (∀ a ∈ fp, ∀ s, Fre G O W σ H (ρ.set i s) a ∨ s.mine = true ∨ ∃ u, s = .ow u) := by
  obtain ⟨φ, h1, h2, h3⟩ := r.ows
  obtain ⟨v, ev, o⟩ := h1 i t h
  refine ⟨v, φ i, ev, o, fun a ha s => ?_⟩
  cases hm : s.mine with
  | true => exact .inr (.inl rfl)
  | false =>
    by_cases hs : ∃ u, s = .ow u
    · exact .inr (.inr hs)
    · refine .inl ⟨fun j u e m z => ?_, fun j u w fp e ew ow hb => ?_⟩
      · by_cases hj : i = j
        · subst hj
          rw [List.getElem?_set_self (List.getElem?_eq_some_iff.mp h).1] at e; cases e
          rw [hm] at m; cases m
        · rw [List.getElem?_set_ne hj] at e
          exact h3 i j t u a h e m z ha
      · by_cases hj : i = j
        · subst hj
          rw [List.getElem?_set_self (List.getElem?_eq_some_iff.mp h).1] at e; cases e
          exact hs ⟨u, rfl⟩
        · rw [List.getElem?_set_ne hj] at e
          obtain ⟨w', ew', ow'⟩ := h1 j u e
          rw [ew] at ew'; cases ew'
          exact hj (h2 i j t u a h e ha (OwT.det ow ow' ▸ hb))
theorem SR.set0 {i : Nat} (r : SR G vs0 O W σ H ρ) : SR G vs0 O W σ H (ρ.set i .no) := by
  have inb : ∀ {k : Nat} {t : SD}, (ρ.set i .no)[k]? = some t → k < ρ.length := fun {k t} e => by
    have := (List.getElem?_eq_some_iff.mp e).1
    rw [List.length_set] at this
    exact this
  refine ⟨r.wf, by rw [List.length_set, r.len], fun j s e => ?_, fun j k s t a e1 e2 m1 m2 s1 s2 => ?_, r.tabs, r.ows.set0 (fun _ z => by cases z) rfl⟩
  · by_cases hj : i = j
    · subst hj
      rw [List.getElem?_set_self (inb e)] at e; cases e
      trivial
    · rw [List.getElem?_set_ne hj] at e
      exact r.slot j s e
  · have key : ∀ {j : Nat} {s : SD}, (ρ.set i .no)[j]? = some s → s.mine = true → i ≠ j := fun {j s} e m z => by
      subst z
      rw [List.getElem?_set_self (inb e)] at e; cases e; cases m
    have nj := key e1 m1
    have nk := key e2 m2
    rw [List.getElem?_set_ne nj] at e1
    rw [List.getElem?_set_ne nk] at e2
    exact r.apart j k s t a e1 e2 m1 m2 s1 s2
theorem SR.demoteT {i : Nat} {t : OT} (r : SR G vs0 O W σ H ρ) (h : ρ[i]? = some (.ow t)) :
    ∃ v O' W', σ[i]? = some (some v) ∧ Stp O W H O' W' H ∧ SR G vs0 O' W' σ H (ρ.set i (.sh t.dt)) ∧ Rp G O' H t.dt v := by
  obtain ⟨v, fp, ev, o, f⟩ := r.getT h
  have sr1 := (r.set0 (i := i)).offl (fp := fp) fun a ha => by
    rcases f a ha .no with z | z | ⟨_, z⟩
    · exact z
    · cases z
    · cases z
  have rp : Rp G (Wm.offl fp O) H t.dt v := o.rp less_offl fun b hb z => (mem_offl.mp z).2 hb
  have sr2 := sr1.set (i := i) rp
  rw [List.set_set] at sr2
  refine ⟨v, _, _, ev, Stp.offl o.sub, ?_, rp⟩
  have : σ.set i (some v) = σ := by
    apply List.ext_getElem?
    intro j
    by_cases hj : i = j
    · subst hj
      rw [List.getElem?_set_self (List.getElem?_eq_some_iff.mp ev).1, ev]
    · rw [List.getElem?_set_ne hj]
  rw [this] at sr2
  exact sr2
end
section
variable {X : Cx} {cl : Cl} {vs0 : List V} {Wx : WX}
def xC (d : D) : Sx := fun ρ => .ok (.sh d, ρ)
theorem ej_c {e : Expr} {v : V} {d : D} (h : PE X e (tC v)) (r : ∀ O H, Rp (gx X cl) O H d v) : EJ X cl vs0 Wx e (xC d) :=
  ⟨⟨_, h, fun O W σ H ρ Q sr q => q v O W H Stp.refl sr (r O H)⟩⟩
theorem ej_int {i : Int} {j pos} : EJ X cl vs0 Wx (.Constant (.int i) j pos) (xC (.int i)) := ej_c pe_int fun _ _ => by simp only [Rp]
theorem ej_bl {i : Bool} {j pos} : EJ X cl vs0 Wx (.Constant (.bool i) j pos) (xC (.bl i)) := ej_c pe_bl fun _ _ => by simp only [Rp]
theorem ej_str {i : Str} {j pos} : EJ X cl vs0 Wx (.Constant (.str i) j pos) (xC (.str i)) := ej_c pe_str fun _ _ => by simp only [Rp]
theorem ej_non {j pos} : EJ X cl vs0 Wx (.Constant .none j pos) (xC .non) := ej_c pe_non fun _ _ => by simp only [Rp]
def xVar (i : Nat) : Sx := fun ρ => match ρ[i]? with
  | some (.sh d) => .ok (.sh d, ρ)
  | some (.own xs) => .ok (.sh (.lst xs), ρ.set i (.sh (.lst xs)))
  | some (.byr xs) => .ok (.sh (.lst xs), ρ.set i (.sh (.lst xs)))
  | some (.od kvs) => .ok (.sh (.dct kvs), ρ.set i (.sh (.dct kvs)))
  | some (.ow t) => .ok (.sh t.dt, ρ.set i (.sh t.dt))
  | _ => .bad
theorem ej_var {i : Nat} {e : Expr} (h : PE X e (tVar i)) : EJ X cl vs0 Wx e (xVar i) := by
  refine ⟨⟨_, h, fun O W σ H ρ Q sr q => ?_⟩⟩
  unfold xVar at q
  split at q
  · rename_i d e
    obtain ⟨v, e1, r⟩ := sr.get e
    exact ⟨v, e1, q v O W H Stp.refl sr r⟩
  · rename_i xs e
    obtain ⟨a, O', W', e1, st, sr', r⟩ := sr.demote e (.inl rfl)
    exact ⟨_, e1, q (.ref a) O' W' H st sr' r⟩
  · rename_i xs e
    obtain ⟨a, O', W', e1, st, sr', r⟩ := sr.demote e (.inr rfl)
    exact ⟨_, e1, q (.ref a) O' W' H st sr' r⟩
  · rename_i kvs e
    obtain ⟨a, O', W', e1, st, sr', r⟩ := sr.demoteD e
    exact ⟨_, e1, q (.ref a) O' W' H st sr' r⟩
  · rename_i t e
    obtain ⟨v, O', W', e1, st, sr', r⟩ := sr.demoteT e
    exact ⟨_, e1, q v O' W' H st sr' r⟩
  · exact q.elim
end
inductive LOp where
  | va (i : Nat) | ex (f : Sx)
def lookD (ρ : List SD) (i : Nat) : Rs D := match ρ[i]? with
  | some (.sh d) => .ok d
  | some (.own xs) => .ok (.lst xs)
  | some (.byr xs) => .ok (.lst xs)
  | _ => .bad
def ops : List LOp → So
  | [], ρ => .ok ([], ρ)
  | .va i :: r, ρ => (lookD ρ i).bind fun _ => (ops r ρ).bind fun p => (lookD p.2 i).bind fun d => .ok (d :: p.1, p.2)
  | .ex f :: r, ρ => (f ρ).bind fun p => (ops r p.2).bind fun q => .ok (p.1.frz :: q.1, q.2)
def LJ (X : Cx) (cl : Cl) (vs0 : List V) (Wx : WX) (e : Expr) : LOp → Prop
  | .va i => PE X e (tVar i)
  | .ex f => EJ X cl vs0 Wx e f
def tAll : List TE → TA
  | [] => tNil
  | t :: ts => tCons t (tAll ts)
inductive PEs (X : Cx) : List Expr → List TE → Prop where
  | nil : PEs X [] []
  | cons {e : Expr} {t : TE} {es : List Expr} {ts : List TE} : PE X e t → PEs X es ts → PEs X (e :: es) (t :: ts)
structure OJ (X : Cx) (cl : Cl) (vs0 : List V) (Wx : WX) (es : List Expr) (fl : List LOp) : Prop where
  ex : ∃ ts, PEs X es ts ∧ PA X es (tAll ts) ∧ ∀ O W σ H ρ R, SR (gx X cl) vs0 O W σ H ρ → AftO (gx X cl) vs0 Wx O W σ H R (ops fl ρ) → tAll ts σ H R
section
variable {X : Cx} {cl : Cl} {vs0 : List V} {Wx : WX}
theorem lookD_sr {G : Gx} {O W : List Addr} {σ : L2.St} {H : Hp} {ρ : List SD} {i : Nat} {d : D} (sr : SR G vs0 O W σ H ρ) (h : lookD ρ i = .ok d) : ∃ v, σ[i]? = some (some v) ∧ Op1 G O W H d v := by
  unfold lookD at h
  split at h
  · rename_i d' e
    cases h
    obtain ⟨v, e1, r⟩ := sr.get e
    exact ⟨v, e1, .inl r⟩
  · rename_i xs e
    cases h
    obtain ⟨a, e1, o⟩ := sr.getOwn e (.inl rfl)
    exact ⟨_, e1, .inr ⟨a, xs, rfl, rfl, o⟩⟩
  · rename_i xs e
    cases h
    obtain ⟨a, e1, o⟩ := sr.getOwn e (.inr rfl)
    exact ⟨_, e1, .inr ⟨a, xs, rfl, rfl, o⟩⟩
  · cases h
theorem lookD_noexc {ρ : List SD} {i : Nat} {c : Str} {fs : List (Str × D)} {ρ' : List SD} : lookD ρ i ≠ .exc c fs ρ' := by
  unfold lookD
  split <;> exact fun z => nomatch z
theorem oj_nil : OJ X cl vs0 Wx [] [] := ⟨⟨[], .nil, pa_nil, fun O W σ H ρ R sr h => h [] O W H Stp.refl sr rfl⟩⟩
theorem oj_cons {e : Expr} {es : List Expr} {o : LOp} {fl : List LOp} (h : LJ X cl vs0 Wx e o) (hr : OJ X cl vs0 Wx es fl) (hs : starEach (e :: es) X.env = (false, eval e X.env) :: starEach es X.env := by rfl) : OJ X cl vs0 Wx (e :: es) (o :: fl) := by
  obtain ⟨ts, p1, p2, p3⟩ := hr.ex
  cases o with
  | va i =>
    refine ⟨⟨tVar i :: ts, .cons h p1, pa_cons h p2 hs, fun O W σ H ρ R sr hw => ?_⟩⟩
    have hw' : AftO (gx X cl) vs0 Wx O W σ H R ((lookD ρ i).bind fun _ => (ops fl ρ).bind fun p => (lookD p.2 i).bind fun d => .ok (d :: p.1, p.2)) := hw
    cases e0 : lookD ρ i with
    | bad => rw [e0] at hw'; exact hw'.elim
    | exc c fs ρ' => exact absurd e0 lookD_noexc
    | ok d0 =>
      rw [e0] at hw'
      obtain ⟨v, ev, _⟩ := lookD_sr sr e0
      refine ⟨v, ev, p3 O W σ H ρ _ sr ?_⟩
      have hw2 : AftO (gx X cl) vs0 Wx O W σ H R ((ops fl ρ).bind fun p => (lookD p.2 i).bind fun d => .ok (d :: p.1, p.2)) := hw'
      cases e1 : ops fl ρ with
      | bad => rw [e1] at hw2; exact hw2
      | exc c fs ρ' => rw [e1] at hw2; exact hw2
      | ok p =>
        obtain ⟨ds, ρ1⟩ := p
        rw [e1] at hw2
        have hw3 : AftO (gx X cl) vs0 Wx O W σ H R ((lookD ρ1 i).bind fun d => .ok (d :: ds, ρ1)) := hw2
        intro vs O' W' H' st sr' ho
        cases e2 : lookD ρ1 i with
        | bad => rw [e2] at hw3; exact hw3.elim
        | exc c fs ρ' => exact absurd e2 lookD_noexc
        | ok d =>
          rw [e2] at hw3
          obtain ⟨v', ev', r'⟩ := lookD_sr sr' e2
          rw [ev] at ev'; cases ev'
          exact hw3 (v :: vs) O' W' H' st sr' ⟨v, vs, rfl, r', ho⟩
  | ex f =>
    obtain ⟨t, q1, q2⟩ := h.ex
    refine ⟨⟨t :: ts, .cons q1 p1, pa_cons q1 p2 hs, fun O W σ H ρ R sr hw => ?_⟩⟩
    have hw' : AftO (gx X cl) vs0 Wx O W σ H R ((f ρ).bind fun p => (ops fl p.2).bind fun q => .ok (p.1.frz :: q.1, q.2)) := hw
    refine q2 O W σ H ρ _ sr ?_
    cases e0 : f ρ with
    | bad => rw [e0] at hw'; exact hw'
    | exc c fs ρ' => rw [e0] at hw'; exact hw'
    | ok p =>
      obtain ⟨r, ρ1⟩ := p
      rw [e0] at hw'
      have hw2 : AftO (gx X cl) vs0 Wx O W σ H R ((ops fl ρ1).bind fun q => .ok (r.frz :: q.1, q.2)) := hw'
      intro v O1 W1 H1 st1 sr1 rr
      obtain ⟨O2, W2, st2, sr2, rp⟩ := rr.frz sr1
      have st12 := st1.trans sr.wf st2
      refine p3 O2 W2 σ H1 ρ1 _ sr2 ?_
      cases e1 : ops fl ρ1 with
      | bad => rw [e1] at hw2; exact hw2
      | exc c fs ρ' => rw [e1] at hw2; exact ExcA.back sr.wf st12 hw2
      | ok q =>
        obtain ⟨ds, ρ2⟩ := q
        rw [e1] at hw2
        intro vs O' W' H' st sr' ho
        exact hw2 (v :: vs) O' W' H' (st12.trans sr.wf st) sr' ⟨v, vs, rfl, .inl (rp.step sr2.wf st), ho⟩
end
end Wm
end
section
namespace Wm
open PySem PySem.Spec PyProof.Rows L2
def AftP (G : Gx) (O : List Addr) (H : Hp) (Q : VK) : Rs SD → Prop
  | .ok (.sh d) => ∀ v H', Same H H' → Rp G O H' d v → Q v H'
  | .ok (.own xs) => ∀ a vs H', Same H H' → H a = none → H' a = some (.lst vs) → vs.length ≤ sizeLine → RpA G O H xs vs → Q (.ref a) H'
  | _ => False
def PrimR (X : Cx) (cl : Cl) (rd : List V → Hp → VK → Prop) (p : List D → Rs SD) : Prop :=
  ∀ O W H ds vs Q, Wf O W H → OpA (gx X cl) O W H ds vs → AftP (gx X cl) O H Q (p ds) → rd vs H Q
def Rs.fin (ρ : List SD) : Rs SD → Rs (SD × List SD)
  | .ok (.sh d) => .ok (.sh d, ρ)
  | .ok (.own xs) => .ok (.own xs, ρ)
  | _ => .bad
def xPrim (fl : List LOp) (p : List D → Rs SD) : Sx := fun ρ => (ops fl ρ).bind fun q => (p q.1).fin q.2
section
variable {X : Cx} {cl : Cl} {vs0 : List V} {Wx : WX}
theorem prim_core {ts : List TE} {fl : List LOp} {p : List D → Rs SD} {rd : List V → Hp → VK → Prop} (hr : PrimR X cl rd p)
    (h : ∀ O W σ H ρ R, SR (gx X cl) vs0 O W σ H ρ → AftO (gx X cl) vs0 Wx O W σ H R (ops fl ρ) → tAll ts σ H R) :
    ∀ O W σ H ρ Q, SR (gx X cl) vs0 O W σ H ρ → AftE (gx X cl) vs0 Wx O W σ H Q (xPrim fl p ρ) → tAll ts σ H fun vs H1 => rd vs H1 Q := by
  intro O W σ H ρ Q sr hw
  refine h O W σ H ρ _ sr ?_
  unfold xPrim at hw
  cases e : ops fl ρ with
  | bad => rw [e] at hw; exact hw
  | exc c fs ρ' => rw [e] at hw; exact hw
  | ok q =>
    obtain ⟨ds, ρ1⟩ := q
    rw [e] at hw
    have hw2 : AftE (gx X cl) vs0 Wx O W σ H Q ((p ds).fin ρ1) := hw
    intro vs O' W' H' st sr' ho
    refine hr O' W' H' ds vs Q sr'.wf ho ?_
    cases e2 : p ds with
    | bad => rw [e2] at hw2; exact hw2
    | exc c fs ρ' => rw [e2] at hw2; exact hw2
    | ok r =>
      rw [e2] at hw2
      cases r with
      | no => exact hw2
      | byr xs => exact hw2
      | xn _ _ => exact hw2
      | gv => exact hw2
      | od _ => exact hw2
      | ow _ => exact hw2
      | sh d => exact fun v H2 sm rp => hw2 v O' W' H2 (st.trans sr.wf (Stp.same sm)) (sr'.same sm) rp
      | own xs =>
        intro a vs' H2 sm n n2 hl ra
        refine hw2 (.ref a) (a :: O') (a :: W') H2 (st.trans sr.wf (Stp.new sm n)) (sr'.new sm n (noD_not n2)) ⟨a, rfl, ⟨List.mem_cons_self, vs', n2, hl, ra.step sr'.wf (Stp.new sm n)⟩, sr'.fre_mk sm n⟩
variable {G : Gx} {O W : List Addr} {H H' : Hp} {ds : List D} {vs : List V} {d e : D} {v : V}
theorem RpA.length : ∀ {ds : List D} {vs : List V}, RpA G O H ds vs → ds.length = vs.length
  | [], vs, h => by simp only [RpA] at h; rw [h]; rfl
  | d :: ds, vs, h => by
    simp only [RpA] at h
    obtain ⟨v, r, e, _, h2⟩ := h
    rw [e, List.length_cons, List.length_cons, RpA.length h2]
theorem RpA.append : ∀ {ds es : List D} {vs ws : List V}, RpA G O H ds vs → RpA G O H es ws → RpA G O H (ds ++ es) (vs ++ ws)
  | [], es, vs, ws, h, q => by simp only [RpA] at h; rw [h]; exact q
  | d :: ds, es, vs, ws, h, q => by
    simp only [RpA] at h
    obtain ⟨v, r, e, h1, h2⟩ := h
    rw [e]
    show RpA G O H (d :: (ds ++ es)) (v :: (r ++ ws))
    simp only [RpA]
    exact ⟨v, _, rfl, h1, RpA.append h2 q⟩
theorem RpA.getV : ∀ {ds : List D} {vs : List V} {i : Nat} {v : V}, RpA G O H ds vs → vs[i]? = some v → ∃ d, ds[i]? = some d ∧ Rp G O H d v
  | [], vs, i, v, h, q => by simp only [RpA] at h; rw [h] at q; cases i <;> cases q
  | d :: ds, vs, i, v, h, q => by
    simp only [RpA] at h
    obtain ⟨w, r, e, h1, h2⟩ := h
    rw [e] at q
    cases i with
    | zero => cases q; exact ⟨d, rfl, h1⟩
    | succ i => exact RpA.getV (ds := ds) (i := i) h2 q
theorem RpA.getD : ∀ {ds : List D} {vs : List V} {i : Nat} {d : D}, RpA G O H ds vs → ds[i]? = some d → ∃ v, vs[i]? = some v ∧ Rp G O H d v
  | [], vs, i, d, h, q => by cases i <;> cases q
  | d' :: ds, vs, i, d, h, q => by
    simp only [RpA] at h
    obtain ⟨w, r, e, h1, h2⟩ := h
    rw [e]
    cases i with
    | zero => cases q; exact ⟨w, rfl, h1⟩
    | succ i => exact RpA.getD (ds := ds) (i := i) h2 q
theorem RpA.drop : ∀ {ds : List D} {vs : List V} (n : Nat), RpA G O H ds vs → RpA G O H (ds.drop n) (vs.drop n)
  | ds, vs, 0, h => h
  | [], vs, n + 1, h => by simp only [RpA] at h; rw [h]; simp only [List.drop_nil, RpA]
  | d :: ds, vs, n + 1, h => by
    simp only [RpA] at h
    obtain ⟨w, r, e, h1, h2⟩ := h
    rw [e]
    exact RpA.drop n h2
theorem RpA.take : ∀ {ds : List D} {vs : List V} (n : Nat), RpA G O H ds vs → RpA G O H (ds.take n) (vs.take n)
  | ds, vs, 0, h => by simp only [List.take_zero, RpA]
  | [], vs, n + 1, h => by simp only [RpA] at h; rw [h]; simp only [List.take_nil, RpA]
  | d :: ds, vs, n + 1, h => by
    simp only [RpA] at h
    obtain ⟨w, r, e, h1, h2⟩ := h
    rw [e]
    show RpA G O H (d :: ds.take n) (w :: r.take n)
    simp only [RpA]
    exact ⟨w, _, rfl, h1, RpA.take n h2⟩
theorem RpA.rep {ds : List D} {vs : List V} (h : RpA G O H ds vs) : ∀ n : Nat, RpA G O H (List.replicate n ds).flatten (List.replicate n vs).flatten
  | 0 => by simp only [List.replicate_zero, List.flatten_nil, RpA]
  | n + 1 => by
    rw [List.replicate_succ, List.replicate_succ, List.flatten_cons, List.flatten_cons]
    exact h.append (RpA.rep h n)
theorem RpA.ints : ∀ {ns : List Int} {vs : List V}, RpA G O H (ns.map D.int) vs → vs = ns.map V.int
  | [], vs, h => by simpa only [List.map_nil, RpA] using h
  | n :: ns, vs, h => by
    simp only [List.map_cons, RpA, Rp] at h
    obtain ⟨v, r, e, h1, h2⟩ := h
    rw [e, h1, RpA.ints h2]; rfl
theorem Op1.int {i : Int} (h : Op1 G O W H (.int i) v) : v = .int i := by
  rcases h with h | ⟨_, _, h, _⟩
  · simpa only [Rp] using h
  · cases h
theorem Op1.bl {i : Bool} (h : Op1 G O W H (.bl i) v) : v = .bl i := by
  rcases h with h | ⟨_, _, h, _⟩
  · simpa only [Rp] using h
  · cases h
theorem Op1.str {i : Str} (h : Op1 G O W H (.str i) v) : v = .str i := by
  rcases h with h | ⟨_, _, h, _⟩
  · simpa only [Rp] using h
  · cases h
theorem Op1.non (h : Op1 G O W H .non v) : v = .non := by
  rcases h with h | ⟨_, _, h, _⟩
  · simpa only [Rp] using h
  · cases h
theorem Op1.tup (h : Op1 G O W H (.tup ds) v) : ∃ a vs, v = .ref a ∧ TO G.K O H a vs ∧ RpA G O H ds vs := by
  rcases h with h | ⟨_, _, h, _⟩
  · simpa only [Rp] using h
  · cases h
theorem Op1.lst (h : Op1 G O W H (.lst ds) v) : ∃ a vs, v = .ref a ∧ H a = some (.lst vs) ∧ vs.length ≤ sizeLine ∧ RpA G O H ds vs := by
  rcases h with h | ⟨a, _, h, e, _, vs, h2, h3, h4⟩
  · simp only [Rp] at h
    obtain ⟨a, vs, e, t, r⟩ := h
    exact ⟨a, vs, e, t.2.1, t.1, r⟩
  · cases h
    exact ⟨a, vs, e, h2, h3, h4⟩
theorem Op1.scr {ns : List Int} (h : Op1 G O W H (.scr ns) v) : ∃ a, v = .ref a ∧ ScO G.K O H a (ns.map V.int) := by
  rcases h with h | ⟨_, _, h, _⟩
  · simpa only [Rp] using h
  · cases h
theorem RpA.ofInts : ∀ {ns : List Int}, RpA G O H (ns.map D.int) (ns.map V.int)
  | [] => by simp only [List.map_nil, RpA]
  | n :: ns => by
    simp only [List.map_cons, RpA, Rp]
    exact ⟨_, _, rfl, rfl, RpA.ofInts⟩
theorem OpA.one (h : OpA G O W H [d] vs) : ∃ v, vs = [v] ∧ Op1 G O W H d v := by
  obtain ⟨v, r, e, h1, h2⟩ := h
  have h2 : r = [] := h2
  subst h2
  exact ⟨v, e, h1⟩
theorem OpA.two (h : OpA G O W H [d, e] vs) : ∃ v w, vs = [v, w] ∧ Op1 G O W H d v ∧ Op1 G O W H e w := by
  obtain ⟨v, r, ev, h1, h2⟩ := h
  obtain ⟨w, ew, h3⟩ := OpA.one h2
  subst ew
  exact ⟨v, w, ev, h1, h3⟩
theorem rp_tup {p : Addr} (w : Wf O W H) (n : H p = none) (hl : vs.length ≤ sizeLine) (h : RpA G O H ds vs) : Rp G O (upd H p (.tup vs)) (.tup ds) (.ref p) := by
  simp only [Rp]
  refine ⟨p, vs, rfl, ⟨hl, .inl ⟨.inl upd_same, fun z => w.trk p z (noD_none n)⟩⟩, h.step w (Stp.same fun b o e => ?_)⟩
  rw [upd_ne (ne_of_none e n)]
  exact e
theorem same_upd {p : Addr} {o : HO} (n : H p = none) : Same H (upd H p o) := fun b x e => by
  rw [upd_ne (ne_of_none e n)]
  exact e
end
def rd1 (r : V → Hp → VK → Prop) : List V → Hp → VK → Prop := fun vs H Q => match vs with
  | [x] => r x H Q
  | _ => False
def rd2 (r : R2) : List V → Hp → VK → Prop := fun vs H Q => match vs with
  | [x, y] => r x y H Q
  | _ => False
section
variable {X : Cx} {cl : Cl} {vs0 : List V} {Wx : WX}
theorem two_of {a b : Expr} {fl : List LOp} (h : OJ X cl vs0 Wx [a, b] fl) : ∃ ta tb, PE X a ta ∧ PE X b tb ∧ ∀ O W σ H ρ R, SR (gx X cl) vs0 O W σ H ρ → AftO (gx X cl) vs0 Wx O W σ H R (ops fl ρ) → tAll [ta, tb] σ H R := by
  obtain ⟨ts, p, _, q⟩ := h.ex
  cases p with
  | cons p1 p =>
    cases p with
    | cons p2 p =>
      cases p
      exact ⟨_, _, p1, p2, q⟩
theorem one_of {a : Expr} {fl : List LOp} (h : OJ X cl vs0 Wx [a] fl) : ∃ ta, PE X a ta ∧ ∀ O W σ H ρ R, SR (gx X cl) vs0 O W σ H ρ → AftO (gx X cl) vs0 Wx O W σ H R (ops fl ρ) → tAll [ta] σ H R := by
  obtain ⟨ts, p, _, q⟩ := h.ex
  cases p with
  | cons p1 p =>
    cases p
    exact ⟨_, p1, q⟩
theorem ej_bin {op : Operator} {a b : Expr} {pos : Pos} {r : R2} {fl : List LOp} {p : List D → Rs SD} (ho : OpR X (binaryOp op) r) (hp : PrimR X cl (rd2 r) p) (h : OJ X cl vs0 Wx [a, b] fl) : EJ X cl vs0 Wx (.BinOp a op b pos) (xPrim fl p) := by
  obtain ⟨ta, tb, ha, hb, q⟩ := two_of h
  exact ⟨⟨_, pe_op ho ha hb, prim_core hp q⟩⟩
theorem ej_un {op : UnaryOp} {a : Expr} {pos : Pos} {r : V → Hp → VK → Prop} {fl : List LOp} {p : List D → Rs SD} (ho : UnR X (unaryOp op) r) (hp : PrimR X cl (rd1 r) p) (h : OJ X cl vs0 Wx [a] fl) : EJ X cl vs0 Wx (.UnaryOp op a pos) (xPrim fl p) := by
  obtain ⟨ta, ha, q⟩ := one_of h
  exact ⟨⟨_, pe_un ho ha, prim_core hp q⟩⟩
theorem ej_cmp {op : CmpOp} {a b : Expr} {pos : Pos} {r : R2} {fl : List LOp} {p : List D → Rs SD} (ho : OpR X (compareOp op) r) (hp : PrimR X cl (rd2 r) p) (h : OJ X cl vs0 Wx [a, b] fl) (hm : behindInMarks op b = false) : EJ X cl vs0 Wx (.Compare a [op] [b] pos) (xPrim fl p) := by
  obtain ⟨ta, tb, ha, hb, q⟩ := two_of h
  exact ⟨⟨_, pe_cmpR ho ha hb hm, prim_core hp q⟩⟩
theorem ej_ix {a b : Expr} {pos : Pos} {r : R2} {fl : List LOp} {p : List D → Rs SD} (ho : IxR X r) (hp : PrimR X cl (rd2 r) p) (h : OJ X cl vs0 Wx [a, b] fl) (hs : PlainIx b) : EJ X cl vs0 Wx (.Subscript a b pos) (xPrim fl p) := by
  obtain ⟨ta, tb, ha, hb, q⟩ := two_of h
  exact ⟨⟨_, pe_ix ho ha hb hs, prim_core hp q⟩⟩
def pAdd : List D → Rs SD
  | [.int i, .int j] => .ok (.sh (.int (i + j)))
  | [.tup xs, .tup ys] => if xs.length + ys.length ≤ sizeLine then .ok (.sh (.tup (xs ++ ys))) else .bad
  | [.lst xs, .lst ys] => if xs.length + ys.length ≤ sizeLine then .ok (.own (xs ++ ys)) else .bad
  | [.scr ns, .lst ys] => if ns.length + ys.length ≤ sizeLine then .ok (.own (ns.map .int ++ ys)) else .bad
  | _ => .bad
def rCatC (K : PySem.W.Frag) : R2 := fun x y H Q => ∃ l b xs zs, x = .ref l ∧ y = .ref b ∧ SqL K H l xs ∧ H b = some (.lst zs) ∧ xs.length + zs.length ≤ sizeLine ∧ ∀ p, H p = none → Q (.ref p) (upd H p (.lst (xs ++ zs)))
theorem list_addW (l : Addr) (items : Array Value) (n : Nat) (dd : Option Addr) (sl : Array (Option Value)) (b : Addr) (items2 : Array Value) (n2 : Nat) (hsz : items.size + items2.size ≤ sizeLine) :
    Meets (Builtin.«list.__add__» ⟨[.ref l, .ref b], []⟩) (fun _ R s => s.heap.get? l = some { cls := .type "list", dict := dd, data := .seq items n, slots := sl } ∧ s.heap.get? b = some { cls := .type "list", data := .seq items2 n2 } ∧
      R (.ok (.ret (Value.ref s.heap.objs.size))) { s with heap := s.heap.push { cls := Value.type "list", data := Data.seq (items ++ items2) } }) :=
  .of_wp fun prog w A R s h => by
    obtain ⟨hp, g, d, tk, os⟩ := s
    obtain ⟨hl, hb, h⟩ := h
    have ff := AutoSeq1.sub_list_list
    wp_walk using wpAny_loadPart' hl, wpAny_loadPart' hb
    exact ⟨_, rfl, h⟩
theorem op_catC : OpR X (binaryOp .Add) (rCatC X.K) := by
  intro pins s σ H x y v u Q I rx ry h
  obtain ⟨l, b, xs, zs, rfl, rfl, hH, hB, hz, q⟩ := h
  cases rx
  cases ry
  obtain ⟨its, r, ⟨⟨oc, od, odt, osl⟩, n, e, hc, hd, hs⟩, _⟩ := I.list hH
  obtain ⟨z2, its2, n2, r2, hl2, e2⟩ := I.lstM hB
  have hl := r.length
  simp only at hc hd hs
  subst hc hd hs
  refine concat_meets ⟨_, e, rfl⟩ ⟨_, e2, rfl⟩ noFill_list_add seq_list_add F.slot_list_add F.entry_list_add (F.args_list_add_2 _ _)
    (list_addW l its.toArray n none osl b its2.toArray n2 (by rw [List.size_toArray, List.size_toArray]; omega)) ⟨e, e2, ?_⟩
  rw [show its.toArray ++ its2.toArray = (its ++ its2).toArray by simp]
  exact ⟨.ref _, _, I.lnew (t' := s.toks) (r.append r2) (by rw [List.length_append]; omega), rfl, q _ I.fresh⟩
theorem op_addD : OpR X (binaryOp .Add) (fun x y H Q => rI0 (fun i j => .int (i + j)) x y H Q ∨ rCatA X.K x y H Q ∨ rCat x y H Q ∨ rCatC X.K x y H Q) := op_add.or (op_catA.or (op_cat.or op_catC))
theorem pr_add : PrimR X cl (rd2 fun x y H Q => rI0 (fun i j => .int (i + j)) x y H Q ∨ rCatA X.K x y H Q ∨ rCat x y H Q ∨ rCatC X.K x y H Q) pAdd := by
  intro O W H ds vs Q w ho hp
  unfold pAdd at hp
  split at hp
  · obtain ⟨x, y, rfl, h1, h2⟩ := ho.two
    exact .inl ⟨_, _, h1.int, h2.int, hp _ H (Same.refl H) (by simp only [Rp])⟩
  · obtain ⟨x, y, rfl, h1, h2⟩ := ho.two
    split at hp
    · rename_i hz
      obtain ⟨a, xs, e1, t1, r1⟩ := h1.tup
      obtain ⟨b, ys, e2, t2, r2⟩ := h2.tup
      have l1 := r1.length
      have l2 := r2.length
      have hz' : xs.length + ys.length ≤ sizeLine := by omega
      refine .inr (.inl ⟨a, b, xs, ys, e1, e2, t1.sq, t2.sq, hz', fun z => ?_, fun _ z => ?_, fun _ _ p n => ?_⟩)
      · subst z
        refine hp _ H (Same.refl H) ?_
        have : (_ : List D) = [] := List.eq_nil_of_length_eq_zero l1
        rw [this, List.nil_append]
        simp only [Rp]
        exact ⟨b, ys, rfl, t2, r2⟩
      · subst z
        refine hp _ H (Same.refl H) ?_
        have : (_ : List D) = [] := List.eq_nil_of_length_eq_zero l2
        rw [this, List.append_nil]
        simp only [Rp]
        exact ⟨a, xs, rfl, t1, r1⟩
      · exact hp _ _ (same_upd n) (rp_tup w n (by rw [List.length_append]; exact hz') (r1.append r2))
    · exact hp.elim
  · obtain ⟨x, y, rfl, h1, h2⟩ := ho.two
    split at hp
    · rename_i hz
      obtain ⟨a, xs, e1, t1, z1, r1⟩ := h1.lst
      obtain ⟨b, ys, e2, t2, z2, r2⟩ := h2.lst
      have l1 := r1.length
      have l2 := r2.length
      have hz' : xs.length + ys.length ≤ sizeLine := by omega
      exact .inr (.inr (.inl ⟨a, b, xs, ys, e1, e2, t1, t2, hz', fun p n => hp p _ _ (same_upd n) n upd_same (by rw [List.length_append]; exact hz') (r1.append r2)⟩))
    · exact hp.elim
  · obtain ⟨x, y, rfl, h1, h2⟩ := ho.two
    split at hp
    · rename_i ns es hz
      obtain ⟨a, e1, t1⟩ := h1.scr
      obtain ⟨b, ys, e2, t2, z2, r2⟩ := h2.lst
      have l2 := r2.length
      have hz' : (ns.map V.int).length + ys.length ≤ sizeLine := by rw [List.length_map]; omega
      exact .inr (.inr (.inr ⟨a, b, _, ys, e1, e2, t1.sq, t2, hz', fun p n => hp p _ _ (same_upd n) n upd_same (by rw [List.length_append]; exact hz') (RpA.append RpA.ofInts r2)⟩))
    · exact hp.elim
  · exact hp.elim
theorem ej_add {a b : Expr} {pos : Pos} {fl : List LOp} (h : OJ X cl vs0 Wx [a, b] fl) : EJ X cl vs0 Wx (.BinOp a .Add b pos) (xPrim fl pAdd) := ej_bin op_addD pr_add h
end
end Wm
end
section
namespace Wm
open PySem PySem.Spec PyProof.Rows L2
mutual
def eqD : D → D → Bool
  | .non, .non => true
  | .bl a, .bl b => a == b
  | .bl a, .int j => (if a then 1 else 0) == j
  | .int i, .bl b => i == (if b then 1 else 0)
  | .int i, .int j => i == j
  | .str x, .str y => x == y
  | .lst xs, .lst ys => eqDs xs ys
  | .tup xs, .tup ys => eqDs xs ys
  | _, _ => false
def eqDs : List D → List D → Bool
  | [], [] => true
  | x :: xs, y :: ys => eqD x y && eqDs xs ys
  | _, _ => false
end
mutual
def okN : Nat → D → Bool
  | _, .non => true
  | _, .bl _ => true
  | _, .int _ => true
  | _, .str x => PyData.strOk x
  | n + 1, .tup xs => okNs n xs
  | n + 1, .lst xs => okNs n xs
  | _, _ => false
def okNs : Nat → List D → Bool
  | _, [] => true
  | n, x :: xs => okN n x && okNs n xs
end
mutual
def D.py : D → PyData
  | .non => .none
  | .bl b => .bool b
  | .int i => .int i
  | .str x => .str x
  | .tup xs => .tuple (pys xs)
  | .lst xs => .list (pys xs)
  | .ins _ _ => .none
  | .scr _ => .none
  | .dct _ => .none
def pys : List D → List PyData
  | [] => []
  | x :: xs => x.py :: pys xs
end
mutual
theorem okN_lay : ∀ {n : Nat} {d : D}, okN n d = true → d.py.canLay0 = true ∧ d.py.depth ≤ n
  | n, .non, _ => by simp [D.py, PyData.canLay0, PyData.depth]
  | n, .bl _, _ => by simp [D.py, PyData.canLay0, PyData.depth]
  | n, .int _, _ => by simp [D.py, PyData.canLay0, PyData.depth]
  | n, .str x, h => by simp only [okN] at h; simp [D.py, PyData.canLay0, PyData.depth, h]
  | 0, .tup xs, h => by simp [okN] at h
  | 0, .lst xs, h => by simp [okN] at h
  | n + 1, .tup xs, h => by
    simp only [okN] at h
    have := okNs_lay h
    simp only [D.py, PyData.canLay0, PyData.depth]
    exact ⟨this.1, Nat.succ_le_succ this.2⟩
  | n + 1, .lst xs, h => by
    simp only [okN] at h
    have := okNs_lay h
    simp only [D.py, PyData.canLay0, PyData.depth]
    exact ⟨this.1, Nat.succ_le_succ this.2⟩
  | n, .ins _ _, h => by cases n <;> simp [okN] at h
  | n, .scr _, h => by cases n <;> simp [okN] at h
theorem okNs_lay : ∀ {n : Nat} {ds : List D}, okNs n ds = true → PyData.canLayAll0 (pys ds) = true ∧ PyData.depthAll (pys ds) ≤ n
  | n, [], _ => by simp [pys, PyData.canLayAll0, PyData.depthAll]
  | n, d :: ds, h => by
    simp only [okNs, Bool.and_eq_true] at h
    have h1 := okN_lay h.1
    have h2 := okNs_lay h.2
    simp only [pys, PyData.canLayAll0, PyData.depthAll, Bool.and_eq_true]
    exact ⟨⟨h1.1, h2.1⟩, Nat.max_le.mpr ⟨h1.2, h2.2⟩⟩
end
mutual
theorem eqD_py : ∀ {n m : Nat} {d e : D}, okN n d = true → okN m e = true → PyData.eqv d.py e.py = eqD d e
  | n, m, d, .ins _ _, _, h => by cases m <;> simp [okN] at h
  | n, m, .ins _ _, e, h, _ => by cases n <;> simp [okN] at h
  | n, m, d, .scr _, _, h => by cases m <;> simp [okN] at h
  | n, m, .scr _, e, h, _ => by cases n <;> simp [okN] at h
  | n, m, .non, .non, _, _ | n, m, .non, .bl _, _, _ | n, m, .non, .int _, _, _ | n, m, .non, .str _, _, _ | n, m, .non, .tup _, _, _ | n, m, .non, .lst _, _, _ => by simp [D.py, PyData.eqv, eqD]
  | n, m, .bl _, .non, _, _ | n, m, .bl _, .bl _, _, _ | n, m, .bl _, .int _, _, _ | n, m, .bl _, .str _, _, _ | n, m, .bl _, .tup _, _, _ | n, m, .bl _, .lst _, _, _ => by simp [D.py, PyData.eqv, eqD]
  | n, m, .int _, .non, _, _ | n, m, .int _, .bl _, _, _ | n, m, .int _, .int _, _, _ | n, m, .int _, .str _, _, _ | n, m, .int _, .tup _, _, _ | n, m, .int _, .lst _, _, _ => by simp [D.py, PyData.eqv, eqD]
  | n, m, .str _, .non, _, _ | n, m, .str _, .bl _, _, _ | n, m, .str _, .int _, _, _ | n, m, .str _, .str _, _, _ | n, m, .str _, .tup _, _, _ | n, m, .str _, .lst _, _, _ => by simp [D.py, PyData.eqv, eqD]
  | n, m, .tup _, .non, _, _ | n, m, .tup _, .bl _, _, _ | n, m, .tup _, .int _, _, _ | n, m, .tup _, .str _, _, _ | n, m, .tup _, .lst _, _, _ => by simp [D.py, PyData.eqv, eqD]
  | n, m, .lst _, .non, _, _ | n, m, .lst _, .bl _, _, _ | n, m, .lst _, .int _, _, _ | n, m, .lst _, .str _, _, _ | n, m, .lst _, .tup _, _, _ => by simp [D.py, PyData.eqv, eqD]
  | 0, m, .tup xs, .tup ys, h, _ => by simp [okN] at h
  | n + 1, 0, .tup xs, .tup ys, _, h => by simp [okN] at h
  | 0, m, .lst xs, .lst ys, h, _ => by simp [okN] at h
  | n + 1, 0, .lst xs, .lst ys, _, h => by simp [okN] at h
  | n + 1, m + 1, .tup xs, .tup ys, h, h' => by
    simp only [okN] at h h'
    simp only [D.py, PyData.eqv, eqD]
    exact eqDs_py h h'
  | n + 1, m + 1, .lst xs, .lst ys, h, h' => by
    simp only [okN] at h h'
    simp only [D.py, PyData.eqv, eqD]
    exact eqDs_py h h'
theorem eqDs_py : ∀ {n m : Nat} {ds es : List D}, okNs n ds = true → okNs m es = true → PyData.eqvAll (pys ds) (pys es) = eqDs ds es
  | n, m, [], [], _, _ => by simp [pys, PyData.eqvAll, eqDs]
  | n, m, [], _ :: _, _, _ => by simp [pys, PyData.eqvAll, eqDs]
  | n, m, _ :: _, [], _, _ => by simp [pys, PyData.eqvAll, eqDs]
  | n, m, d :: ds, e :: es, h, h' => by
    simp only [okNs, Bool.and_eq_true] at h h'
    simp only [pys, PyData.eqvAll, eqDs, eqD_py h.1 h'.1, eqDs_py h.2 h'.2]
end
section
variable {G : Gx} {O W : List Addr} {H : Hp}
mutual
theorem Rp.dp : ∀ {n : Nat} {d : D} {v : V}, okN n d = true → Rp G O H d v → Dp G.K H v d.py
  | n, .non, v, _, h => by simp only [Rp] at h; subst h; simp only [D.py]; exact .non
  | n, .bl b, v, _, h => by simp only [Rp] at h; subst h; simp only [D.py]; exact .bl b
  | n, .int b, v, _, h => by simp only [Rp] at h; subst h; simp only [D.py]; exact .int b
  | n, .str b, v, _, h => by simp only [Rp] at h; subst h; simp only [D.py]; exact .str b
  | 0, .tup ds, v, h, _ => by simp [okN] at h
  | 0, .lst ds, v, h, _ => by simp [okN] at h
  | n + 1, .tup ds, v, h, q => by
    simp only [Rp] at q
    obtain ⟨a, vs, rfl, t, r⟩ := q
    simp only [okN] at h
    simp only [D.py]
    exact .tup t.sq (RpA.dp h r)
  | n + 1, .lst ds, v, h, q => by
    simp only [Rp] at q
    obtain ⟨a, vs, rfl, t, r⟩ := q
    simp only [okN] at h
    simp only [D.py]
    exact .lst t.sq (RpA.dp h r)
  | n, .ins _ _, v, h, _ => by cases n <;> simp [okN] at h
  | n, .scr _, v, h, _ => by cases n <;> simp [okN] at h
theorem RpA.dp : ∀ {n : Nat} {ds : List D} {vs : List V}, okNs n ds = true → RpA G O H ds vs → DpAll G.K H vs (pys ds)
  | n, [], vs, _, h => by simp only [RpA] at h; subst h; simp only [pys]; exact .nil
  | n, d :: ds, vs, h, q => by
    simp only [RpA] at q
    obtain ⟨v, r, rfl, h1, h2⟩ := q
    simp only [okNs, Bool.and_eq_true] at h
    simp only [pys]
    exact .cons (Rp.dp h.1 h1) (RpA.dp h.2 h2)
end
theorem Op1.dp {n : Nat} {d : D} {v : V} (h : okN n d = true) (q : Op1 G O W H d v) : Dp G.K H v d.py := by
  rcases q with q | ⟨a, xs, rfl, rfl, _, vs, h2, h3, h4⟩
  · exact q.dp h
  · cases n with
    | zero => simp [okN] at h
    | succ n =>
      simp only [okN] at h
      simp only [D.py]
      exact .lst (SqL.of h2) (h4.dp h)
end
abbrev okD (d : D) : Bool := okN 60 d
theorem okD_shaped {d : D} (h : okD d = true) : SeqAt.shaped d.py = true := by
  have := okN_lay h
  unfold SeqAt.shaped
  rw [this.1, decide_eq_true (show d.py.depth ≤ 64 by omega)]
  rfl
def pEq : List D → Rs SD
  | [x, y] => if okD x && okD y then .ok (.sh (.bl (eqD x y))) else .bad
  | _ => .bad
def pNe : List D → Rs SD
  | [x, y] => if okD x && okD y then .ok (.sh (.bl (!eqD x y))) else .bad
  | _ => .bad
section
variable {X : Cx} {cl : Cl} {vs0 : List V} {Wx : WX}
theorem pr_eq : PrimR X cl (rd2 (rEqD X.K)) pEq := by
  intro O W H ds vs Q w ho hp
  unfold pEq at hp
  split at hp
  · split at hp
    · rename_i hk
      rw [Bool.and_eq_true] at hk
      obtain ⟨x, y, rfl, h1, h2⟩ := ho.two
      refine ⟨_, _, h1.dp hk.1, h2.dp hk.2, okD_shaped hk.1, okD_shaped hk.2, ?_⟩
      rw [eqD_py hk.1 hk.2]
      exact hp _ H (Same.refl H) (by simp only [Rp])
    · exact hp.elim
  · exact hp.elim
theorem pr_ne : PrimR X cl (rd2 (rNeD X.K)) pNe := by
  intro O W H ds vs Q w ho hp
  unfold pNe at hp
  split at hp
  · split at hp
    · rename_i hk
      rw [Bool.and_eq_true] at hk
      obtain ⟨x, y, rfl, h1, h2⟩ := ho.two
      refine ⟨_, _, h1.dp hk.1, h2.dp hk.2, okD_shaped hk.1, okD_shaped hk.2, ?_⟩
      rw [eqD_py hk.1 hk.2]
      exact hp _ H (Same.refl H) (by simp only [Rp])
    · exact hp.elim
  · exact hp.elim
def pI2 (C : Int → Int → Prop) [∀ i j, Decidable (C i j)] (g : Int → Int → D) : List D → Rs SD
  | [.int i, .int j] => if C i j then .ok (.sh (g i j)) else .bad
  | _ => .bad
theorem pr_I2 {C : Int → Int → Prop} [∀ i j, Decidable (C i j)] {g : Int → Int → D} {gv : Int → Int → V} {r : R2} (hg : ∀ (G : Gx) O H i j, Rp G O H (g i j) (gv i j)) (hr : ∀ x y H Q, rI C gv x y H Q → r x y H Q) : PrimR X cl (rd2 r) (pI2 C g) := by
  intro O W H ds vs Q w ho hp
  unfold pI2 at hp
  split at hp
  · split at hp
    · rename_i hc
      obtain ⟨x, y, rfl, h1, h2⟩ := ho.two
      exact hr _ _ _ _ ⟨_, _, h1.int, h2.int, hc, hp _ H (Same.refl H) (hg _ _ _ _ _)⟩
    · exact hp.elim
  · exact hp.elim
def pI0 (g : Int → Int → D) : List D → Rs SD
  | [.int i, .int j] => .ok (.sh (g i j))
  | _ => .bad
theorem pr_I0 {g : Int → Int → D} {gv : Int → Int → V} (hg : ∀ (G : Gx) O H i j, Rp G O H (g i j) (gv i j)) : PrimR X cl (rd2 (rI0 gv)) (pI0 g) := by
  intro O W H ds vs Q w ho hp
  unfold pI0 at hp
  split at hp
  · obtain ⟨x, y, rfl, h1, h2⟩ := ho.two
    exact ⟨_, _, h1.int, h2.int, hp _ H (Same.refl H) (hg _ _ _ _ _)⟩
  · exact hp.elim
abbrev pSub := pI0 fun i j => .int (i - j)
abbrev pLt := pI0 fun i j => .bl (decide (i < j))
abbrev pGt := pI0 fun i j => .bl (decide (j < i))
abbrev pGe := pI0 fun i j => .bl (decide (j ≤ i))
noncomputable instance decMul (i j : Int) : Decidable (IntMulOk i j) := Classical.propDecidable _
def CDv (_ j : Int) : Prop := j ≠ 0 ∧ j.natAbs.log2 < 9000
instance (i j : Int) : Decidable (CDv i j) := by unfold CDv; infer_instance
def CMd (_ j : Int) : Prop := j ≠ 0
instance (i j : Int) : Decidable (CMd i j) := by unfold CMd; infer_instance
abbrev pFdiv := pI2 CDv fun i j => .int (i.fdiv j)
abbrev pMod := pI2 CMd fun i j => .int (i.fmod j)
theorem op_fdivD : OpR X (binaryOp .FloorDiv) (rI CDv fun i j => .int (i.fdiv j)) := opI fun i j _ _ _ _ _ hc q => floordiv_int hc.1 q (.inl (PyProof.noPylong_of_log2 hc.2))
instance (i j : Int) : Decidable (CPow i j) := by unfold CPow; infer_instance
abbrev pPow := pI2 CPow fun i j => .int (i ^ j.toNat)
theorem op_mulI : OpR X (binaryOp .Mult) (rI IntMulOk fun i j => .int (i * j)) := opI fun _ _ _ _ _ _ _ hc q => mul_int q hc
variable {a b : Expr} {pos : Pos} {fl : List LOp}
theorem ej_sub (h : OJ X cl vs0 Wx [a, b] fl) : EJ X cl vs0 Wx (.BinOp a .Sub b pos) (xPrim fl pSub) := ej_bin op_sub (pr_I0 fun _ _ _ _ _ => by simp only [Rp]) h
theorem ej_fdiv (h : OJ X cl vs0 Wx [a, b] fl) : EJ X cl vs0 Wx (.BinOp a .FloorDiv b pos) (xPrim fl pFdiv) := ej_bin op_fdivD (pr_I2 (fun _ _ _ _ _ => by simp only [Rp]) fun _ _ _ _ h => h) h
theorem ej_mod (h : OJ X cl vs0 Wx [a, b] fl) : EJ X cl vs0 Wx (.BinOp a .Mod b pos) (xPrim fl pMod) := ej_bin op_modN (pr_I2 (fun _ _ _ _ _ => by simp only [Rp]) fun _ _ _ _ h => h) h
theorem ej_pow (h : OJ X cl vs0 Wx [a, b] fl) : EJ X cl vs0 Wx (.BinOp a .Pow b pos) (xPrim fl pPow) := ej_bin op_pow (pr_I2 (fun _ _ _ _ _ => by simp only [Rp]) fun _ _ _ _ h => h) h
theorem ej_ge (h : OJ X cl vs0 Wx [a, b] fl) : EJ X cl vs0 Wx (.Compare a [.GtE] [b] pos) (xPrim fl pGe) := ej_cmp op_ge (pr_I0 fun _ _ _ _ _ => by simp only [Rp]) h (nomark _)
theorem ej_eq (hu : X.A.units + 64 < cLine) (h : OJ X cl vs0 Wx [a, b] fl) : EJ X cl vs0 Wx (.Compare a [.Eq] [b] pos) (xPrim fl pEq) := ej_cmp (op_eqD hu) pr_eq h (nomark _)
theorem ej_ne (hu : X.A.units + 64 < cLine) (h : OJ X cl vs0 Wx [a, b] fl) : EJ X cl vs0 Wx (.Compare a [.NotEq] [b] pos) (xPrim fl pNe) := ej_cmp (op_neD hu) pr_ne h (nomark _)
def pNeg : List D → Rs SD
  | [.int i] => .ok (.sh (.int (-i)))
  | _ => .bad
theorem ej_neg (h : OJ X cl vs0 Wx [a] fl) : EJ X cl vs0 Wx (.UnaryOp .USub a pos) (xPrim fl pNeg) := ej_un un_neg (fun O W H ds vs Q w ho hp => by
  unfold pNeg at hp
  split at hp
  · obtain ⟨x, rfl, h1⟩ := ho.one
    exact ⟨_, h1.int, hp _ H (Same.refl H) (by simp only [Rp])⟩
  · exact hp.elim) h
def pNotN : List D → Rs SD
  | [.non, .non] => .ok (.sh (.bl false))
  | [_, .non] => .ok (.sh (.bl true))
  | _ => .bad
theorem Op1.notNon {G : Gx} {O W : List Addr} {H : Hp} {d : D} {v : V} (h : Op1 G O W H d v) (hd : d ≠ .non) : v ≠ .non := by
  rcases h with h | ⟨a, xs, rfl, rfl, _⟩
  · cases d <;> simp only [Rp] at h
    · exact absurd rfl hd
    · rw [h]; exact fun z => nomatch z
    · rw [h]; exact fun z => nomatch z
    · rw [h]; exact fun z => nomatch z
    · obtain ⟨a, vs, e, _⟩ := h; rw [e]; exact fun z => nomatch z
    · obtain ⟨a, vs, e, _⟩ := h; rw [e]; exact fun z => nomatch z
    · obtain ⟨a, vs, _, e, _⟩ := h; rw [e]; exact fun z => nomatch z
    · obtain ⟨a, e, _⟩ := h; rw [e]; exact fun z => nomatch z
    · obtain ⟨a, gs, e, _⟩ := h; rw [e]; exact fun z => nomatch z
  · exact fun z => nomatch z
end
end Wm
end
section
namespace Wm
open PySem PySem.Spec PyProof.Rows L2
theorem tuple_mulS (l : Addr) (items : Array Value) (n : Nat) (dd : Option Addr) (sl : Array (Option Value)) (x : Int) (u : Tok) (c0 : (decide (x < -(2 ^ 63)) || decide (x ≥ 2 ^ 63)) = false) (c1 : (items.isEmpty || x == 1) = true) :
    Meets (Builtin.«tuple.__mul__» ⟨[.ref l, .int x u], []⟩) (fun _ R s => s.heap.get? l = some { cls := .type "tuple", dict := dd, data := .seq items n, slots := sl } ∧
      R (.ok (.ret (Value.ref l))) s) :=
  .of_wp fun prog w A R s h => by
    obtain ⟨hp, g, d, tk, os⟩ := s
    obtain ⟨hl, h⟩ := h
    have f1 := AutoSeq1.idx_int
    wp_walk using wpAny_loadPart' hl
    repeat (first
      | (refine wpAny_ite_false (decide_eq_false (by rw [c0]; exact Bool.false_ne_true)) ?_; wp_walk using wpAny_loadPart' hl)
      | (refine wpAny_ite_true (decide_eq_true (by rw [c1])) ?_; wp_walk using wpAny_loadPart' hl))
    exact ⟨_, rfl, h⟩
theorem tuple_mul0 (l : Addr) (items : Array Value) (n : Nat) (dd : Option Addr) (sl : Array (Option Value)) (x : Int) (u : Tok) (c0 : (decide (x < -(2 ^ 63)) || decide (x ≥ 2 ^ 63)) = false) (c1 : (items.isEmpty || x == 1) = false) (c2 : (decide (x ≤ 0) || items.isEmpty) = true) :
    Meets (Builtin.«tuple.__mul__» ⟨[.ref l, .int x u], []⟩) (fun _ R s => s.heap.get? l = some { cls := .type "tuple", dict := dd, data := .seq items n, slots := sl } ∧
      R (.ok (.ret (Value.ref s.heap.objs.size))) { s with heap := s.heap.push { cls := Value.type "tuple", data := Data.seq #[] }, toks := s.toks }) :=
  .of_wp fun prog w A R s h => by
    obtain ⟨hp, g, d, tk, os⟩ := s
    obtain ⟨hl, h⟩ := h
    have f1 := AutoSeq1.idx_int
    wp_walk using wpAny_loadPart' hl
    repeat (first
      | (refine wpAny_ite_false (decide_eq_false (by rw [c0]; exact Bool.false_ne_true)) ?_; wp_walk using wpAny_loadPart' hl)
      | (refine wpAny_ite_false (decide_eq_false (by rw [c1]; exact Bool.false_ne_true)) ?_; wp_walk using wpAny_loadPart' hl)
      | (refine wpAny_ite_true (decide_eq_true (by rw [c2])) ?_; wp_walk using wpAny_loadPart' hl))
    exact ⟨_, rfl, h⟩
section
variable {X : Cx} {cl : Cl} {vs0 : List V} {Wx : WX}
def rRepS (K : PySem.W.Frag) : R2 := fun x y H Q => ∃ l k xs, x = .ref l ∧ y = .int k ∧ SqT K H l xs ∧ (xs = [] ∨ k = 1) ∧ -(2 ^ 63) ≤ k ∧ k < 2 ^ 63 ∧ Q (.ref l) H
def rRep0 (K : PySem.W.Frag) : R2 := fun x y H Q => ∃ l k xs, x = .ref l ∧ y = .int k ∧ SqT K H l xs ∧ xs ≠ [] ∧ k ≤ 0 ∧ -(2 ^ 63) ≤ k ∧ ∀ p, H p = none → Q (.ref p) (upd H p (.tup []))
theorem op_repS : OpR X (binaryOp .Mult) (rRepS X.K) := by
  intro pins s σ H x y v u Q I rx ry h
  obtain ⟨l, k, xs, rfl, rfl, hT, hne, h1, h2, q⟩ := h
  cases rx
  obtain ⟨t, rfl⟩ := ry
  obtain ⟨its, r, ⟨⟨cls, dd, data, sl⟩, ho, hc, n, hd⟩, hs⟩ := I.tuple hT
  simp only at hc hd
  subst hc hd
  have c0 : (decide (k < -(2 ^ 63)) || decide (k ≥ 2 ^ 63)) = false := by
    rw [decide_eq_false (by omega), decide_eq_false (by omega)] <;> rfl
  have c1 : (its.toArray.isEmpty || k == 1) = true := by
    rcases hne with z | z
    · subst z
      cases r
      rfl
    · rw [z]; simp
  refine wpAny_binaryOp_repeat_ref (T := "tuple") (U := "int") (by decide) ⟨_, ho, rfl⟩ (fun s' => typeIs_int s' k t) noFill_tuple_mul F.fills_int_mul F.slot_int_rmul repeat_tuple F.slot_int_index.lookup
    (call_meets F.slot_int_rmul (typeIs_int s k t) F.entry_int_rmul (F.args_int_rmul_2 _ _) (int_rmul_tuple k t l its.toArray n dd sl)
      ⟨ho, rfl, ⟨_, ho, rfl⟩, call_meets F.slot_tuple_mul ⟨_, ho, rfl⟩ F.entry_tuple_mul (F.args_tuple_mul_2 _ _) (tuple_mulS l its.toArray n dd sl k t c0 c1) ⟨ho, ?_⟩⟩)
  exact ⟨.ref l, H, I, rfl, q⟩
theorem op_rep0 : OpR X (binaryOp .Mult) (rRep0 X.K) := by
  intro pins s σ H x y v u Q I rx ry h
  obtain ⟨l, k, xs, rfl, rfl, hT, hne, h1, h2, q⟩ := h
  cases rx
  obtain ⟨t, rfl⟩ := ry
  obtain ⟨its, r, ⟨⟨cls, dd, data, sl⟩, ho, hc, n, hd⟩, hs⟩ := I.tuple hT
  simp only at hc hd
  subst hc hd
  have c0 : (decide (k < -(2 ^ 63)) || decide (k ≥ 2 ^ 63)) = false := by
    rw [decide_eq_false (by omega), decide_eq_false (by omega)] <;> rfl
  have hi : its.toArray.isEmpty = false := by
    cases r with
    | nil => exact absurd rfl hne
    | cons a b => rfl
  have c1 : (its.toArray.isEmpty || k == 1) = false := by
    rw [hi, Bool.false_or]
    exact beq_eq_false_iff_ne.mpr (by omega)
  have c2 : (decide (k ≤ 0) || its.toArray.isEmpty) = true := by
    rw [decide_eq_true h1]; rfl
  refine wpAny_binaryOp_repeat_ref (T := "tuple") (U := "int") (by decide) ⟨_, ho, rfl⟩ (fun s' => typeIs_int s' k t) noFill_tuple_mul F.fills_int_mul F.slot_int_rmul repeat_tuple F.slot_int_index.lookup
    (call_meets F.slot_int_rmul (typeIs_int s k t) F.entry_int_rmul (F.args_int_rmul_2 _ _) (int_rmul_tuple k t l its.toArray n dd sl)
      ⟨ho, rfl, ⟨_, ho, rfl⟩, call_meets F.slot_tuple_mul ⟨_, ho, rfl⟩ F.entry_tuple_mul (F.args_tuple_mul_2 _ _) (tuple_mul0 l its.toArray n dd sl k t c0 c1 c2) ⟨ho, ?_⟩⟩)
  refine ⟨.ref s.heap.objs.size, _, I.laid (t' := s.toks) (o := .tup []) (fun b ob q => Heap.get?_push_of_some _ q) (Nat.le_refl _) ?_, rfl, q _ (I.hok.fresh (Nat.le_refl _))⟩
  exact ⟨Nat.zero_le _, [], .nil, IsTup.new _ _⟩
noncomputable def pMul : List D → Rs SD
  | [.int i, .int j] => if IntMulOk i j then .ok (.sh (.int (i * j))) else .bad
  | [.tup xs, .int k] => if -(2 ^ 63) ≤ k ∧ k ≤ 1000 ∧ xs.length ≤ 1000 then .ok (.sh (.tup (List.replicate k.toNat xs).flatten)) else .bad
  | [.lst xs, .int k] => if -(2 ^ 63) ≤ k ∧ k < 2 ^ 63 ∧ xs.length * k.toNat ≤ sizeLine then .ok (.own (List.replicate k.toNat xs).flatten) else .bad
  | _ => .bad
theorem op_mulD : OpR X (binaryOp .Mult) (fun x y H Q => rI IntMulOk (fun i j => .int (i * j)) x y H Q ∨ rRepS X.K x y H Q ∨ rRep0 X.K x y H Q ∨ rRepT X.K x y H Q ∨ rRep x y H Q) := op_mulI.or (op_repS.or (op_rep0.or (op_repT.or op_rep)))
theorem pr_mul : PrimR X cl (rd2 fun x y H Q => rI IntMulOk (fun i j => .int (i * j)) x y H Q ∨ rRepS X.K x y H Q ∨ rRep0 X.K x y H Q ∨ rRepT X.K x y H Q ∨ rRep x y H Q) pMul := by
  intro O W H ds vs Q w ho hp
  unfold pMul at hp
  split at hp
  · obtain ⟨x, y, rfl, h1, h2⟩ := ho.two
    split at hp
    · rename_i hc
      exact .inl ⟨_, _, h1.int, h2.int, hc, hp _ H (Same.refl H) (by simp only [Rp])⟩
    · exact hp.elim
  · rename_i ds k
    obtain ⟨x, y, rfl, h1, h2⟩ := ho.two
    split at hp
    · rename_i hz
      obtain ⟨a, xs, e1, t1, r1⟩ := h1.tup
      have l1 := r1.length
      by_cases hk : k = 1
      · refine .inr (.inl ⟨a, k, xs, e1, h2.int, t1.sq, .inr hk, hz.1, by omega, hp _ H (Same.refl H) ?_⟩)
        subst hk
        simp only [Rp]
        exact ⟨a, xs, rfl, t1, by simpa using r1⟩
      · by_cases hx : xs = []
        · refine .inr (.inl ⟨a, k, xs, e1, h2.int, t1.sq, .inl hx, hz.1, by omega, hp _ H (Same.refl H) ?_⟩)
          subst hx
          have : ds = [] := List.eq_nil_of_length_eq_zero l1
          subst this
          simp only [Rp]
          exact ⟨a, [], rfl, t1, by simpa using RpA.rep r1 k.toNat⟩
        · by_cases h0 : k ≤ 0
          · refine .inr (.inr (.inl ⟨a, k, xs, e1, h2.int, t1.sq, hx, h0, hz.1, fun p n => hp _ _ (same_upd n) ?_⟩))
            have e0 : k.toNat = 0 := by omega
            rw [e0]
            exact rp_tup w n (Nat.zero_le _) (by simp only [List.replicate_zero, List.flatten_nil, RpA])
          · refine .inr (.inr (.inr (.inl ⟨a, k, xs, e1, h2.int, t1.sq, hx, by omega, hz.2.1, by omega, fun p n => hp _ _ (same_upd n) (rp_tup w n ?_ (RpA.rep r1 k.toNat))⟩)))
            rw [PyProof.Rows.lm_len_rep_flat, sizeLine_eq]
            have a1 : k.toNat * xs.length ≤ 1000 * 1000 := Nat.mul_le_mul (by omega) (by omega)
            omega
    · exact hp.elim
  · obtain ⟨x, y, rfl, h1, h2⟩ := ho.two
    split at hp
    · rename_i hz
      obtain ⟨a, xs, e1, t1, z1, r1⟩ := h1.lst
      have l1 := r1.length
      rw [l1] at hz
      refine .inr (.inr (.inr (.inr ⟨a, _, xs, e1, h2.int, t1, hz.1, hz.2.1, hz.2.2, fun p n => hp p _ _ (same_upd n) n upd_same ?_ (RpA.rep r1 _)⟩)))
      rw [PyProof.Rows.lm_len_rep_flat, Nat.mul_comm]
      exact hz.2.2
    · exact hp.elim
  · exact hp.elim
variable {a b : Expr} {pos : Pos} {fl : List LOp}
theorem ej_mul (h : OJ X cl vs0 Wx [a, b] fl) : EJ X cl vs0 Wx (.BinOp a .Mult b pos) (xPrim fl pMul) := ej_bin op_mulD pr_mul h
def pIx : List D → Rs SD
  | [.lst xs, .int i] => match atI xs i with
    | some d => .ok (.sh d)
    | none => .bad
  | [.tup xs, .int i] => match atI xs i with
    | some d => .ok (.sh d)
    | none => .bad
  | _ => .bad
theorem atI_rp {G : Gx} {O : List Addr} {H : Hp} {ds : List D} {vs : List V} {i : Int} {d : D} (r : RpA G O H ds vs) (h : atI ds i = some d) : ∃ v, atI vs i = some v ∧ Rp G O H d v := by
  unfold atI at h ⊢
  rw [r.length] at h
  cases e : ixN vs.length i with
  | none => rw [e] at h; cases h
  | some j =>
    rw [e] at h
    exact r.getD h
theorem pr_ix : PrimR X cl (rd2 (rIx X.K)) pIx := by
  intro O W H ds vs Q w ho hp
  unfold pIx at hp
  split at hp
  · obtain ⟨x, y, rfl, h1, h2⟩ := ho.two
    split at hp
    · rename_i d e
      obtain ⟨a, xs, e1, t1, z1, r1⟩ := h1.lst
      obtain ⟨v, ev, rv⟩ := atI_rp r1 e
      exact .inl ⟨a, xs, _, v, e1, h2.int, SqL.of t1, ev, hp v H (Same.refl H) rv⟩
    · exact hp.elim
  · obtain ⟨x, y, rfl, h1, h2⟩ := ho.two
    split at hp
    · rename_i d e
      obtain ⟨a, xs, e1, t1, r1⟩ := h1.tup
      obtain ⟨v, ev, rv⟩ := atI_rp r1 e
      exact .inr (.inl ⟨a, xs, _, v, e1, h2.int, t1.sq, ev, hp v H (Same.refl H) rv⟩)
    · exact hp.elim
  · exact hp.elim
theorem ej_sbs (h : OJ X cl vs0 Wx [a, b] fl) (hs : PlainIx b := by exact fun _ _ => rfl) : EJ X cl vs0 Wx (.Subscript a b pos) (xPrim fl pIx) := ej_ix ix_seq pr_ix h hs
end
end Wm
end
section
namespace Wm
open PySem PySem.Spec PyProof.Rows L2
section
variable {X : Cx} {cl : Cl} {vs0 : List V} {Wx : WX}
def cutL {α : Type} (xs : List α) (lo hi : Option Int) : List α := (xs.drop (HT.sIx xs.length 0 lo)).take (HT.sIx xs.length xs.length hi - HT.sIx xs.length 0 lo)
theorem RpA.cut {G : Gx} {O : List Addr} {H : Hp} {ds : List D} {vs : List V} (r : RpA G O H ds vs) (lo hi : Option Int) : RpA G O H (cutL ds lo hi) (cutV vs lo hi) := by
  unfold cutL cutV
  rw [r.length]
  exact (r.drop _).take _
def slD (lo hi : Option Int) : D → Rs SD
  | .lst xs => .ok (.own (cutL xs lo hi))
  | .tup xs => .ok (.sh (.tup (cutL xs lo hi)))
  | _ => .bad
def rSl (K : PySem.W.Frag) : V → Option Int → Option Int → Hp → VK → Prop := fun x lo hi H Q => rSlL K x lo hi H Q ∨ rSlA K x lo hi H Q
theorem sl_any : SlR X (rSl X.K) := sl_list.or sl_tupA
theorem sl_ok {O W : List Addr} {H : Hp} {d : D} {v : V} {lo hi : Option Int} {Q : VK} (w : Wf O W H) (h : Op1 (gx X cl) O W H d v) (hp : AftP (gx X cl) O H Q (slD lo hi d)) : rSl X.K v lo hi H Q := by
  cases d with
  | lst xs =>
    obtain ⟨a, vs, e, t, z, r⟩ := h.lst
    refine .inl ⟨a, vs, e, SqL.of t, fun p n => hp p _ _ (same_upd n) n upd_same (Nat.le_trans (cutV_length _ _ _) z) (r.cut lo hi)⟩
  | tup xs =>
    obtain ⟨a, vs, e, t, r⟩ := h.tup
    subst e
    refine .inr ⟨a, vs, rfl, t.sq, fun hw => hp _ H (Same.refl H) ?_, fun _ p n => hp _ _ (same_upd n) (rp_tup w n (Nat.le_trans (cutV_length _ _ _) t.1) (r.cut lo hi))⟩
    simp only [Rp]
    refine ⟨a, vs, rfl, t, ?_⟩
    have e2 : cutL xs lo hi = xs := by
      unfold cutL
      rw [r.length, hw.1, hw.2, Nat.sub_zero, List.drop_zero]
      exact List.take_of_length_le (Nat.le_of_eq r.length)
    rw [e2]; exact r
  | _ => exact hp.elim
def pSlLo : List D → Rs SD
  | [d, .int i] => slD (some i) none d
  | _ => .bad
def pSlHi : List D → Rs SD
  | [d, .int j] => slD none (some j) d
  | _ => .bad
variable {a b c e : Expr} {pos p2 : Pos} {fl : List LOp}
theorem ej_slLo (h : OJ X cl vs0 Wx [a, b] fl) : EJ X cl vs0 Wx (.Subscript a (.Slice (some b) none none p2) pos) (xPrim fl pSlLo) := by
  obtain ⟨ta, tb, ha, hb, q⟩ := two_of h
  refine ⟨⟨_, pe_slice sl_any ha (po_some hb) po_none, prim_core (rd := rd2 fun x y H Q => ∃ i, y = .int i ∧ rSl X.K x (some i) none H Q) (fun O W H ds vs Q w ho hp => ?_) q⟩⟩
  unfold pSlLo at hp
  split at hp
  · obtain ⟨x, y, rfl, h1, h2⟩ := ho.two
    exact ⟨_, h2.int, sl_ok w h1 hp⟩
  · exact hp.elim
theorem ej_slHi (h : OJ X cl vs0 Wx [a, b] fl) : EJ X cl vs0 Wx (.Subscript a (.Slice none (some b) none p2) pos) (xPrim fl pSlHi) := by
  obtain ⟨ta, tb, ha, hb, q⟩ := two_of h
  refine ⟨⟨_, pe_slice sl_any ha po_none (po_some hb), prim_core (rd := rd2 fun x y H Q => ∃ i, y = .int i ∧ rSl X.K x none (some i) H Q) (fun O W H ds vs Q w ho hp => ?_) q⟩⟩
  unfold pSlHi at hp
  split at hp
  · obtain ⟨x, y, rfl, h1, h2⟩ := ho.two
    exact ⟨_, h2.int, sl_ok w h1 hp⟩
  · exact hp.elim
def mops : List Sx → So
  | [], ρ => .ok ([], ρ)
  | f :: r, ρ => (f ρ).bind fun p => (mops r p.2).bind fun q => .ok (p.1.frz :: q.1, q.2)
def AftM (G : Gx) (vs0 : List V) (Wx : WX) (O W : List Addr) (σ : L2.St) (H : Hp) (Q : List V → Hp → Prop) : Rs (List D × List SD) → Prop
  | .ok (ds, ρ') => ∀ vs O' W' H', Stp O W H O' W' H' → SR G vs0 O' W' σ H' ρ' → RpA G O' H' ds vs → Q vs H'
  | .exc c fs ρ' => ExcA G vs0 Wx O W σ H c fs ρ'
  | .bad => False
structure MJ (X : Cx) (cl : Cl) (vs0 : List V) (Wx : WX) (es : List Expr) (fs : List Sx) : Prop where
  ex : ∃ t, PA X es t ∧ ∀ O W σ H ρ R, SR (gx X cl) vs0 O W σ H ρ → AftM (gx X cl) vs0 Wx O W σ H R (mops fs ρ) → t σ H R
theorem mj_nil : MJ X cl vs0 Wx [] [] := ⟨⟨_, pa_nil, fun O W σ H ρ R sr h => h [] O W H Stp.refl sr (by simp only [RpA])⟩⟩
theorem mj_cons {es : List Expr} {f : Sx} {fs : List Sx} (h : EJ X cl vs0 Wx e f) (hr : MJ X cl vs0 Wx es fs) (hs : starEach (e :: es) X.env = (false, eval e X.env) :: starEach es X.env := by rfl) : MJ X cl vs0 Wx (e :: es) (f :: fs) := by
  obtain ⟨ta, p2, p3⟩ := hr.ex
  obtain ⟨t, q1, q2⟩ := h.ex
  refine ⟨⟨_, pa_cons q1 p2 hs, fun O W σ H ρ R sr hw => ?_⟩⟩
  have hw' : AftM (gx X cl) vs0 Wx O W σ H R ((f ρ).bind fun p => (mops fs p.2).bind fun q => .ok (p.1.frz :: q.1, q.2)) := hw
  refine q2 O W σ H ρ _ sr ?_
  cases e0 : f ρ with
  | bad => rw [e0] at hw'; exact hw'
  | exc c fs ρ' => rw [e0] at hw'; exact hw'
  | ok p =>
    obtain ⟨r, ρ1⟩ := p
    rw [e0] at hw'
    have hw2 : AftM (gx X cl) vs0 Wx O W σ H R ((mops fs ρ1).bind fun q => .ok (r.frz :: q.1, q.2)) := hw'
    intro v O1 W1 H1 st1 sr1 rr
    obtain ⟨O2, W2, st2, sr2, rp⟩ := rr.frz sr1
    have st12 := st1.trans sr.wf st2
    refine p3 O2 W2 σ H1 ρ1 _ sr2 ?_
    cases e1 : mops fs ρ1 with
    | bad => rw [e1] at hw2; exact hw2
    | exc c fs ρ' => rw [e1] at hw2; exact ExcA.back sr.wf st12 hw2
    | ok q =>
      obtain ⟨ds, ρ2⟩ := q
      rw [e1] at hw2
      intro vs O' W' H' st sr' ho
      refine hw2 (v :: vs) O' W' H' (st12.trans sr.wf st) sr' ?_
      simp only [RpA]
      exact ⟨v, vs, rfl, rp.step sr2.wf st, ho⟩
def xLst (fs : List Sx) : Sx := fun ρ => (mops fs ρ).bind fun q => if q.1.length ≤ sizeLine then .ok (.own q.1, q.2) else .bad
def xTup (fs : List Sx) : Sx := fun ρ => (mops fs ρ).bind fun q => if q.1.length ≤ sizeLine then .ok (.sh (.tup q.1), q.2) else .bad
theorem ej_lst {es : List Expr} {fs : List Sx} (h : MJ X cl vs0 Wx es fs) : EJ X cl vs0 Wx (.List es pos) (xLst fs) := by
  obtain ⟨t, p, q⟩ := h.ex
  refine ⟨⟨_, pe_lst p, fun O W σ H ρ Q sr hw => q O W σ H ρ _ sr ?_⟩⟩
  unfold xLst at hw
  cases e : mops fs ρ with
  | bad => rw [e] at hw; exact hw
  | exc c fs ρ' => rw [e] at hw; exact hw
  | ok w =>
    obtain ⟨ds, ρ1⟩ := w
    rw [e] at hw
    have hw2 : AftE (gx X cl) vs0 Wx O W σ H Q (if ds.length ≤ sizeLine then .ok (.own ds, ρ1) else .bad) := hw
    intro vs O' W' H' st sr' ra
    split at hw2
    · rename_i hz
      refine ⟨by rw [← ra.length]; exact hz, fun p n => hw2 (.ref p) (p :: O') (p :: W') _ (st.trans sr.wf (Stp.new (same_upd n) n)) (sr'.new (same_upd n) n (noD_not upd_same)) ⟨p, rfl, ⟨List.mem_cons_self, vs, upd_same, by rw [← ra.length]; exact hz, ra.step sr'.wf (Stp.new (same_upd n) n)⟩, sr'.fre_mk (same_upd n) n⟩⟩
    · exact hw2.elim
theorem ej_tup {es : List Expr} {fs : List Sx} {k : Nat} (h : MJ X cl vs0 Wx es fs) : EJ X cl vs0 Wx (.Tuple es k pos) (xTup fs) := by
  obtain ⟨t, p, q⟩ := h.ex
  refine ⟨⟨_, pe_tup p, fun O W σ H ρ Q sr hw => q O W σ H ρ _ sr ?_⟩⟩
  unfold xTup at hw
  cases e : mops fs ρ with
  | bad => rw [e] at hw; exact hw
  | exc c fs ρ' => rw [e] at hw; exact hw
  | ok w =>
    obtain ⟨ds, ρ1⟩ := w
    rw [e] at hw
    have hw2 : AftE (gx X cl) vs0 Wx O W σ H Q (if ds.length ≤ sizeLine then .ok (.sh (.tup ds), ρ1) else .bad) := hw
    intro vs O' W' H' st sr' ra
    split at hw2
    · rename_i hz
      exact ⟨by rw [← ra.length]; exact hz, fun p n => hw2 (.ref p) O' W' _ (st.trans sr.wf (Stp.same (same_upd n))) (sr'.same (same_upd n)) (rp_tup sr'.wf n (by rw [← ra.length]; exact hz) ra)⟩
    · exact hw2.elim
theorem ej_callB {x : Str} {id : String} {r : List V → Hp → VK → Prop} {p : Pos} {es : List Expr} {pr : List D → Rs SD} (hc : CallR X (.builtin id) r) (hp : PrimR X cl r pr) (hg : Gl X x) (hm : X.mg x = none) (hv : bootBuiltins x = some (.builtin id)) (h : OJ X cl vs0 Wx (e :: es) fl)
    (hn : x ≠ "__name__" := by decide) (hdb : (x == ("__debug__" : Str)) = false := by decide) (he : starEach (e :: es) X.env = (false, eval e X.env) :: starEach es X.env := by rfl) (hpl : (backTo pos (starEach es X.env)).any (·.1) = false := by rfl) :
    EJ X cl vs0 Wx (.Call (.Name x p) (e :: es) [] pos) (xPrim fl pr) := by
  obtain ⟨ts, _, pa, q⟩ := h.ex
  exact ⟨⟨_, pe_callB hc hg hm hv pa hn hdb he hpl, prim_core hp q⟩⟩
theorem ej_callTy {x : Str} {id : String} {r : List V → Hp → VK → Prop} {p : Pos} {es : List Expr} {pr : List D → Rs SD} (hc : CallR X (.type id) r) (hp : PrimR X cl r pr) (hg : Gl X x) (hm : X.mg x = none) (hv : bootBuiltins x = some (.type id)) (h : OJ X cl vs0 Wx (e :: es) fl)
    (hn : x ≠ "__name__" := by decide) (hdb : (x == ("__debug__" : Str)) = false := by decide) (he : starEach (e :: es) X.env = (false, eval e X.env) :: starEach es X.env := by rfl) (hpl : (backTo pos (starEach es X.env)).any (·.1) = false := by rfl) :
    EJ X cl vs0 Wx (.Call (.Name x p) (e :: es) [] pos) (xPrim fl pr) := by
  obtain ⟨ts, _, pa, q⟩ := h.ex
  exact ⟨⟨_, pe_callTy hc hg hm hv pa hn hdb he hpl, prim_core hp q⟩⟩
def pLen : List D → Rs SD
  | [.lst xs] => .ok (.sh (.int xs.length))
  | [.tup xs] => .ok (.sh (.int xs.length))
  | _ => .bad
theorem pr_len : PrimR X cl (fun xs H Q => ∃ p ys, xs = [.ref p] ∧ (SqL X.K H p ys ∨ SqT X.K H p ys) ∧ Q (.int ys.length) H) pLen := by
  intro O W H ds vs Q w ho hp
  unfold pLen at hp
  split at hp
  · obtain ⟨x, rfl, h1⟩ := ho.one
    obtain ⟨a, xs, rfl, t1, z1, r1⟩ := h1.lst
    rw [r1.length] at hp
    exact ⟨a, xs, rfl, .inl (SqL.of t1), hp _ H (Same.refl H) (by simp only [Rp])⟩
  · obtain ⟨x, rfl, h1⟩ := ho.one
    obtain ⟨a, xs, rfl, t1, r1⟩ := h1.tup
    rw [r1.length] at hp
    exact ⟨a, xs, rfl, .inr t1.sq, hp _ H (Same.refl H) (by simp only [Rp])⟩
  · exact hp.elim
def pList : List D → Rs SD
  | [.lst xs] => .ok (.own xs)
  | [.tup xs] => .ok (.own xs)
  | _ => .bad
theorem pr_list : PrimR X cl (fun xs H Q => ∃ p ys, xs = [.ref p] ∧ (SqL X.K H p ys ∨ SqT X.K H p ys) ∧ ∀ l, H l = none → Q (.ref l) (upd H l (.lst ys))) pList := by
  intro O W H ds vs Q w ho hp
  unfold pList at hp
  split at hp
  · obtain ⟨x, rfl, h1⟩ := ho.one
    obtain ⟨a, xs, rfl, t1, z1, r1⟩ := h1.lst
    exact ⟨a, xs, rfl, .inl (SqL.of t1), fun l n => hp l _ _ (same_upd n) n upd_same z1 r1⟩
  · obtain ⟨x, rfl, h1⟩ := ho.one
    obtain ⟨a, xs, rfl, t1, r1⟩ := h1.tup
    exact ⟨a, xs, rfl, .inr t1.sq, fun l n => hp l _ _ (same_upd n) n upd_same t1.1 r1⟩
  · exact hp.elim
def pTuple : List D → Rs SD
  | [.lst xs] => .ok (.sh (.tup xs))
  | [.tup xs] => .ok (.sh (.tup xs))
  | _ => .bad
theorem pr_tuple : PrimR X cl (fun xs H Q => ∃ p ys, xs = [.ref p] ∧ ((SqL X.K H p ys ∧ ∀ l, H l = none → Q (.ref l) (upd H l (.tup ys))) ∨ (SqT X.K H p ys ∧ Q (.ref p) H))) pTuple := by
  intro O W H ds vs Q w ho hp
  unfold pTuple at hp
  split at hp
  · obtain ⟨x, rfl, h1⟩ := ho.one
    obtain ⟨a, xs, rfl, t1, z1, r1⟩ := h1.lst
    exact ⟨a, xs, rfl, .inl ⟨SqL.of t1, fun l n => hp _ _ (same_upd n) (rp_tup w n z1 r1)⟩⟩
  · obtain ⟨x, rfl, h1⟩ := ho.one
    obtain ⟨a, xs, rfl, t1, r1⟩ := h1.tup
    exact ⟨a, xs, rfl, .inr ⟨t1.sq, hp _ H (Same.refl H) (by simp only [Rp]; exact ⟨a, xs, rfl, t1, r1⟩)⟩⟩
  · exact hp.elim
def pInt : List D → Rs SD
  | [.int i] => .ok (.sh (.int i))
  | [.bl b] => .ok (.sh (.int (if b then 1 else 0)))
  | _ => .bad
theorem pr_int : PrimR X cl (fun xs H Q => (∃ i, xs = [.int i] ∧ Q (.int i) H) ∨ ∃ k, xs = [.bl k] ∧ Q (.int (if k then 1 else 0)) H) pInt := by
  intro O W H ds vs Q w ho hp
  unfold pInt at hp
  split at hp
  · obtain ⟨x, rfl, h1⟩ := ho.one
    exact .inl ⟨_, by rw [h1.int], hp _ H (Same.refl H) (by simp only [Rp])⟩
  · obtain ⟨x, rfl, h1⟩ := ho.one
    exact .inr ⟨_, by rw [h1.bl], hp _ H (Same.refl H) (by simp only [Rp])⟩
  · exact hp.elim
def pAbs : List D → Rs SD
  | [.int i] => .ok (.sh (.int (if i < 0 then -i else i)))
  | _ => .bad
theorem pr_abs : PrimR X cl (fun xs H Q => ∃ i, xs = [.int i] ∧ Q (.int (if i < 0 then -i else i)) H) pAbs := by
  intro O W H ds vs Q w ho hp
  unfold pAbs at hp
  split at hp
  · obtain ⟨x, rfl, h1⟩ := ho.one
    exact ⟨_, by rw [h1.int], hp _ H (Same.refl H) (by simp only [Rp])⟩
  · exact hp.elim
def asInts : List D → Option (List Int)
  | [] => some []
  | .int i :: r => (asInts r).map (i :: ·)
  | _ :: _ => none
def asBls : List D → Option (List Bool)
  | [] => some []
  | .bl i :: r => (asBls r).map (i :: ·)
  | _ :: _ => none
theorem asInts_eq : ∀ {ds : List D} {ns : List Int}, asInts ds = some ns → ds = ns.map D.int
  | [], ns, h => by cases h; rfl
  | .int i :: r, ns, h => by
    simp only [asInts] at h
    obtain ⟨m, h1, h2⟩ := Option.map_eq_some_iff.mp h
    rw [asInts_eq h1, ← h2]; rfl
  | .non :: _, _, h | .bl _ :: _, _, h | .str _ :: _, _, h | .tup _ :: _, _, h | .lst _ :: _, _, h | .ins _ _ :: _, _, h | .scr _ :: _, _, h => by cases h
theorem asInts_map : ∀ (ns : List Int), asInts (ns.map D.int) = some ns
  | [] => rfl
  | n :: ns => by simp only [List.map_cons, asInts, asInts_map ns, Option.map_some]
def pIL (g : List Int → Rs SD) : List D → Rs SD
  | [.lst xs] => match asInts xs with
    | some ns => g ns
    | none => .bad
  | _ => .bad
theorem pr_IL {g : List Int → Rs SD} {r : List V → Hp → VK → Prop} (h : ∀ O H a ns Q, SqL X.K H a (ns.map V.int) → AftP (gx X cl) O H Q (g ns) → r [.ref a] H Q) : PrimR X cl r (pIL g) := by
  intro O W H ds vs Q w ho hp
  unfold pIL at hp
  split at hp
  · split at hp
    · rename_i ns e
      obtain ⟨x, rfl, h1⟩ := ho.one
      obtain ⟨a, xs, rfl, t1, z1, r1⟩ := h1.lst
      rw [asInts_eq e] at r1
      rw [r1.ints] at t1
      exact h O H a ns Q (SqL.of t1) hp
    · exact hp.elim
  · exact hp.elim
abbrev pSum := pIL fun ns => .ok (.sh (.int ns.sum))
theorem pr_sum : PrimR X cl (rSum X.K) pSum := pr_IL fun O H a ns Q s hp => ⟨a, ns, rfl, s, hp _ H (Same.refl H) (by simp only [Rp])⟩
end
end Wm
end
section
namespace Wm
open PySem PySem.Spec PyProof.Rows L2
inductive BT where
  | int | bool | tuple | list | str | dict
def BT.nm : BT → String
  | .int => "int"
  | .bool => "bool"
  | .tuple => "tuple"
  | .list => "list"
  | .str => "str"
  | .dict => "dict"
def D.tyN : D → Option String
  | .non => some "NoneType"
  | .bl _ => some "bool"
  | .int _ => some "int"
  | .str _ => some "str"
  | .tup _ => some "tuple"
  | .lst _ => some "list"
  | .dct _ => some "dict"
  | _ => none
def isB : BT → D → Option Bool
  | _, .ins _ _ => none
  | _, .scr _ => none
  | .dict, .dct _ => some true
  | .int, .int _ => some true
  | .int, .bl _ => some true
  | .bool, .bl _ => some true
  | .tuple, .tup _ => some true
  | .list, .lst _ => some true
  | .str, .str _ => some true
  | _, _ => some false
theorem isB_kit {t : BT} {d : D} {b : Bool} (h : isB t d = some b) : ∃ n, d.tyN = some n ∧ kitB n t.nm = some b := by
  cases d <;> cases t <;> first
    | (cases h; done)
    | (cases h; exact ⟨_, rfl, by decide +kernel⟩)
section
variable {X : Cx} {cl : Cl} {vs0 : List V} {Wx : WX}
theorem Op1.ty {O W : List Addr} {H : Hp} {d : D} {v : V} {n : String} (h : Op1 (gx X cl) O W H d v) (hn : d.tyN = some n) : TyX X.K H v (.type n) := by
  cases d with
  | non => cases hn; rw [h.non]; exact .base .non
  | bl b => cases hn; rw [h.bl]; exact .base (.bl b)
  | int b => cases hn; rw [h.int]; exact .base (.int b)
  | str b => cases hn; rw [h.str]; exact .base (.str b)
  | tup xs =>
    cases hn
    obtain ⟨a, vs, e, t, _⟩ := h.tup
    subst e
    rcases t.2 with ⟨r | ⟨o, r⟩, _⟩ | ⟨o, its, m, h1, h2, _⟩
    · exact .base (.tup r)
    · exact .fTuple r
    · exact .kTuple h1 h2
  | lst xs =>
    cases hn
    obtain ⟨a, vs, e, t, _⟩ := h.lst
    subst e
    exact .base (.lst t)
  | ins _ _ => cases hn
  | scr _ => cases hn
  | dct _ =>
    cases hn
    rcases h with h | ⟨_, _, e, _⟩
    · simp only [Rp] at h
      obtain ⟨a, gs, e, r, _⟩ := h
      subst e
      exact .base (.dK r)
    · cases e
def pIsi (t : BT) : List D → Rs SD
  | [d] => match isB t d with
    | some b => .ok (.sh (.bl b))
    | none => .bad
  | _ => .bad
variable {a b c e : Expr} {pos p2 : Pos} {fl : List LOp}
theorem ej_isi {t : BT} {p : Pos} (hm : X.mg "isinstance" = none) (hg : Gl X "isinstance") (h : OJ X cl vs0 Wx [a] fl) (hc : PE X b (tC (.ty t.nm)))
    (hs2 : starEach [b] X.env = (false, eval b X.env) :: starEach [] X.env := by rfl) (hs1 : starEach [a, b] X.env = (false, eval a X.env) :: starEach [b] X.env := by rfl) (hpl : (backTo pos (starEach [b] X.env)).any (·.1) = false := by rfl) :
    EJ X cl vs0 Wx (.Call (.Name "isinstance" p) [a, b] [] pos) (xPrim fl (pIsi t)) := by
  obtain ⟨ta, ha, q⟩ := one_of h
  refine ⟨⟨_, pe_callB call_isi hg hm (by decide +kernel) (pa_cons ha (pa_cons hc pa_nil hs2) hs1) (by decide) (by decide) hs1 hpl, prim_core (ts := [ta]) (rd := fun vs H Q => rIsi X.K (vs ++ [.ty t.nm]) H Q) (fun O W H ds vs Q w ho hp => ?_) q⟩⟩
  unfold pIsi at hp
  split at hp
  · split at hp
    · rename_i b' e
      obtain ⟨x, rfl, h1⟩ := ho.one
      obtain ⟨n, hn, hk⟩ := isB_kit e
      exact ⟨x, .ty t.nm, .type n, .type t.nm, b', rfl, .ty _, h1.ty hn, kit_ty hk, hp _ H (Same.refl H) (by simp only [Rp])⟩
    · exact hp.elim
  · exact hp.elim
def Rs.tst : Rs (SD × List SD) → Rs (Bool × List SD)
  | .ok (.sh (.bl b), ρ) => .ok (b, ρ)
  | .exc c fs ρ => .exc c fs ρ
  | _ => .bad
theorem tst_core {G : Gx} {O W : List Addr} {σ : L2.St} {H : Hp} {Q : Bool → Hp → Prop} {r : Rs (SD × List SD)} (h : AftB G vs0 Wx O W σ H Q r.tst) : AftE G vs0 Wx O W σ H (fun x H' => ∃ k, x = .bl k ∧ Q k H') r := by
  cases r with
  | bad => exact h
  | exc c fs ρ => exact h
  | ok p =>
    obtain ⟨s, ρ⟩ := p
    cases s with
    | sh d =>
      cases d with
      | bl b =>
        intro v O' W' H' st sr rr
        have rr : Rp G O' H' (.bl b) v := rr
        simp only [Rp] at rr
        exact ⟨b, rr, h O' W' H' st sr⟩
      | _ => exact h.elim
    | _ => exact h.elim
def bT (f : Sx) : Sb := fun ρ => (f ρ).tst
theorem tj_cmp {op : CmpOp} {r : R2} {p : List D → Rs SD} (ho : OpR X (compareOp op) r) (hp : PrimR X cl (rd2 r) p) (h : OJ X cl vs0 Wx [a, b] fl) (hm : behindInMarks op b = false) : TJ X cl vs0 Wx (.Compare a [op] [b] pos) (bT (xPrim fl p)) := by
  obtain ⟨ta, tb, ha, hb, q⟩ := two_of h
  exact ⟨⟨_, pt_cmpR ho ha hb hm, fun O W σ H ρ Q sr hw => prim_core hp q O W σ H ρ _ sr (tst_core hw)⟩⟩
def truD : D → Option Bool
  | .non => some false
  | .bl b => some b
  | .int i => some (i != 0)
  | .tup xs => some (!xs.isEmpty)
  | .lst xs => some (!xs.isEmpty)
  | _ => none
def bTru (fl : List LOp) : Sb := fun ρ => (ops fl ρ).bind fun q => match q.1 with
  | [d] => match truD d with
    | some b => .ok (b, q.2)
    | none => .bad
  | _ => .bad
theorem RpA.emp {G : Gx} {O : List Addr} {H : Hp} {ds : List D} {vs : List V} (r : RpA G O H ds vs) : ds.isEmpty = vs.isEmpty := by
  have := r.length
  cases ds <;> cases vs <;> simp_all
theorem tj_tru (h : OJ X cl vs0 Wx [e] fl) (he : ∀ whole, isTrue e X.env whole = (do let v ← whole; standAt e.pos; holding [v] (truthy v)) := by intro _; rfl) : TJ X cl vs0 Wx e (bTru fl) := by
  obtain ⟨t, p, q⟩ := one_of h
  refine ⟨⟨_, pt_truth p he, fun O W σ H ρ Q sr hw => ?_⟩⟩
  refine q O W σ H ρ (fun vs H' => match vs with
    | [x] => ∃ k, TruV X.K x H' k ∧ Q k H'
    | _ => False) sr ?_
  unfold bTru at hw
  cases e : ops fl ρ with
  | bad => rw [e] at hw; exact hw
  | exc c fs ρ' => rw [e] at hw; exact hw
  | ok w =>
    obtain ⟨ds, ρ1⟩ := w
    rw [e] at hw
    intro vs O' W' H' st sr' ho
    cases ds with
    | nil => exact (show False from hw).elim
    | cons d ds =>
      cases ds with
      | cons _ _ => exact (show False from hw).elim
      | nil =>
        obtain ⟨v, rfl, h1⟩ := OpA.one ho
        have hw2 : AftB (gx X cl) vs0 Wx O W σ H Q (match truD d with
          | some b => .ok (b, ρ1)
          | none => .bad) := hw
        cases d with
        | non => rw [h1.non]; exact ⟨false, rfl, hw2 O' W' H' st sr'⟩
        | bl b => rw [h1.bl]; exact ⟨b, rfl, hw2 O' W' H' st sr'⟩
        | int b => rw [h1.int]; exact ⟨_, rfl, hw2 O' W' H' st sr'⟩
        | tup xs =>
          obtain ⟨a, vs, e, t, r⟩ := h1.tup
          subst e
          exact ⟨_, .inr (.inl ⟨vs, t.sq, by rw [← r.emp]⟩), hw2 O' W' H' st sr'⟩
        | lst xs =>
          obtain ⟨a, vs, e, t, z, r⟩ := h1.lst
          subst e
          exact ⟨_, .inl ⟨vs, SqL.of t, by rw [← r.emp]⟩, hw2 O' W' H' st sr'⟩
        | str _ => exact hw2.elim
        | ins _ _ => exact hw2.elim
        | scr _ => exact hw2.elim
        | dct _ => exact hw2.elim
structure WJ (X : Cx) (cl : Cl) (vs0 : List V) (Wx : WX) (e : Expr) (f : Sb) : Prop where
  ex : ∃ t, PW X e t ∧ ∀ O W σ H ρ Q, SR (gx X cl) vs0 O W σ H ρ → AftB (gx X cl) vs0 Wx O W σ H Q (f ρ) → t σ H Q
theorem WJ.tj {f : Sb} (h : WJ X cl vs0 Wx e f) : TJ X cl vs0 Wx e f := by
  obtain ⟨t, p, q⟩ := h.ex
  exact ⟨⟨t, p.pt, q⟩⟩
def bAnd (f g : Sb) : Sb := fun ρ => (f ρ).bind fun p => if p.1 then g p.2 else .ok (false, p.2)
def bOr (f g : Sb) : Sb := fun ρ => (f ρ).bind fun p => if p.1 then .ok (true, p.2) else g p.2
def bNot (f : Sb) : Sb := fun ρ => (f ρ).bind fun p => .ok (!p.1, p.2)
variable {f g : Sb} {rest : List Expr}
theorem wj_and1 (h : TJ X cl vs0 Wx a f) : WJ X cl vs0 Wx (.BoolOp .And [a] pos) f := by
  obtain ⟨t, p, q⟩ := h.ex
  exact ⟨⟨t, pw_and1 p, q⟩⟩
theorem wj_or1 (h : TJ X cl vs0 Wx a f) : WJ X cl vs0 Wx (.BoolOp .Or [a] pos) f := by
  obtain ⟨t, p, q⟩ := h.ex
  exact ⟨⟨t, pw_or1 p, q⟩⟩
theorem b2_core {G : Gx} {O W : List Addr} {σ : L2.St} {H : Hp} {R : Bool → Hp → Prop} {k : Bool × List SD → Rs (Bool × List SD)} {Q : Bool → Hp → Prop} {r : Rs (Bool × List SD)} (w : Wf O W H)
    (hw : AftB G vs0 Wx O W σ H Q (r.bind k)) (h : ∀ b ρ' O' W' H', SR G vs0 O' W' σ H' ρ' → AftB G vs0 Wx O' W' σ H' Q (k (b, ρ')) → R b H') : AftB G vs0 Wx O W σ H R r := by
  cases r with
  | bad => exact hw
  | exc c fs ρ => exact hw
  | ok p => exact fun O' W' H' st sr => h p.1 p.2 O' W' H' sr (AftB.back w st hw)
theorem wj_and (h : TJ X cl vs0 Wx a f) (hb : WJ X cl vs0 Wx (.BoolOp .And (b :: rest) pos) g) : WJ X cl vs0 Wx (.BoolOp .And (a :: b :: rest) pos) (bAnd f g) := by
  obtain ⟨t, p, q⟩ := h.ex
  obtain ⟨t', p', q'⟩ := hb.ex
  refine ⟨⟨_, pw_and p p', fun O W σ H ρ Q sr hw => q O W σ H ρ _ sr (b2_core sr.wf hw fun b ρ' O' W' H' sr' hk => ?_)⟩⟩
  cases b with
  | true => exact q' O' W' σ H' ρ' Q sr' hk
  | false => exact hk O' W' H' Stp.refl sr'
theorem wj_or (h : TJ X cl vs0 Wx a f) (hb : WJ X cl vs0 Wx (.BoolOp .Or (b :: rest) pos) g) : WJ X cl vs0 Wx (.BoolOp .Or (a :: b :: rest) pos) (bOr f g) := by
  obtain ⟨t, p, q⟩ := h.ex
  obtain ⟨t', p', q'⟩ := hb.ex
  refine ⟨⟨_, pw_or p p', fun O W σ H ρ Q sr hw => q O W σ H ρ _ sr (b2_core sr.wf hw fun b ρ' O' W' H' sr' hk => ?_)⟩⟩
  cases b with
  | false => exact q' O' W' σ H' ρ' Q sr' hk
  | true => exact hk O' W' H' Stp.refl sr'
theorem tj_not (h : TJ X cl vs0 Wx a f) : TJ X cl vs0 Wx (.UnaryOp .Not a pos) (bNot f) := by
  obtain ⟨t, p, q⟩ := h.ex
  refine ⟨⟨_, pt_not p, fun O W σ H ρ Q sr hw => q O W σ H ρ _ sr (b2_core sr.wf hw fun b ρ' O' W' H' sr' hk => ?_)⟩⟩
  exact hk O' W' H' Stp.refl sr'
def xAnd (f g : Sx) : Sx := fun ρ => (f ρ).tst.bind fun p => if p.1 then g p.2 else .ok (.sh (.bl false), p.2)
def xOr (f g : Sx) : Sx := fun ρ => (f ρ).tst.bind fun p => if p.1 then .ok (.sh (.bl true), p.2) else g p.2
def xNot (f : Sx) : Sx := fun ρ => (f ρ).tst.bind fun p => .ok (.sh (.bl (!p.1)), p.2)
theorem v2_core {G : Gx} {O W : List Addr} {σ : L2.St} {H : Hp} {R : VK} {k : Bool × List SD → Rs (SD × List SD)} {Q : VK} {r : Rs (SD × List SD)} (w : Wf O W H)
    (hw : AftE G vs0 Wx O W σ H Q (r.tst.bind k)) (h : ∀ b ρ' O' W' H', SR G vs0 O' W' σ H' ρ' → AftE G vs0 Wx O' W' σ H' Q (k (b, ρ')) → R (.bl b) H') : AftE G vs0 Wx O W σ H R r := by
  cases r with
  | bad => exact hw
  | exc c fs ρ => exact hw
  | ok p =>
    obtain ⟨s, ρ⟩ := p
    cases s with
    | sh d =>
      cases d with
      | bl b =>
        intro v O' W' H' st sr rr
        have rr : Rp G O' H' (.bl b) v := rr
        simp only [Rp] at rr
        rw [rr]
        exact h b ρ O' W' H' sr (AftE.back w st hw)
      | _ => exact hw.elim
    | _ => exact hw.elim
variable {fx gx' : Sx}
theorem ej_one {op} (h : EJ X cl vs0 Wx a fx) : EJ X cl vs0 Wx (.BoolOp op [a] pos) fx := by
  obtain ⟨t, p, q⟩ := h.ex
  exact ⟨⟨t, pe_one p, q⟩⟩
theorem rp_bl {G : Gx} {O : List Addr} {H : Hp} {b : Bool} : Rp G O H (.bl b) (.bl b) := by simp only [Rp]
theorem ej_and (h : EJ X cl vs0 Wx a fx) (hb : EJ X cl vs0 Wx (.BoolOp .And (b :: rest) pos) gx') : EJ X cl vs0 Wx (.BoolOp .And (a :: b :: rest) pos) (xAnd fx gx') := by
  obtain ⟨t, p, q⟩ := h.ex
  obtain ⟨t', p', q'⟩ := hb.ex
  refine ⟨⟨_, pe_and p p', fun O W σ H ρ Q sr hw => q O W σ H ρ _ sr (v2_core sr.wf hw fun b ρ' O' W' H' sr' hk => ⟨b, rfl, ?_⟩)⟩⟩
  cases b with
  | true => exact q' O' W' σ H' ρ' Q sr' hk
  | false => exact hk _ O' W' H' Stp.refl sr' (rp_bl (G := Wm.gx X cl) (O := O') (H := H'))
theorem ej_not (h : EJ X cl vs0 Wx a fx) : EJ X cl vs0 Wx (.UnaryOp .Not a pos) (xNot fx) := by
  obtain ⟨t, p, q⟩ := h.ex
  refine ⟨⟨_, pe_not p, fun O W σ H ρ Q sr hw => q O W σ H ρ _ sr (v2_core sr.wf hw fun b ρ' O' W' H' sr' hk => ⟨b, rfl, ?_⟩)⟩⟩
  exact hk _ O' W' H' Stp.refl sr' (rp_bl (G := Wm.gx X cl) (O := O') (H := H'))
def xIf (t : Sb) (f g : Sx) : Sx := fun ρ => (t ρ).bind fun p => if p.1 then f p.2 else g p.2
theorem b1_core {G : Gx} {O W : List Addr} {σ : L2.St} {H : Hp} {R : Bool → Hp → Prop} {k : Bool × List SD → Rs (SD × List SD)} {Q : VK} {r : Rs (Bool × List SD)} (w : Wf O W H)
    (hw : AftE G vs0 Wx O W σ H Q (r.bind k)) (h : ∀ b ρ' O' W' H', SR G vs0 O' W' σ H' ρ' → AftE G vs0 Wx O' W' σ H' Q (k (b, ρ')) → R b H') : AftB G vs0 Wx O W σ H R r := by
  cases r with
  | bad => exact hw
  | exc c fs ρ => exact hw
  | ok p => exact fun O' W' H' st sr => h p.1 p.2 O' W' H' sr (AftE.back w st hw)
theorem ej_if {c : Expr} (hc : TJ X cl vs0 Wx c f) (h : EJ X cl vs0 Wx a fx) (hb : EJ X cl vs0 Wx b gx') : EJ X cl vs0 Wx (.IfExp c a b pos) (xIf f fx gx') := by
  obtain ⟨tc, pc, qc⟩ := hc.ex
  obtain ⟨t, p, q⟩ := h.ex
  obtain ⟨t', p', q'⟩ := hb.ex
  refine ⟨⟨_, pe_ifExp pc p p', fun O W σ H ρ Q sr hw => qc O W σ H ρ _ sr (b1_core sr.wf hw fun b ρ' O' W' H' sr' hk => ?_)⟩⟩
  cases b with
  | true => exact q O' W' σ H' ρ' Q sr' hk
  | false => exact q' O' W' σ H' ρ' Q sr' hk
end
end Wm
end
section
namespace Wm
open PySem PySem.Spec PyProof.Rows L2
def AftS (G : Gx) (vs0 : List V) (Wx : WX) (O W : List Addr) (H : Hp) (D : Ends) : Rs Fl → Prop
  | .ok (.nx ρ') => ∀ σ' O' W' H', Stp O W H O' W' H' → SR G vs0 O' W' σ' H' ρ' → D.nx σ' H'
  | .ok (.rt r ρ') => ∀ v σ' O' W' H', Stp O W H O' W' H' → SR G vs0 O' W' σ' H' ρ' → ResR G O' W' σ' H' ρ' v r → D.rt v H'
  | .ok (.bk ρ') => ∀ σ' O' W' H', Stp O W H O' W' H' → SR G vs0 O' W' σ' H' ρ' → D.bk σ' H'
  | .ok (.ct ρ') => ∀ σ' O' W' H', Stp O W H O' W' H' → SR G vs0 O' W' σ' H' ρ' → D.ct σ' H'
  | .exc c fs ρ' => ∀ σ', ExcA G vs0 Wx O W σ' H c fs ρ'
  | .bad => False
structure SJ (X : Cx) (cl : Cl) (vs0 : List V) (Wx : WX) (st : Stmt) (g : Ss) : Prop where
  ex : ∃ t, PS X st t ∧ ∀ O W σ H ρ D, SR (gx X cl) vs0 O W σ H ρ → AftS (gx X cl) vs0 Wx O W H D (g ρ) → t D σ H
structure BJ (X : Cx) (cl : Cl) (vs0 : List V) (Wx : WX) (sts : List Stmt) (g : Ss) : Prop where
  ex : ∃ t, PSs X sts t ∧ ∀ O W σ H ρ D, SR (gx X cl) vs0 O W σ H ρ → AftS (gx X cl) vs0 Wx O W H D (g ρ) → t D σ H
theorem AftS.back {G : Gx} {vs0 : List V} {Wx : WX} {O W O1 W1 : List Addr} {H H1 : Hp} {D : Ends} (w : Wf O W H) (s : Stp O W H O1 W1 H1) : ∀ {r : Rs Fl}, AftS G vs0 Wx O W H D r → AftS G vs0 Wx O1 W1 H1 D r
  | .ok (.nx _), h => fun σ' O' W' H' s' sr => h σ' O' W' H' (s.trans w s') sr
  | .ok (.rt _ _), h => fun v σ' O' W' H' s' sr rr => h v σ' O' W' H' (s.trans w s') sr rr
  | .ok (.bk _), h => fun σ' O' W' H' s' sr => h σ' O' W' H' (s.trans w s') sr
  | .ok (.ct _), h => fun σ' O' W' H' s' sr => h σ' O' W' H' (s.trans w s') sr
  | .exc _ _ _, h => fun σ' => ExcA.back w s (h σ')
  | .bad, h => h
section
variable {X : Cx} {cl : Cl} {vs0 : List V} {Wx : WX} {st : Stmt} {rest : List Stmt} {g h' : Ss} {e a b : Expr} {f : Sx} {pos : Pos}
def sNil : Ss := fun ρ => .ok (.nx ρ)
def sSeq (g h : Ss) : Ss := fun ρ => (g ρ).bind fun fl => match fl with
  | .nx ρ' => h ρ'
  | fl => .ok fl
theorem bj_nil : BJ X cl vs0 Wx [] sNil := ⟨⟨_, pss_nil, fun O W σ H ρ D sr h => h σ O W H Stp.refl sr⟩⟩
theorem bj_one (h : SJ X cl vs0 Wx st g) : BJ X cl vs0 Wx [st] g := by
  obtain ⟨t, p, q⟩ := h.ex
  exact ⟨⟨t, pss_one p, q⟩⟩
theorem bj_cons (h1 : SJ X cl vs0 Wx st g) (h2 : BJ X cl vs0 Wx rest h') : BJ X cl vs0 Wx (st :: rest) (sSeq g h') := by
  obtain ⟨t, p, q⟩ := h1.ex
  obtain ⟨t', p', q'⟩ := h2.ex
  refine ⟨⟨_, pss_cons p p', fun O W σ H ρ D sr hw => q O W σ H ρ _ sr ?_⟩⟩
  have hw : AftS (gx X cl) vs0 Wx O W H D ((g ρ).bind fun fl => match fl with
    | .nx ρ' => h' ρ'
    | fl => .ok fl) := hw
  cases e : g ρ with
  | bad => rw [e] at hw; exact hw
  | exc c fs ρ' => rw [e] at hw; exact hw
  | ok fl =>
    rw [e] at hw
    cases fl with
    | nx ρ' => exact fun σ' O' W' H' st sr' => q' O' W' σ' H' ρ' D sr' (AftS.back sr.wf st hw)
    | rt r ρ' => exact hw
    | bk ρ' => exact hw
    | ct ρ' => exact hw
theorem e_core {G : Gx} {O W : List Addr} {σ : L2.St} {H : Hp} {R : VK} {k : SD × List SD → Rs Fl} {D : Ends} {r : Rs (SD × List SD)} (w : Wf O W H)
    (hw : AftS G vs0 Wx O W H D (r.bind k)) (h : ∀ v s ρ' O' W' H', SR G vs0 O' W' σ H' ρ' → ResR G O' W' σ H' ρ' v s → AftS G vs0 Wx O' W' H' D (k (s, ρ')) → R v H') : AftE G vs0 Wx O W σ H R r := by
  cases r with
  | bad => exact hw
  | exc c fs ρ => exact hw σ
  | ok p => exact fun v O' W' H' st sr rr => h v p.1 p.2 O' W' H' sr rr (AftS.back w st hw)
theorem t_core {G : Gx} {O W : List Addr} {σ : L2.St} {H : Hp} {R : Bool → Hp → Prop} {k : Bool × List SD → Rs Fl} {D : Ends} {r : Rs (Bool × List SD)} (w : Wf O W H)
    (hw : AftS G vs0 Wx O W H D (r.bind k)) (h : ∀ b ρ' O' W' H', SR G vs0 O' W' σ H' ρ' → AftS G vs0 Wx O' W' H' D (k (b, ρ')) → R b H') : AftB G vs0 Wx O W σ H R r := by
  cases r with
  | bad => exact hw
  | exc c fs ρ => exact hw σ
  | ok p => exact fun O' W' H' st sr => h p.1 p.2 O' W' H' sr (AftS.back w st hw)
def sEx (f : Sx) : Ss := fun ρ => (f ρ).bind fun p => .ok (.nx p.2)
theorem sj_ex (h : EJ X cl vs0 Wx e f) (hs : swapsWith e none pos.line X.env = pure false := by rfl) : SJ X cl vs0 Wx (.Expr e pos) (sEx f) := by
  obtain ⟨t, p, q⟩ := h.ex
  exact ⟨⟨_, ps_expr p hs, fun O W σ H ρ D sr hw => q O W σ H ρ _ sr (e_core sr.wf hw fun v s ρ' O' W' H' sr' rr hk => hk σ O' W' H' Stp.refl sr')⟩⟩
def sSet (i : Nat) (f : Sx) : Ss := fun ρ => (f ρ).bind fun p => .ok (.nx (p.2.set i p.1))
theorem sj_set {i : Nat} {x : Str} {pos' : Pos} (hN : X.N.Nodup) (hi : X.N[i]? = some x) (hx : Loc X.env.scope x) (h : EJ X cl vs0 Wx e f) (hs : swapsWith e (some (.Name x pos')) pos.line X.env = pure false := by rfl) (hf : X.fn x = true ∨ X.env.scope.names.lookup x = some .local := by first | exact .inl rfl | exact .inr rfl | assumption) :
    SJ X cl vs0 Wx (.Assign [.Name x pos'] e pos) (sSet i f) := by
  obtain ⟨t, p, q⟩ := h.ex
  exact ⟨⟨_, ps_set (i := i) hN hi hx p hs hf, fun O W σ H ρ D sr hw => q O W σ H ρ _ sr (e_core sr.wf hw fun v s ρ' O' W' H' sr' rr hk => hk _ O' W' H' Stp.refl (sr'.put rr))⟩⟩
def sRet (f : Sx) : Ss := fun ρ => (f ρ).bind fun p => .ok (.rt p.1 p.2)
theorem sj_ret (h : EJ X cl vs0 Wx e f) : SJ X cl vs0 Wx (.Return (some e) pos) (sRet f) := by
  obtain ⟨t, p, q⟩ := h.ex
  exact ⟨⟨_, ps_ret p, fun O W σ H ρ D sr hw => q O W σ H ρ _ sr (e_core sr.wf hw fun v s ρ' O' W' H' sr' rr hk => hk v σ O' W' H' Stp.refl sr' rr)⟩⟩
def sRetV (i : Nat) : Ss := fun ρ => match ρ[i]? with
  | some (.sh d) => .ok (.rt (.sh d) ρ)
  | some (.own xs) => .ok (.rt (.own xs) (ρ.set i .no))
  | some (.byr xs) => .ok (.rt (.sh (.lst xs)) (ρ.set i (.sh (.lst xs))))
  | some (.od kvs) => .ok (.rt (.od kvs) (ρ.set i .no))
  | some (.ow t) => .ok (.rt (.ow t) (ρ.set i .no))
  | _ => .bad
theorem SR.drop {G : Gx} {O W : List Addr} {σ : L2.St} {H : Hp} {ρ : List SD} (i : Nat) (r : SR G vs0 O W σ H ρ) : SR G vs0 O W σ H (ρ.set i .no) := r.set0
theorem SR.fre_drop {G : Gx} {O W : List Addr} {σ : L2.St} {H : Hp} {ρ : List SD} {i : Nat} {s0 : SD} {a : Addr} (sr : SR G vs0 O W σ H ρ) (e : ρ[i]? = some s0) (hm : s0.mine = true) (e1 : σ[i]? = some (some (.ref a))) : Fre G O W σ H (ρ.set i .no) a := ⟨fun j s q m z => by
    have nj : i ≠ j := fun y => by
      subst y
      rw [List.getElem?_set_self (List.getElem?_eq_some_iff.mp e).1] at q; cases q; cases m
    rw [List.getElem?_set_ne nj] at q
    exact nj (sr.apart i j _ s a e q hm m e1 z), fun j u v fp q ev o hb => by
    have nj : i ≠ j := fun y => by
      subst y
      rw [List.getElem?_set_self (List.getElem?_eq_some_iff.mp e).1] at q; cases q
    rw [List.getElem?_set_ne nj] at q
    obtain ⟨φ, h1, _, h3⟩ := sr.ows
    obtain ⟨v', ev', o'⟩ := h1 j u q
    rw [ev] at ev'; cases ev'
    exact h3 j i u _ a q e hm e1 (OwT.det o o' ▸ hb)⟩
theorem sj_retV {i : Nat} (h : PE X e (tVar i)) : SJ X cl vs0 Wx (.Return (some e) pos) (sRetV i) := by
  refine ⟨⟨_, ps_ret h, fun O W σ H ρ D sr hw => ?_⟩⟩
  unfold sRetV at hw
  split at hw
  · rename_i d e
    obtain ⟨v, e1, r⟩ := sr.get e
    exact ⟨v, e1, hw v σ O W H Stp.refl sr r⟩
  · rename_i xs e
    obtain ⟨a, e1, o⟩ := sr.getOwn e (.inl rfl)
    refine ⟨_, e1, hw (.ref a) σ O W H Stp.refl (sr.drop i) ⟨a, rfl, o, sr.fre_drop e rfl e1⟩⟩
  · rename_i xs e
    obtain ⟨a, O', W', e1, st, sr', r⟩ := sr.demote e (.inr rfl)
    exact ⟨_, e1, hw (.ref a) σ O' W' H st sr' r⟩
  · rename_i kvs e
    obtain ⟨a, e1, o⟩ := sr.getD e
    refine ⟨_, e1, hw (.ref a) σ O W H Stp.refl (sr.drop i) ⟨a, rfl, o, sr.fre_drop e rfl e1⟩⟩
  · rename_i t e
    obtain ⟨v, fp, e1, o, f⟩ := sr.getT e
    refine ⟨_, e1, hw v σ O W H Stp.refl (sr.drop i) ⟨fp, o, fun a ha => ?_⟩⟩
    rcases f a ha .no with z | z | ⟨_, z⟩
    · exact z
    · cases z
    · cases z
  · exact hw.elim
def sIf (t : Sb) (g h : Ss) : Ss := fun ρ => (t ρ).bind fun p => if p.1 then g p.2 else h p.2
theorem sj_if {c : Expr} {bs cs : List Stmt} {t : Sb} (hc : TJ X cl vs0 Wx c t) (h1 : BJ X cl vs0 Wx bs g) (h2 : BJ X cl vs0 Wx cs h') : SJ X cl vs0 Wx (.If c bs cs pos) (sIf t g h') := by
  obtain ⟨tc, pc, qc⟩ := hc.ex
  obtain ⟨t1, p1, q1⟩ := h1.ex
  obtain ⟨t2, p2, q2⟩ := h2.ex
  refine ⟨⟨_, ps_if pc p1 p2, fun O W σ H ρ D sr hw => qc O W σ H ρ _ sr (t_core sr.wf hw fun b ρ' O' W' H' sr' hk => ?_)⟩⟩
  cases b with
  | true => exact q1 O' W' σ H' ρ' D sr' hk
  | false => exact q2 O' W' σ H' ρ' D sr' hk
def setAll : List Nat → List D → List SD → Rs (List SD)
  | [], [], ρ => .ok ρ
  | i :: is, d :: ds, ρ => setAll is ds (ρ.set i (.sh d))
  | _, _, _ => .bad
def gNames : List Nat → TGs
  | [] => gNil
  | i :: is => gCons (gName i) (gNames is)
theorem gNames_ok {G : Gx} {O W : List Addr} {H : Hp} {Q : L2.St → Hp → Prop} : ∀ {is : List Nat} {ds : List D} {vs : List V} {σ : L2.St} {ρ ρ' : List SD}, SR G vs0 O W σ H ρ → RpA G O H ds vs → setAll is ds ρ = .ok ρ' → (∀ σ', SR G vs0 O W σ' H ρ' → Q σ' H) → gNames is vs σ H Q
  | [], [], vs, σ, ρ, ρ', sr, ra, h, q => by
    simp only [RpA] at ra
    cases h
    exact ⟨ra, q σ sr⟩
  | i :: is, d :: ds, vs, σ, ρ, ρ', sr, ra, h, q => by
    simp only [RpA] at ra
    obtain ⟨v, r, e, h1, h2⟩ := ra
    exact ⟨v, r, e, gNames_ok (sr.set h1) h2 h q⟩
  | [], _ :: _, _, _, _, _, _, _, h, _ => by cases h
  | _ :: _, [], _, _, _, _, _, _, h, _ => by cases h
def sTup (is : List Nat) (f : Sx) : Ss := fun ρ => (f ρ).bind fun p => match p.1 with
  | .sh (.tup ds) => (setAll is ds p.2).bind fun ρ' => .ok (.nx ρ')
  | _ => .bad
theorem setAll_noexc : ∀ {is : List Nat} {ds : List D} {ρ : List SD} {c : Str} {fs : List (Str × D)} {ρ' : List SD}, setAll is ds ρ ≠ .exc c fs ρ'
  | [], [], _, _, _, _ => fun z => nomatch z
  | i :: is, d :: ds, _, _, _, _ => setAll_noexc (is := is) (ds := ds)
  | [], _ :: _, _, _, _, _ => fun z => nomatch z
  | _ :: _, [], _, _, _, _ => fun z => nomatch z
theorem sj_tup {es : List Expr} {k n : Nat} {is : List Nat} {pt : Pos} (hc : X.calm = true) (hg : PGs X es (gNames is)) (h : EJ X cl vs0 Wx e f) (hl : is.length = n) (hn : (assignEach es X.env).length = n := by rfl) (hst : (assignEach es X.env).findIdx? (·.1) = none := by rfl)
    (hs : swapsWithSole [.Tuple es k pt] e pos.line X.env = pure false := by rfl) (hw : swappedStores [.Tuple es k pt] e X.env = pure none := by rfl) (h1 : (assignEach [.Tuple es k pt] X.env).map (·.2) = [assign (.Tuple es k pt) X.env] := by rfl) :
    SJ X cl vs0 Wx (.Assign [.Tuple es k pt] e pos) (sTup is f) := by
  obtain ⟨t, p, q⟩ := h.ex
  refine ⟨⟨_, ps_asg p (pg_tup hc hg hn hst) hs hw h1, fun O W σ H ρ D sr hw => q O W σ H ρ _ sr (e_core sr.wf hw fun v s ρ' O' W' H' sr' rr hk => ?_)⟩⟩
  cases s with
  | sh d =>
    cases d with
    | tup ds =>
      have rr : Rp (gx X cl) O' H' (.tup ds) v := rr
      simp only [Rp] at rr
      obtain ⟨a, vs, e, t, ra⟩ := rr
      have hk : AftS (gx X cl) vs0 Wx O' W' H' D ((setAll is ds ρ').bind fun ρ' => .ok (.nx ρ')) := hk
      cases es : setAll is ds ρ' with
      | bad => rw [es] at hk; exact hk.elim
      | exc c fs ρ2 => exact absurd es setAll_noexc
      | ok ρ2 =>
        rw [es] at hk
        have hlen : ∀ {is : List Nat} {ds : List Wm.D} {ρ ρ2 : List SD}, setAll is ds ρ = .ok ρ2 → is.length = ds.length := by
          intro is
          induction is with
          | nil => intro ds ρ ρ2 h; cases ds with
            | nil => rfl
            | cons _ _ => cases h
          | cons i is ih => intro ds ρ ρ2 h; cases ds with
            | nil => cases h
            | cons d ds => rw [List.length_cons, List.length_cons, ih h]
        refine ⟨a, vs, e, t.sq, by rw [← ra.length, ← hlen es]; exact hl, gNames_ok sr' ra es fun σ' sr2 => hk σ' O' W' H' Stp.refl sr2⟩
    | _ => exact hk.elim
  | _ => exact hk.elim
end
end Wm
end
section
namespace Wm
open PySem PySem.Spec PyProof.Rows L2
theorem enum_new1 {v : Value} {o : Obj} {H : Heap → Prop} (B : Begins v o H) :
    Meets (Builtin.«enumerate.__new__» ⟨[.type "enumerate", v], []⟩) (fun _ R s => H s.heap ∧
      R (.ok (.ret (.ref (s.heap.push o).objs.size))) { s with heap := (s.heap.push o).push { cls := .type "enumerate", data := .fields #[.none, .bool false, .ref s.heap.objs.size, rawInt 0, .none, .none] } }) :=
  .of_wp fun prog w A R s h => by
    obtain ⟨hp, g, d, tk, os⟩ := s
    obtain ⟨h1, h⟩ := h
    have hsub := sub_enumerate
    have qq : ∀ {A' : Around} {E : Value → Shared → Prop} {Q : Value → Shared → Prop}, Q (.ref hp.objs.size) ⟨hp.push o, g, d, tk, os⟩ → wpAny (model prog w) A' (pyIter v) Q E ⟨hp, g, d, tk, os⟩ :=
      fun z => B.iter prog w _ _ ⟨hp, g, d, tk, os⟩ _ h1 z
    wp_walk using qq
    refine wpAny_stack_any fun st => wpAny_pure ?_
    split
    · rename_i c _ _ _ _ _
      cases (c == Value.type "enumerate") <;> (wp_walk using qq; exact ⟨_, rfl, h⟩)
    · wp_walk using qq
      exact ⟨_, rfl, h⟩
theorem enum_begins1 {prog : Program} {w : World} {A : Around} {E : Value → Shared → Prop} {s : Shared} {v : Value} {o : Obj} {H : Heap → Prop} {Q : Value → Shared → Prop} (B : Begins v o H) (h1 : H s.heap)
    (h : ∀ h', IsEnum h' (s.heap.objs.size + 1) s.heap.objs.size 0 .none → h'.get? s.heap.objs.size = some o → h'.objs.size = s.heap.objs.size + 2 →
      (∀ b o, s.heap.get? b = some o → h'.get? b = some o) → Q (.ref (s.heap.objs.size + 1)) { s with heap := h' }) :
    wpAny (model prog w) A (call (.type "enumerate") [v]) Q E s := by
  refine callType_new F.called_enumerate (by decide) (F.typeCall_enumerate_1 _) (F.newCall_enumerate_1 _) (fun obj => F.args_object_init_2 obj _) F.entry_enumerate_new (enum_new1 B) ⟨h1, ?_⟩
  have hz : (s.heap.push o).objs.size = s.heap.objs.size + 1 := Heap.size_push ..
  have he : IsEnum ((s.heap.push o).push { cls := .type "enumerate", data := .fields #[.none, .bool false, .ref s.heap.objs.size, rawInt 0, .none, .none] }) (s.heap.objs.size + 1) s.heap.objs.size 0 .none := by
    have z := Heap.get?_push_size (s.heap.push o) (o := { cls := .type "enumerate", data := .fields #[.none, .bool false, .ref s.heap.objs.size, rawInt 0, .none, .none] }) rfl
    rw [hz] at z
    exact z
  show _ ∧ _
  rw [hz]
  exact ⟨⟨_, he, rfl⟩, h _ he (Heap.get?_push_of_some _ (Heap.get?_push_size _ B.free)) (by rw [Heap.size_push, hz]) fun b o x => Heap.get?_push_of_some _ (Heap.get?_push_of_some _ x)⟩
inductive Kd where
  | l | t
def SqK (K : PySem.W.Frag) (H : Hp) (a : Addr) (xs : List V) : Kd → Prop
  | .l => SqL K H a xs
  | .t => SqT K H a xs
def IsK (h : Heap) (a : Addr) (its : Array Value) : Kd → Prop
  | .l => h.IsList a its
  | .t => h.IsTuple a its
def ItK (h : Heap) (it a : Addr) (i : Nat) : Kd → Prop
  | .l => h.IsListIter it a i
  | .t => h.IsTupleIter it a i
def obK (a : Addr) : Kd → Obj
  | .l => { cls := .type "list_iterator", data := .fields #[.ref a, .int 0 0] }
  | .t => { cls := .type "tuple_iterator", data := .fields #[.ref a, .int 0 0] }
theorem begK (k : Kd) (a : Addr) (its : Array Value) : Begins (.ref a) (obK a k) (fun h => IsK h a its k) := by
  cases k
  · exact begins_list a its
  · exact begins_tuple a its
theorem obK_it {h : Heap} {it a : Addr} {k : Kd} (e : h.get? it = some (obK a k)) : ItK h it a 0 k := by
  cases k
  · exact ⟨_, e, rfl, rfl⟩
  · exact ⟨_, e, rfl, rfl⟩
theorem ItK.at' {h h' : Heap} {it a : Addr} {i : Nat} {k : Kd} (x : ItK h it a i k) (q : ∀ o, h.get? it = some o → h'.get? it = some o) : ItK h' it a i k := by
  cases k
  · exact Heap.IsListIter.at x q
  · exact Heap.IsTupleIter.at x q
theorem ItK.ob {h : Heap} {it a : Addr} {i : Nat} {k : Kd} (x : ItK h it a i k) : ∃ o, h.get? it = some o ∧ ∀ v, o.data ≠ .cell v := by
  cases k
  · obtain ⟨o, e, c, d⟩ := x
    exact ⟨o, e, fun v z => by rw [d] at z; cases z⟩
  · obtain ⟨o, e, c, d⟩ := x
    exact ⟨o, e, fun v z => by rw [d] at z; cases z⟩
theorem drK {prog : Program} {w : World} {A : Around} (k : Kd) (hh : A.handled = none) (it a : Addr) (hne : a ≠ it) (its : Array Value) : Draws prog w A it [it, a] its.size (fun i v => its[i]? = some v) (fun i h => ItK h it a i k ∧ IsK h a its k) := by
  cases k
  · exact Draws.list hh it a hne its
  · exact Draws.tuple hh it a hne its
section
variable {X : Cx} {pins : List (Addr × Obj)} {σ : L2.St} {H : Hp} {s : Shared} {a : Addr} {xs : List V} {k : Kd}
theorem seqK (I : Inv X pins σ H s) (h : SqK X.K H a xs k) : ∃ its : List Value, Vals xs its ∧ IsK s.heap a its.toArray k := by
  cases k
  · obtain ⟨its, r, p, _⟩ := I.list h
    exact ⟨its, r, p.isList⟩
  · obtain ⟨its, r, p, _⟩ := I.tuple h
    exact ⟨its, r, p⟩
theorem seqK_inj (I : Inv X pins σ H s) {ys : List V} (h : SqK X.K H a xs k) (h' : SqK X.K H a ys k) : xs = ys := by
  cases k
  · exact I.list_inj h h'
  · exact I.tuple_inj h h'
theorem IsK.lt {h : Heap} {its : Array Value} (x : IsK h a its k) : a < h.objs.size := by
  cases k
  · obtain ⟨o, e, _⟩ := x; exact Heap.lt_size e
  · obtain ⟨o, e, _⟩ := x; exact Heap.lt_size e
end
def ItE (K : PySem.W.Frag) (a : Addr) (k : Kd) : It :=
  ⟨fun i H => ∃ (xs : List V) (x : V), SqK K H a xs k ∧ xs[i]? = some x,
   fun i H v H' => ∃ T x, v = .ref T ∧ H T = none ∧ H' = upd H T (.tup [.int (i : Nat), x]) ∧ ∀ xs, SqK K H a xs k → xs[i]? = some x,
   fun i H => ∃ xs : List V, SqK K H a xs k ∧ xs.length = i⟩
theorem turn_enumK {P : Program} {w : World} {K : PySem.W.Frag} {elts : List Expr} {kk : Nat} {tpos : Pos} (k : Kd) (a e it : Addr) :
    Turn P w K (.Tuple elts kk tpos) (ItE K a k) [e, it] e (fun i h => (∃ old, IsEnum h e it (0 + (i : Int)) old) ∧ ItK h it a i k ∧ e ≠ it ∧ a ≠ it ∧ a ≠ e) where
  mem := by simp
  obj := fun i h st b hb => by
    obtain ⟨⟨old, he⟩, hi, _⟩ := st
    rcases (show b = e ∨ b = it by simpa using hb) with z | z
    · rw [z]; exact ⟨_, he, fun v q => nomatch q⟩
    · rw [z]; exact hi.ob
  keep := fun i h h' st q => by
    obtain ⟨⟨old, he⟩, hi, hn⟩ := st
    exact ⟨⟨old, q e (by simp) _ he⟩, hi.at' fun o z => q it (by simp) o z, hn⟩
  item := by
    intro X hP hw hK hc i pins s σ H E I hf st hg
    subst hP hw hK
    obtain ⟨old, hit, hne, hai, hae⟩ := st
    obtain ⟨xs, x, hq, hx⟩ := hg
    obtain ⟨its, rv, p⟩ := seqK I hq
    obtain ⟨u, hu, ru⟩ := rv.get hx
    have hil : i < its.toArray.size := by
      rw [List.size_toArray]
      exact (List.getElem?_eq_some_iff.mp hu).1
    have D := drK (prog := X.prog) (w := X.w) (A := X.A.in1) k (I.ok.hd hc) it a hai its.toArray
    have N := GoesN.enumFrom (elts := elts) (x1 := kk) (pos := tpos) 0 D e hne (by simp [hne, Ne.symm hae]) (by simp)
    refine N.goes i s _ _ hil ⟨old, hit, p⟩ fun v h' tk hY st' hk htk => ?_
    obtain ⟨T, t, y, rfl, hTn, hy, hT⟩ := hY
    obtain ⟨hen, hit', _⟩ := st'
    have ey : y = u := by
      have h2 : its.toArray[i]? = some u := by simpa using hu
      exact Option.some.inj (hy.symm.trans h2)
    subst ey
    have new : ObjOk X.prog X.w (upd H T (.tup [.int (i : Nat), x])) h' T (.tup [.int (i : Nat), x]) := by
      refine ⟨by show 2 ≤ sizeLine; decide, [.int (0 + (i : Int)) t, y], .cons ⟨t, ?_⟩ (.cons ru .nil), hT⟩
      rw [Int.zero_add]
    have J : Inv X pins σ (upd H T (.tup [.int (i : Nat), x])) { s with heap := h', toks := tk } := I.turnedNew (ch := [e, it]) (fun b ob hb q => hk b ob hb q) hf hTn new
    refine ⟨.ref T, _, J, rfl, ⟨T, x, rfl, I.hok.fresh hTn, rfl, fun ys hy' => by rw [seqK_inj I hy' hq]; exact hx⟩, ⟨hen, hit', hne, hai, hae⟩, fun b hb => ?_⟩
    have hbl : b < s.heap.objs.size := by
      obtain ⟨ol, he⟩ := old
      rcases (show b = e ∨ b = it by simpa using hb) with z | z
      · rw [z]; exact Heap.lt_size he
      · rw [z]; obtain ⟨o, q, _⟩ := hit.ob; exact Heap.lt_size q
    rw [upd_ne (Nat.ne_of_lt (Nat.lt_of_lt_of_le hbl hTn))]
    exact (hf b hb).1
  done := by
    intro X hP hw hK hc i pins s σ H E I hf st hg
    subst hP hw hK
    obtain ⟨old, hit, hne, hai, hae⟩ := st
    obtain ⟨xs, hq, hx⟩ := hg
    obtain ⟨its, rv, p⟩ := seqK I hq
    have hl : its.toArray.size = i := by rw [List.size_toArray, ← rv.length]; exact hx
    have D := drK (prog := X.prog) (w := X.w) (A := X.A.in1) k (I.ok.hd hc) it a hai its.toArray
    have N := GoesN.enumFrom (elts := elts) (x1 := kk) (pos := tpos) 0 D e hne (by simp [hne, Ne.symm hae]) (by simp)
    refine N.stops s (fun s1 => Inv X pins σ H s1) E ?_ fun h' tk hk _ => I.turnedL (ch := [e, it]) (fun b o hb q => hk b o hb q) hf
    rw [hl]
    exact ⟨old, hit, p⟩
  self := fun A i s Q E st h => by
    obtain ⟨⟨_, he⟩, _⟩ := st
    exact wpAny_pyIter_enum he h
def ItZ (K : PySem.W.Frag) (a b : Addr) (k m : Kd) : It :=
  ⟨fun i H => ∃ (xs ys : List V) (x y : V), SqK K H a xs k ∧ SqK K H b ys m ∧ xs[i]? = some x ∧ ys[i]? = some y,
   fun i H v H' => ∃ T x y, v = .ref T ∧ H T = none ∧ H' = upd H T (.tup [x, y]) ∧ (∀ xs, SqK K H a xs k → xs[i]? = some x) ∧ ∀ ys, SqK K H b ys m → ys[i]? = some y,
   fun i H => ∃ xs ys : List V, SqK K H a xs k ∧ SqK K H b ys m ∧ min xs.length ys.length = i⟩
theorem turn_zipK {P : Program} {w : World} {K : PySem.W.Frag} {elts : List Expr} {kk : Nat} {tpos : Pos} {k m : Kd} {a b z TI TO i1 i2 : Addr} (S : ZipSep2 z TI TO i1 i2 [i1, a] [i2, b]) (h1 : a ≠ i1) (h2 : b ≠ i2) :
    Turn P w K (.Tuple elts kk tpos) (ItZ K a b k m) [z, TI, TO, i1, i2] z (fun i h => IsZip h z TI TO .none ∧ IsTupOf2 h TI (.ref i1) (.ref i2) ∧ (∃ a1 a2, IsTupOf2 h TO a1 a2) ∧ ItK h i1 a i k ∧ ItK h i2 b i m) where
  mem := by simp
  obj := fun i h st c hc => by
    obtain ⟨hz, hTI, ⟨x, y, hTO⟩, q1, q2⟩ := st
    rcases (show c = z ∨ c = TI ∨ c = TO ∨ c = i1 ∨ c = i2 by simpa using hc) with q | q | q | q | q
    · rw [q]; exact ⟨_, hz, fun v q => nomatch q⟩
    · rw [q]; exact ⟨_, hTI, fun v q => nomatch q⟩
    · rw [q]; exact ⟨_, hTO, fun v q => nomatch q⟩
    · rw [q]; exact q1.ob
    · rw [q]; exact q2.ob
  keep := fun i h h' st q => by
    obtain ⟨hz, hTI, ⟨x, y, hTO⟩, q1, q2⟩ := st
    exact ⟨q z (by simp) _ hz, q TI (by simp) _ hTI, ⟨x, y, q TO (by simp) _ hTO⟩, q1.at' fun o y => q i1 (by simp) o y, q2.at' fun o y => q i2 (by simp) o y⟩
  item := by
    intro X hP hw hK hc i pins s σ H E I hf st hg
    subst hP hw hK
    obtain ⟨hz, hTI, hTO, q1, q2⟩ := st
    obtain ⟨xs, ys, x, y, hqx, hqy, hx, hy⟩ := hg
    obtain ⟨its, rv, p⟩ := seqK I hqx
    obtain ⟨its2, rv2, p2⟩ := seqK I hqy
    obtain ⟨u, hu, ru⟩ := rv.get hx
    obtain ⟨u2, hu2, ru2⟩ := rv2.get hy
    have hil : i < min its.toArray.size its2.toArray.size := by
      rw [List.size_toArray, List.size_toArray]
      exact Nat.lt_min.mpr ⟨(List.getElem?_eq_some_iff.mp hu).1, (List.getElem?_eq_some_iff.mp hu2).1⟩
    have D1 := drK (prog := X.prog) (w := X.w) (A := X.A.in1) k (I.ok.hd hc) i1 a h1 its.toArray
    have D2 := drK (prog := X.prog) (w := X.w) (A := X.A.in1) m (I.ok.hd hc) i2 b h2 its2.toArray
    have N := GoesN.zip2 (elts := elts) (x1 := kk) (pos := tpos) S D1 D2
    refine N.goes i s _ _ hil ⟨hz, hTI, hTO, ⟨q1, p⟩, ⟨q2, p2⟩⟩ fun v h' tk hY st' hk htk => ?_
    obtain ⟨T, v1, v2, rfl, hTn, hv1, hv2, hT⟩ := hY
    obtain ⟨hz', hTI', hTO', ⟨q1', _⟩, ⟨q2', _⟩⟩ := st'
    have e1 : v1 = u := by
      have z : its.toArray[i]? = some u := by simpa using hu
      exact Option.some.inj (hv1.symm.trans z)
    have e2 : v2 = u2 := by
      have z : its2.toArray[i]? = some u2 := by simpa using hu2
      exact Option.some.inj (hv2.symm.trans z)
    subst e1 e2
    have new : ObjOk X.prog X.w (upd H T (.tup [x, y])) h' T (.tup [x, y]) := ⟨by show 2 ≤ sizeLine; decide, [v1, v2], .cons ru (.cons ru2 .nil), hT⟩
    have hf4 : ∀ c ∈ [z, TO, i1, i2], FpOk X pins H c := fun c hc' => hf c (by
      rcases (show c = z ∨ c = TO ∨ c = i1 ∨ c = i2 by simpa using hc') with q | q | q | q <;> simp [q])
    have J : Inv X pins σ (upd H T (.tup [x, y])) { s with heap := h', toks := tk } := I.turnedNew (ch := [z, TO, i1, i2]) (fun c ob hb q => hk c ob hb q) hf4 hTn new
    refine ⟨.ref T, _, J, rfl, ⟨T, x, y, rfl, I.hok.fresh hTn, rfl, fun l hl => by rw [seqK_inj I hl hqx]; exact hx, fun l hl => by rw [seqK_inj I hl hqy]; exact hy⟩, ⟨hz', hTI', hTO', q1', q2'⟩, fun c hcm => ?_⟩
    have hbl : c < s.heap.objs.size := by
      obtain ⟨_, _, hTO⟩ := hTO
      rcases (show c = z ∨ c = TI ∨ c = TO ∨ c = i1 ∨ c = i2 by simpa using hcm) with q | q | q | q | q
      · rw [q]; exact Heap.lt_size hz
      · rw [q]; exact Heap.lt_size hTI
      · rw [q]; exact Heap.lt_size hTO
      · rw [q]; obtain ⟨o, y, _⟩ := q1.ob; exact Heap.lt_size y
      · rw [q]; obtain ⟨o, y, _⟩ := q2.ob; exact Heap.lt_size y
    rw [upd_ne (Nat.ne_of_lt (Nat.lt_of_lt_of_le hbl hTn))]
    exact (hf c hcm).1
  done := by
    intro X hP hw hK hc i pins s σ H E I hf st hg
    subst hP hw hK
    obtain ⟨hz, hTI, hTO, q1, q2⟩ := st
    obtain ⟨xs, ys, hqx, hqy, hx⟩ := hg
    obtain ⟨its, rv, p⟩ := seqK I hqx
    obtain ⟨its2, rv2, p2⟩ := seqK I hqy
    have hl : min its.toArray.size its2.toArray.size = i := by rw [List.size_toArray, List.size_toArray, ← rv.length, ← rv2.length]; exact hx
    have D1 := drK (prog := X.prog) (w := X.w) (A := X.A.in1) k (I.ok.hd hc) i1 a h1 its.toArray
    have D2 := drK (prog := X.prog) (w := X.w) (A := X.A.in1) m (I.ok.hd hc) i2 b h2 its2.toArray
    have N := GoesN.zip2 (elts := elts) (x1 := kk) (pos := tpos) S D1 D2
    have hf4 : ∀ c ∈ [z, TO, i1, i2], FpOk X pins H c := fun c hc' => hf c (by
      rcases (show c = z ∨ c = TO ∨ c = i1 ∨ c = i2 by simpa using hc') with q | q | q | q <;> simp [q])
    refine N.stops s (fun s1 => Inv X pins σ H s1) E ?_ fun h' tk hk _ => I.turnedL (ch := [z, TO, i1, i2]) (fun b o hb q => hk b o hb q) hf4
    rw [hl]
    exact ⟨hz, hTI, hTO, ⟨q1, p⟩, ⟨q2, p2⟩⟩
  self := fun A i s Q E st h => wpAny_pyIter_zip st.1 h
section
variable {X : Cx} {tg : Expr} {e e2 : Expr} {ta : TA} {te : TE} {p pos tpos : Pos} {elts : List Expr} {kk : Nat}
def itSeq (K : PySem.W.Frag) (a : Addr) : Kd → It
  | .l => Itl K a
  | .t => Itt K a
def iSeq (K : PySem.W.Frag) (te : TE) : TI := fun σ H R => te σ H fun x H1 => ∃ a k, x = .ref a ∧ (∃ xs, SqK K H1 a xs k) ∧ R (itSeq K a k) H1
theorem pi_seq (h : PE X e te) : PI X tg e (iSeq X.K te) := by
  refine ⟨fun pins s σ H R I hw => thn (h.run pins s σ H _ I hw) fun v s1 ⟨x, H1, I1, r1, q1⟩ => ?_⟩
  obtain ⟨a, k, rfl, ⟨xs, hq⟩, q⟩ := q1
  obtain rfl : v = Value.ref a := r1
  cases k with
  | l =>
    obtain ⟨its, rv, p, _⟩ := I1.list hq
    exact wpAny_pyIter_list p.isList (pi_one (tk := s1.toks) I1 _ (turn_list a _) ⟨_, Heap.get?_push_size _ rfl, rfl, rfl⟩ q)
  | t =>
    obtain ⟨its, rv, p, _⟩ := I1.tuple hq
    exact wpAny_pyIter_tuple p (pi_one (tk := s1.toks) I1 _ (turn_tuple a _) ⟨_, Heap.get?_push_size _ rfl, rfl, rfl⟩ q)
def iEnumK (K : PySem.W.Frag) (ta : TA) : TI := fun σ H R => ta σ H fun vs H1 => ∃ a k xs, vs = [.ref a] ∧ SqK K H1 a xs k ∧ R (ItE K a k) H1
theorem pi_enumK (hg : Gl X "enumerate") (hm : X.mg "enumerate" = none) (ha : PA X [e] ta) (hs : starEach [e] X.env = [(false, eval e X.env)] := by rfl) :
    PI X (.Tuple elts kk tpos) (.Call (.Name "enumerate" p) [e] [] pos) (iEnumK X.K ta) := by
  refine ⟨fun pins s σ H R I h => Call_ (ld_blt I hg hm boot_enumerate (PyProof.Rows.callWith_type1 (thn (ha.run pos pins s σ H _ I h) fun us s1 ⟨vs, H1, I1, r1, q1⟩ => ?_) hs rfl))⟩
  obtain ⟨a, k, xs, rfl, hq, q⟩ := q1
  obtain ⟨u, rfl, ru⟩ := vals1 r1
  obtain rfl : u = Value.ref a := ru
  obtain ⟨its, rv, p'⟩ := seqK I1 hq
  have la := p'.lt
  refine enum_begins1 (begK k a its.toArray) p' fun h' he hit hsz hk => wpAny_pyIter_enum he ?_
  have J : Inv X pins σ H1 { s1 with heap := h' } := I1.kept (t' := s1.toks) hk
  refine ⟨s1.heap.objs.size + 1, [s1.heap.objs.size + 1, s1.heap.objs.size], _, _, H1, rfl, J, turn_enumK k a (s1.heap.objs.size + 1) s1.heap.objs.size, ⟨⟨.none, he⟩, obK_it hit, Nat.succ_ne_self _, Nat.ne_of_lt la, Nat.ne_of_lt (Nat.lt_succ_of_lt la)⟩, fun b hb => ?_, q⟩
  have hle : s1.heap.objs.size ≤ b := by
    rcases (show b = s1.heap.objs.size + 1 ∨ b = s1.heap.objs.size by simpa using hb) with z | z
    · rw [z]; exact Nat.le_succ _
    · rw [z]; exact Nat.le_refl _
  exact I1.fpOk hle (I1.hok.fresh hle)
def iZipK (K : PySem.W.Frag) (ta : TA) : TI := fun σ H R => ta σ H fun vs H1 => ∃ a b k m xs ys, vs = [.ref a, .ref b] ∧ SqK K H1 a xs k ∧ SqK K H1 b ys m ∧ R (ItZ K a b k m) H1
theorem pi_zipK (hg : Gl X "zip") (hm : X.mg "zip" = none) (ha : PA X [e, e2] ta) (hs : starEach [e, e2] X.env = (false, eval e X.env) :: starEach [e2] X.env := by rfl) (hpl : (backTo pos (starEach [e2] X.env)).any (·.1) = false := by rfl) :
    PI X (.Tuple elts kk tpos) (.Call (.Name "zip" p) [e, e2] [] pos) (iZipK X.K ta) := by
  refine ⟨fun pins s σ H R I h => Call_ (ld_blt I hg hm PyProof.Rows.boot_zip (PyProof.Rows.callWith_type1 (thn (ha.run pos pins s σ H _ I h) fun us s1 ⟨vs, H1, I1, r1, q1⟩ => ?_) hs hpl))⟩
  obtain ⟨a, b, k, m, xs, ys, rfl, hqx, hqy, q⟩ := q1
  obtain ⟨u, u2, rfl, ru, ru2⟩ := vals2 r1
  obtain rfl : u = Value.ref a := ru
  obtain rfl : u2 = Value.ref b := ru2
  obtain ⟨its, rv, p1⟩ := seqK I1 hqx
  obtain ⟨its2, rv2, p2⟩ := seqK I1 hqy
  have la := p1.lt
  have lb := p2.lt
  refine zip_begins2 (begK k a its.toArray) (begK m b its2.toArray) p1 p2 fun h' hz hTI hTO hi1 hi2 hsz hk => wpAny_pyIter_zip hz ?_
  have J : Inv X pins σ H1 { s1 with heap := h' } := I1.kept (t' := s1.toks) hk
  refine ⟨s1.heap.objs.size + 4, [s1.heap.objs.size + 4, s1.heap.objs.size + 2, s1.heap.objs.size + 3, s1.heap.objs.size, s1.heap.objs.size + 1], _, _, H1, rfl, J,
    turn_zipK (k := k) (m := m) (a := a) (b := b) (zip_sep2 (N := s1.heap.objs.size) (fp1 := [a]) (fp2 := [b]) (by simpa using la) (by simpa using lb)) (Nat.ne_of_lt la) (Nat.ne_of_lt (Nat.lt_succ_of_lt lb)), ⟨hz, hTI, ⟨_, _, hTO⟩, obK_it hi1, obK_it hi2⟩, fun c hcm => ?_, q⟩
  have hle : s1.heap.objs.size ≤ c := by
    rcases (show c = s1.heap.objs.size + 4 ∨ c = s1.heap.objs.size + 2 ∨ c = s1.heap.objs.size + 3 ∨ c = s1.heap.objs.size ∨ c = s1.heap.objs.size + 1 by simpa using hcm) with z | z | z | z | z
    · rw [z]; exact Nat.le_add_right _ _
    · rw [z]; exact Nat.le_add_right _ _
    · rw [z]; exact Nat.le_add_right _ _
    · rw [z]; exact Nat.le_refl _
    · rw [z]; exact Nat.le_add_right _ _
  exact I1.fpOk hle (I1.hok.fresh hle)
end
end Wm
end
section
namespace Wm
open PySem PySem.Spec PyProof.Rows L2
structure Itm where
  xs : List D
  bor : List (Nat × SD)
def Itm.keep (m : Itm) (ρ : List SD) : Prop := ∀ p ∈ m.bor, ρ[p.1]? = some p.2
def Itm.slots (m : Itm) (σ σ' : L2.St) : Prop := ∀ p ∈ m.bor, σ'[p.1]? = σ[p.1]?
abbrev Src := List SD → Rs (Itm × List SD)
structure Wlk (G : Gx) (vs0 : List V) (O W : List Addr) (σ : L2.St) (H : Hp) (J : It) (m : Itm) : Prop where
  len : m.xs.length ≤ sizeLine
  go : ∀ O2 W2 σ2 H2 ρ2 i d, Stp O W H O2 W2 H2 → SR G vs0 O2 W2 σ2 H2 ρ2 → m.slots σ σ2 → m.keep ρ2 → m.xs[i]? = some d → J.go i H2 ∧ ∀ x H3, J.yld i H2 x H3 → Same H2 H3 ∧ Rp G O2 H3 d x
  stop : ∀ O2 W2 σ2 H2 ρ2, Stp O W H O2 W2 H2 → SR G vs0 O2 W2 σ2 H2 ρ2 → m.slots σ σ2 → m.keep ρ2 → J.stop m.xs.length H2
def AftI (G : Gx) (vs0 : List V) (Wx : WX) (O W : List Addr) (σ : L2.St) (H : Hp) (R : It → Hp → Prop) : Rs (Itm × List SD) → Prop
  | .ok (m, ρ') => ∀ J O' W' H', Stp O W H O' W' H' → SR G vs0 O' W' σ H' ρ' → m.keep ρ' → Wlk G vs0 O' W' σ H' J m → R J H'
  | .exc c fs ρ' => ExcA G vs0 Wx O W σ H c fs ρ'
  | .bad => False
structure IJ (X : Cx) (cl : Cl) (vs0 : List V) (Wx : WX) (tg iter : Expr) (src : Src) : Prop where
  ex : ∃ wi, PI X tg iter wi ∧ (∀ x, foldedSetIterable iter X.env x = pure x) ∧ ∀ O W σ H ρ R, SR (gx X cl) vs0 O W σ H ρ → AftI (gx X cl) vs0 Wx O W σ H R (src ρ) → wi σ H R
def Cn (G : Gx) (vs0 : List V) (O W : List Addr) (σ : L2.St) (H : Hp) (v : V) (m : Itm) : Prop :=
  m.xs.length ≤ sizeLine ∧ ∃ a k, v = .ref a ∧ ∀ O2 W2 σ2 H2 ρ2, Stp O W H O2 W2 H2 → SR G vs0 O2 W2 σ2 H2 ρ2 → m.slots σ σ2 → m.keep ρ2 → ∃ vs, SqK G.K H2 a vs k ∧ RpA G O2 H2 m.xs vs
def AftC (G : Gx) (vs0 : List V) (Wx : WX) (O W : List Addr) (σ : L2.St) (H : Hp) (R : V → Hp → Prop) : Rs (Itm × List SD) → Prop
  | .ok (m, ρ') => ∀ v O' W' H', Stp O W H O' W' H' → SR G vs0 O' W' σ H' ρ' → m.keep ρ' → Cn G vs0 O' W' σ H' v m → R v H'
  | .exc c fs ρ' => ExcA G vs0 Wx O W σ H c fs ρ'
  | .bad => False
def itemsOf : D → Rs (List D)
  | .lst xs => .ok xs
  | .tup xs => .ok xs
  | _ => .bad
def conV (i : Nat) : Src := fun ρ => match ρ[i]? with
  | some (.sh d) => (itemsOf d).bind fun xs => .ok (⟨xs, []⟩, ρ)
  | some (.own xs) => .ok (⟨xs, [(i, .own xs)]⟩, ρ)
  | some (.byr xs) => .ok (⟨xs, [(i, .byr xs)]⟩, ρ)
  | _ => .bad
def con : LOp → Src
  | .va i, ρ => conV i ρ
  | .ex f, ρ => (f ρ).bind fun p => (itemsOf p.1.frz).bind fun xs => .ok (⟨xs, []⟩, p.2)
section
variable {X : Cx} {cl : Cl} {vs0 : List V} {Wx : WX}
theorem cn_data {G : Gx} {O W : List Addr} {σ : L2.St} {H : Hp} {d : D} {v : V} {xs : List D} (w : Wf O W H) (h : Rp G O H d v) (e : itemsOf d = .ok xs) : Cn G vs0 O W σ H v ⟨xs, []⟩ := by
  cases d with
  | lst ds =>
    cases e
    have h' := h
    simp only [Rp] at h'
    obtain ⟨a, vs, ev, t, r⟩ := h'
    refine ⟨by rw [r.length]; exact t.1, a, .l, ev, fun O2 W2 σ2 H2 ρ2 st sr _ _ => ⟨vs, (LO.step (G := G) w st t).sq, r.step w st⟩⟩
  | tup ds =>
    cases e
    have h' := h
    simp only [Rp] at h'
    obtain ⟨a, vs, ev, t, r⟩ := h'
    refine ⟨by rw [r.length]; exact t.1, a, .t, ev, fun O2 W2 σ2 H2 ρ2 st sr _ _ => ⟨vs, (TO.step (G := G) w st t).sq, r.step w st⟩⟩
  | _ => cases e
theorem itemsOf_noexc {d : D} {c : Str} {fs : List (Str × D)} {ρ : List SD} : itemsOf d ≠ .exc c fs ρ := by
  cases d <;> exact fun z => nomatch z
theorem cn_own {G : Gx} {O W : List Addr} {σ : L2.St} {H : Hp} {ρ : List SD} {i : Nat} {s : SD} {xs : List D} {a : Addr} (sr : SR G vs0 O W σ H ρ) (e : σ[i]? = some (some (.ref a))) (o : OwnAt G O W H a xs) (hs : s = .own xs ∨ s = .byr xs) : Cn G vs0 O W σ H (.ref a) ⟨xs, [(i, s)]⟩ := by
  obtain ⟨_, vs, _, h3, h4⟩ := o
  refine ⟨by rw [h4.length]; exact h3, a, .l, rfl, fun O2 W2 σ2 H2 ρ2 st sr2 hsl hk => ?_⟩
  have k1 : ρ2[i]? = some s := hk (i, s) (by simp)
  have k2 : σ2[i]? = σ[i]? := hsl (i, s) (by simp)
  obtain ⟨b, eb, _, vs', h2', _, h4'⟩ := sr2.getOwn k1 hs
  rw [k2, e] at eb; cases eb
  exact ⟨vs', SqL.of h2', h4'⟩
theorem con_core {e : Expr} {o : LOp} (h : LJ X cl vs0 Wx e o) : ∃ t, PE X e t ∧ ∀ O W σ H ρ R, SR (gx X cl) vs0 O W σ H ρ → AftC (gx X cl) vs0 Wx O W σ H R (con o ρ) → t σ H R := by
  cases o with
  | va i =>
    refine ⟨tVar i, h, fun O W σ H ρ R sr hw => ?_⟩
    have hw : AftC (gx X cl) vs0 Wx O W σ H R (conV i ρ) := hw
    unfold conV at hw
    split at hw
    · rename_i d e
      obtain ⟨v, ev, r⟩ := sr.get e
      cases e2 : itemsOf d with
      | bad => rw [e2] at hw; exact hw.elim
      | exc c fs ρ' => exact absurd e2 itemsOf_noexc
      | ok xs =>
        rw [e2] at hw
        exact ⟨v, ev, hw v O W H Stp.refl sr (fun p hp => absurd hp (by simp)) (cn_data sr.wf r e2)⟩
    · rename_i xs e
      obtain ⟨a, ea, oa⟩ := sr.getOwn e (.inl rfl)
      exact ⟨_, ea, hw (.ref a) O W H Stp.refl sr (fun p hp => by
        have : p = (i, SD.own xs) := by simpa using hp
        rw [this]; exact e) (cn_own sr ea oa (.inl rfl))⟩
    · rename_i xs e
      obtain ⟨a, ea, oa⟩ := sr.getOwn e (.inr rfl)
      exact ⟨_, ea, hw (.ref a) O W H Stp.refl sr (fun p hp => by
        have : p = (i, SD.byr xs) := by simpa using hp
        rw [this]; exact e) (cn_own sr ea oa (.inr rfl))⟩
    · exact hw.elim
  | ex f =>
    obtain ⟨t, q1, q2⟩ := h.ex
    refine ⟨t, q1, fun O W σ H ρ R sr hw => q2 O W σ H ρ _ sr ?_⟩
    have hw : AftC (gx X cl) vs0 Wx O W σ H R ((f ρ).bind fun p => (itemsOf p.1.frz).bind fun xs => .ok (⟨xs, []⟩, p.2)) := hw
    cases e : f ρ with
    | bad => rw [e] at hw; exact hw
    | exc c fs ρ' => rw [e] at hw; exact hw
    | ok p =>
      obtain ⟨r, ρ1⟩ := p
      rw [e] at hw
      have hw2 : AftC (gx X cl) vs0 Wx O W σ H R ((itemsOf r.frz).bind fun xs => .ok (⟨xs, []⟩, ρ1)) := hw
      intro v O1 W1 H1 st1 sr1 rr
      obtain ⟨O2, W2, st2, sr2, rp⟩ := rr.frz sr1
      cases e2 : itemsOf r.frz with
      | bad => rw [e2] at hw2; exact hw2.elim
      | exc c fs ρ' => exact absurd e2 itemsOf_noexc
      | ok xs =>
        rw [e2] at hw2
        exact hw2 v O2 W2 H1 (st1.trans sr.wf st2) sr2 (fun p hp => absurd hp (by simp)) (cn_data sr2.wf rp e2)
def CJ (X : Cx) (cl : Cl) (vs0 : List V) (Wx : WX) (e : Expr) (src : Src) : Prop := ∃ t, PE X e t ∧ ∀ O W σ H ρ R, SR (gx X cl) vs0 O W σ H ρ → AftC (gx X cl) vs0 Wx O W σ H R (src ρ) → t σ H R
def conF (i : Nat) : Src := fun ρ => match ρ[i]? with
  | some (.sh d) => (itemsOf d).bind fun xs => .ok (⟨xs, []⟩, ρ)
  | some (.own xs) => .ok (⟨xs, []⟩, ρ.set i (.sh (.lst xs)))
  | some (.byr xs) => .ok (⟨xs, [(i, .byr xs)]⟩, ρ)
  | _ => .bad
theorem cj_F {i : Nat} {e : Expr} (h : PE X e (tVar i)) : CJ X cl vs0 Wx e (conF i) := by
  refine ⟨tVar i, h, fun O W σ H ρ R sr hw => ?_⟩
  unfold conF at hw
  split at hw
  · rename_i d e
    obtain ⟨v, ev, r⟩ := sr.get e
    cases e2 : itemsOf d with
    | bad => rw [e2] at hw; exact hw.elim
    | exc c fs ρ' => exact absurd e2 itemsOf_noexc
    | ok xs =>
      rw [e2] at hw
      exact ⟨v, ev, hw v O W H Stp.refl sr (fun p hp => absurd hp (by simp)) (cn_data sr.wf r e2)⟩
  · rename_i xs e
    obtain ⟨a, O', W', e1, st, sr', r⟩ := sr.demote e (.inl rfl)
    exact ⟨_, e1, hw (.ref a) O' W' H st sr' (fun p hp => absurd hp (by simp)) (cn_data (d := .lst xs) sr'.wf r rfl)⟩
  · rename_i xs e
    obtain ⟨a, ea, oa⟩ := sr.getOwn e (.inr rfl)
    exact ⟨_, ea, hw (.ref a) O W H Stp.refl sr (fun p hp => by
      have : p = (i, SD.byr xs) := by simpa using hp
      rw [this]; exact e) (cn_own sr ea oa (.inr rfl))⟩
  · exact hw.elim
theorem ij_seqC {tg e : Expr} {src : Src} (h : CJ X cl vs0 Wx e src) (hs : ∀ x, foldedSetIterable e X.env x = pure x := by intro _; rfl) : IJ X cl vs0 Wx tg e src := by
  obtain ⟨t, p, q⟩ := h
  refine ⟨⟨_, pi_seq p, hs, fun O W σ H ρ R sr hw => q O W σ H ρ _ sr ?_⟩⟩
  cases e : src ρ with
  | bad => rw [e] at hw; exact hw
  | exc c fs ρ' => rw [e] at hw; exact hw
  | ok m =>
    obtain ⟨m, ρ1⟩ := m
    rw [e] at hw
    intro v O' W' H' st sr' hk ⟨hl, a, k, ev, hc⟩
    refine ⟨a, k, ev, ?_, hw _ O' W' H' st sr' hk ⟨hl, fun O2 W2 σ2 H2 ρ2 i d st2 sr2 h1 h2 hd => ?_, fun O2 W2 σ2 H2 ρ2 st2 sr2 h1 h2 => ?_⟩⟩
    · obtain ⟨vs, hq, _⟩ := hc O' W' σ H' ρ1 Stp.refl sr' (fun _ _ => rfl) hk
      exact ⟨vs, hq⟩
    · obtain ⟨vs, hq, ra⟩ := hc O2 W2 σ2 H2 ρ2 st2 sr2 h1 h2
      obtain ⟨v, hv, rv⟩ := ra.getD hd
      cases k with
      | l => exact ⟨⟨vs, v, hq, hv⟩, fun x H3 ⟨e3, hy⟩ => by
          subst e3
          have : x = v := Option.some.inj ((hy vs hq).symm.trans hv)
          subst this
          exact ⟨Same.refl _, rv⟩⟩
      | t => exact ⟨⟨vs, v, hq, hv⟩, fun x H3 ⟨e3, hy⟩ => by
          subst e3
          have : x = v := Option.some.inj ((hy vs hq).symm.trans hv)
          subst this
          exact ⟨Same.refl _, rv⟩⟩
    · obtain ⟨vs, hq, ra⟩ := hc O2 W2 σ2 H2 ρ2 st2 sr2 h1 h2
      cases k with
      | l => exact ⟨vs, hq, Nat.le_of_eq ra.length.symm⟩
      | t => exact ⟨vs, hq, Nat.le_of_eq ra.length.symm⟩
theorem ij_seq {tg e : Expr} {o : LOp} (h : LJ X cl vs0 Wx e o) (hs : ∀ x, foldedSetIterable e X.env x = pure x := by intro _; rfl) : IJ X cl vs0 Wx tg e (con o) := ij_seqC (con_core h) hs
theorem rp_tup' {G : Gx} {O W : List Addr} {H : Hp} {p : Addr} {vs : List V} {ds : List D} (w : Wf O W H) (n : H p = none) (hl : vs.length ≤ sizeLine) (h : RpA G O H ds vs) : Same H (upd H p (.tup vs)) ∧ Rp G O (upd H p (.tup vs)) (.tup ds) (.ref p) := ⟨same_upd n, rp_tup w n hl h⟩
def enumD (xs : List D) : List D := xs.mapIdx fun i x => .tup [.int (i : Nat), x]
def enumS (src : Src) : Src := fun ρ => (src ρ).bind fun p => .ok (⟨enumD p.1.xs, p.1.bor⟩, p.2)
abbrev srcEnum (o : LOp) : Src := enumS (con o)
theorem ij_enumC {e : Expr} {src : Src} {p pos tpos : Pos} {elts : List Expr} {kk : Nat} (hg : Gl X "enumerate") (hm : X.mg "enumerate" = none) (h : CJ X cl vs0 Wx e src) (hs : starEach [e] X.env = [(false, eval e X.env)] := by rfl) :
    IJ X cl vs0 Wx (.Tuple elts kk tpos) (.Call (.Name "enumerate" p) [e] [] pos) (enumS src) := by
  obtain ⟨t, p, q⟩ := h
  refine ⟨⟨_, pi_enumK hg hm (pa_cons p pa_nil hs) hs, fun _ => rfl, fun O W σ H ρ R sr hw => q O W σ H ρ _ sr ?_⟩⟩
  unfold enumS at hw
  cases e : src ρ with
  | bad => rw [e] at hw; exact hw
  | exc c fs ρ' => rw [e] at hw; exact hw
  | ok m =>
    obtain ⟨m, ρ1⟩ := m
    rw [e] at hw
    intro v O' W' H' st sr' hk ⟨hl, a, k, ev, hc⟩
    obtain ⟨vs, hq, _⟩ := hc O' W' σ H' ρ1 Stp.refl sr' (fun _ _ => rfl) hk
    refine ⟨a, k, vs, by rw [ev], hq, hw _ O' W' H' st sr' hk ⟨by simpa [enumD] using hl, fun O2 W2 σ2 H2 ρ2 i d st2 sr2 h1 h2 hd => ?_, fun O2 W2 σ2 H2 ρ2 st2 sr2 h1 h2 => ?_⟩⟩
    · obtain ⟨vs, hq, ra⟩ := hc O2 W2 σ2 H2 ρ2 st2 sr2 h1 h2
      have hd : (enumD m.xs)[i]? = some d := hd
      unfold enumD at hd
      rw [List.getElem?_mapIdx] at hd
      obtain ⟨x, hx, rfl⟩ := Option.map_eq_some_iff.mp hd
      obtain ⟨v, hv, rv⟩ := ra.getD hx
      refine ⟨⟨vs, v, hq, hv⟩, fun y H3 ⟨T, z, ey, hT, e3, hy⟩ => ?_⟩
      subst e3 ey
      have : z = v := Option.some.inj ((hy vs hq).symm.trans hv)
      subst this
      refine rp_tup' sr2.wf hT (by show 2 ≤ sizeLine; decide) ?_
      simp only [RpA, Rp]
      exact ⟨_, _, rfl, rfl, _, _, rfl, rv, rfl⟩
    · obtain ⟨vs, hq, ra⟩ := hc O2 W2 σ2 H2 ρ2 st2 sr2 h1 h2
      exact ⟨vs, hq, by simp [enumD, ra.length]⟩
theorem ij_enum {e : Expr} {o : LOp} {p pos tpos : Pos} {elts : List Expr} {kk : Nat} (hg : Gl X "enumerate") (hm : X.mg "enumerate" = none) (h : LJ X cl vs0 Wx e o) (hs : starEach [e] X.env = [(false, eval e X.env)] := by rfl) :
    IJ X cl vs0 Wx (.Tuple elts kk tpos) (.Call (.Name "enumerate" p) [e] [] pos) (srcEnum o) := ij_enumC hg hm (con_core h) hs
noncomputable instance (m : Itm) (ρ : List SD) : Decidable (m.keep ρ) := Classical.propDecidable _
def zipD (xs ys : List D) : List D := List.zipWith (fun x y => .tup [x, y]) xs ys
noncomputable def srcZip (o o2 : LOp) : Src := fun ρ => (con o ρ).bind fun p => (con o2 p.2).bind fun q => if p.1.keep q.2 then .ok (⟨zipD p.1.xs q.1.xs, p.1.bor ++ q.1.bor⟩, q.2) else .bad
theorem Cn.later {G : Gx} {O W O1 W1 : List Addr} {σ : L2.St} {H H1 : Hp} {v : V} {m : Itm} (w : Wf O W H) (s : Stp O W H O1 W1 H1) (h : Cn G vs0 O W σ H v m) : Cn G vs0 O1 W1 σ H1 v m := by
  obtain ⟨hl, a, k, ev, hc⟩ := h
  exact ⟨hl, a, k, ev, fun O2 W2 σ2 H2 ρ2 st => hc O2 W2 σ2 H2 ρ2 (s.trans w st)⟩
theorem ij_zip {e e2 : Expr} {o o2 : LOp} {p pos tpos : Pos} {elts : List Expr} {kk : Nat} (hg : Gl X "zip") (hm : X.mg "zip" = none) (h : LJ X cl vs0 Wx e o) (h2 : LJ X cl vs0 Wx e2 o2)
    (hs : starEach [e, e2] X.env = (false, eval e X.env) :: starEach [e2] X.env := by rfl) (hs2 : starEach [e2] X.env = (false, eval e2 X.env) :: starEach [] X.env := by rfl) (hpl : (backTo pos (starEach [e2] X.env)).any (·.1) = false := by rfl) :
    IJ X cl vs0 Wx (.Tuple elts kk tpos) (.Call (.Name "zip" p) [e, e2] [] pos) (srcZip o o2) := by
  obtain ⟨t, p, q⟩ := con_core h
  obtain ⟨t2, p2, q2⟩ := con_core h2
  refine ⟨⟨_, pi_zipK hg hm (pa_cons p (pa_cons p2 pa_nil hs2) hs) hs hpl, fun _ => rfl, fun O W σ H ρ R sr hw => q O W σ H ρ _ sr ?_⟩⟩
  unfold srcZip at hw
  cases e : con o ρ with
  | bad => rw [e] at hw; exact hw
  | exc c fs ρ' => rw [e] at hw; exact hw
  | ok m =>
    obtain ⟨m, ρ1⟩ := m
    rw [e] at hw
    have hw : AftI (gx X cl) vs0 Wx O W σ H R ((con o2 ρ1).bind fun q => if m.keep q.2 then .ok (⟨zipD m.xs q.1.xs, m.bor ++ q.1.bor⟩, q.2) else .bad) := hw
    intro v O1 W1 H1 st1 sr1 hk1 cn1
    refine q2 O1 W1 σ H1 ρ1 _ sr1 ?_
    cases e2 : con o2 ρ1 with
    | bad => rw [e2] at hw; exact hw
    | exc c fs ρ' => rw [e2] at hw; exact ExcA.back sr.wf st1 hw
    | ok m2 =>
      obtain ⟨m2, ρ2⟩ := m2
      rw [e2] at hw
      have hw : AftI (gx X cl) vs0 Wx O W σ H R (if m.keep ρ2 then .ok (⟨zipD m.xs m2.xs, m.bor ++ m2.bor⟩, ρ2) else .bad) := hw
      intro v2 O2 W2 H2 st2 sr2 hk2 cn2
      split at hw
      · rename_i hkk
        have cn1' := cn1.later sr1.wf st2
        obtain ⟨hl, a, k, ev, hc⟩ := cn1'
        obtain ⟨hl2, a2, k2, ev2, hc2⟩ := cn2
        obtain ⟨vs, hq, _⟩ := hc O2 W2 σ H2 ρ2 Stp.refl sr2 (fun _ _ => rfl) hkk
        obtain ⟨vs2, hq2, _⟩ := hc2 O2 W2 σ H2 ρ2 Stp.refl sr2 (fun _ _ => rfl) hk2
        have sl : ∀ {σ2 : L2.St}, Itm.slots ⟨zipD m.xs m2.xs, m.bor ++ m2.bor⟩ σ σ2 → m.slots σ σ2 ∧ m2.slots σ σ2 := fun z => ⟨fun p hp => z p (List.mem_append_left _ hp), fun p hp => z p (List.mem_append_right _ hp)⟩
        have kp : ∀ {ρ : List SD}, Itm.keep ⟨zipD m.xs m2.xs, m.bor ++ m2.bor⟩ ρ → m.keep ρ ∧ m2.keep ρ := fun z => ⟨fun p hp => z p (List.mem_append_left _ hp), fun p hp => z p (List.mem_append_right _ hp)⟩
        refine ⟨a, a2, k, k2, vs, vs2, by rw [ev, ev2], hq, hq2, hw _ O2 W2 H2 (st1.trans sr.wf st2) sr2 (fun p hp => (List.mem_append.mp hp).elim (hkk p) (hk2 p)) ⟨by simp only [zipD, List.length_zipWith]; omega, fun O3 W3 σ3 H3 ρ3 i d st3 sr3 h1 h2 hd => ?_, fun O3 W3 σ3 H3 ρ3 st3 sr3 h1 h2 => ?_⟩⟩
        · obtain ⟨us, hu, ra⟩ := hc O3 W3 σ3 H3 ρ3 st3 sr3 (sl h1).1 (kp h2).1
          obtain ⟨us2, hu2, ra2⟩ := hc2 O3 W3 σ3 H3 ρ3 st3 sr3 (sl h1).2 (kp h2).2
          have hd : (zipD m.xs m2.xs)[i]? = some d := hd
          unfold zipD at hd
          rw [List.getElem?_zipWith] at hd
          cases e3 : m.xs[i]? with
          | none => rw [e3] at hd; cases hd
          | some x =>
            cases e4 : m2.xs[i]? with
            | none => rw [e3, e4] at hd; cases hd
            | some y =>
              rw [e3, e4] at hd
              have hd : D.tup [x, y] = d := Option.some.inj hd
              subst hd
              obtain ⟨w1, hw1, rw1⟩ := ra.getD e3
              obtain ⟨w2, hw2, rw2⟩ := ra2.getD e4
              refine ⟨⟨us, us2, w1, w2, hu, hu2, hw1, hw2⟩, fun z H4 ⟨T, z1, z2, ez, hT, e4', hy1, hy2⟩ => ?_⟩
              subst e4' ez
              have q1 : z1 = w1 := Option.some.inj ((hy1 us hu).symm.trans hw1)
              have q2 : z2 = w2 := Option.some.inj ((hy2 us2 hu2).symm.trans hw2)
              subst q1 q2
              refine rp_tup' sr3.wf hT (by show 2 ≤ sizeLine; decide) ?_
              simp only [RpA]
              exact ⟨_, _, rfl, rw1, _, _, rfl, rw2, rfl⟩
        · obtain ⟨us, hu, ra⟩ := hc O3 W3 σ3 H3 ρ3 st3 sr3 (sl h1).1 (kp h2).1
          obtain ⟨us2, hu2, ra2⟩ := hc2 O3 W3 σ3 H3 ρ3 st3 sr3 (sl h1).2 (kp h2).2
          exact ⟨us, us2, hu, hu2, by simp [zipD, List.length_zipWith, ra.length, ra2.length]⟩
      · exact hw.elim
def rangeD (lo : Int) (n : Nat) : List D := (List.range n).map fun (k : Nat) => .int (lo + k)
def rngOk (i : Int) : Prop := -(2 ^ 62) ≤ i ∧ i < 2 ^ 62
instance (i : Int) : Decidable (rngOk i) := by unfold rngOk; infer_instance
def rng1 (ρ : List SD) : List D → Rs (Itm × List SD)
  | [.int j] => if rngOk j ∧ j.toNat ≤ sizeLine then .ok (⟨rangeD 0 j.toNat, []⟩, ρ) else .bad
  | _ => .bad
def rng2 (ρ : List SD) : List D → Rs (Itm × List SD)
  | [.int i, .int j] => if rngOk i ∧ rngOk j ∧ (j - i).toNat ≤ sizeLine then .ok (⟨rangeD i (j - i).toNat, []⟩, ρ) else .bad
  | _ => .bad
def srcRng1 (fl : List LOp) : Src := fun ρ => (ops fl ρ).bind fun q => rng1 q.2 q.1
def srcRng2 (fl : List LOp) : Src := fun ρ => (ops fl ρ).bind fun q => rng2 q.2 q.1
theorem wlk_rng {G : Gx} {O W : List Addr} {σ : L2.St} {H : Hp} {lo : Int} {n : Nat} (h : n ≤ sizeLine) : Wlk G vs0 O W σ H (Itr lo n) ⟨rangeD lo n, []⟩ := by
  refine ⟨by simpa [rangeD] using h, fun O2 W2 σ2 H2 ρ2 i d st sr h1 h2 hd => ?_, fun O2 W2 σ2 H2 ρ2 st sr h1 h2 => ?_⟩
  · have hd : (rangeD lo n)[i]? = some d := hd
    unfold rangeD at hd
    rw [List.getElem?_map] at hd
    obtain ⟨k, hk, rfl⟩ := Option.map_eq_some_iff.mp hd
    obtain ⟨hl, e⟩ := List.getElem?_eq_some_iff.mp hk
    rw [List.getElem_range] at e
    subst e
    have hl' : i < n := by simpa using hl
    refine ⟨hl', fun x H3 ⟨e1, e2⟩ => ?_⟩
    subst e1 e2
    exact ⟨Same.refl _, by simp only [Rp]⟩
  · show n ≤ (rangeD lo n).length
    simp [rangeD]
theorem ij_rng1 {tg a : Expr} {fl : List LOp} {p pos : Pos} (hg : Gl X "range") (hm : X.mg "range" = none) (h : OJ X cl vs0 Wx [a] fl) (hs : starEach [a] X.env = [(false, eval a X.env)] := by rfl) : IJ X cl vs0 Wx tg (.Call (.Name "range" p) [a] [] pos) (srcRng1 fl) := by
  obtain ⟨ts, _, pa, q⟩ := h.ex
  refine ⟨⟨_, pi_range1 hg hm pa hs, fun _ => rfl, fun O W σ H ρ R sr hw => q O W σ H ρ _ sr ?_⟩⟩
  unfold srcRng1 at hw
  cases e : ops fl ρ with
  | bad => rw [e] at hw; exact hw
  | exc c fs ρ' => rw [e] at hw; exact hw
  | ok m =>
    obtain ⟨ds, ρ1⟩ := m
    rw [e] at hw
    intro vs O' W' H' st sr' ho
    have hw : AftI (gx X cl) vs0 Wx O W σ H R (rng1 ρ1 ds) := hw
    unfold rng1 at hw
    split at hw
    · split at hw
      · rename_i hz
        obtain ⟨v, ev, h1⟩ := ho.one
        refine ⟨_, by rw [ev, h1.int], hz.1.1, hz.1.2, hw _ O' W' H' st sr' (fun p hp => absurd hp (by simp)) (wlk_rng hz.2)⟩
      · exact hw.elim
    · exact hw.elim
theorem ij_rng2 {tg a b : Expr} {fl : List LOp} {p pos : Pos} (hg : Gl X "range") (hm : X.mg "range" = none) (h : OJ X cl vs0 Wx [a, b] fl) (hs : starEach [a, b] X.env = [(false, eval a X.env), (false, eval b X.env)] := by rfl) (hs2 : starEach [b] X.env = [(false, eval b X.env)] := by rfl) :
    IJ X cl vs0 Wx tg (.Call (.Name "range" p) [a, b] [] pos) (srcRng2 fl) := by
  obtain ⟨ts, _, pa, q⟩ := h.ex
  refine ⟨⟨_, pi_range2 hg hm pa hs hs2, fun _ => rfl, fun O W σ H ρ R sr hw => q O W σ H ρ _ sr ?_⟩⟩
  unfold srcRng2 at hw
  cases e : ops fl ρ with
  | bad => rw [e] at hw; exact hw
  | exc c fs ρ' => rw [e] at hw; exact hw
  | ok m =>
    obtain ⟨ds, ρ1⟩ := m
    rw [e] at hw
    intro vs O' W' H' st sr' ho
    have hw : AftI (gx X cl) vs0 Wx O W σ H R (rng2 ρ1 ds) := hw
    unfold rng2 at hw
    split at hw
    · split at hw
      · rename_i hz
        obtain ⟨v, u, ev, h1, h2⟩ := ho.two
        refine ⟨_, _, by rw [ev, h1.int, h2.int], ⟨hz.1.1, hz.1.2, hz.2.1.1, hz.2.1.2⟩, hw _ O' W' H' st sr' (fun p hp => absurd hp (by simp)) (wlk_rng hz.2.2)⟩
      · exact hw.elim
    · exact hw.elim
end
end Wm
end
section
namespace Wm
open PySem PySem.Spec PyProof.Rows L2
abbrev Tg := D → List SD → Option (List SD)
structure GJ (X : Cx) (cl : Cl) (vs0 : List V) (tg : Expr) (st : Tg) (is : List Nat) : Prop where
  ex : ∃ g, PG X tg g ∧ ∀ O W σ H ρ ρ' d v Q, SR (gx X cl) vs0 O W σ H ρ → Rp (gx X cl) O H d v → st d ρ = some ρ' → (∀ σ', SR (gx X cl) vs0 O W σ' H ρ' → (∀ vs, (∀ i ∈ is, i ∈ vs) → wipe σ' vs = wipe σ vs) → Q σ' H) → g v σ H Q
theorem wipe_set {σ : L2.St} {i : Nat} {x : Option V} : ∀ {vs : List Nat}, i ∈ vs → wipe (σ.set i x) vs = wipe σ vs
  | [], h => absurd h (by simp)
  | v :: vs, h => by
    unfold wipe
    by_cases e : i ∈ vs
    · rw [wipe_set e]
    · have ev : i = v := by
        rcases List.mem_cons.mp h with z | z
        · exact z
        · exact absurd z e
      subst ev
      have key : ∀ {ws : List Nat}, i ∉ ws → wipe (σ.set i x) ws = (wipe σ ws).set i x := by
        intro ws
        induction ws with
        | nil => intro _; rfl
        | cons w ws ih =>
          intro hn
          have hw : w ≠ i := fun z => hn (by simp [z])
          unfold wipe
          rw [ih (fun z => hn (List.mem_cons_of_mem _ z)), List.set_comm _ _ (Ne.symm hw)]
      rw [key e, List.set_set]
def stN (i : Nat) : Tg := fun d ρ => some (ρ.set i (.sh d))
def setO : List Nat → List D → List SD → Option (List SD)
  | [], [], ρ => some ρ
  | i :: is, d :: ds, ρ => setO is ds (ρ.set i (.sh d))
  | _, _, _ => none
def stT (is : List Nat) : Tg := fun d ρ => match d with
  | .tup ds => setO is ds ρ
  | _ => none
section
variable {X : Cx} {cl : Cl} {vs0 : List V} {Wx : WX}
theorem gj_name {i : Nat} {x : Str} {pos : Pos} (hN : X.N.Nodup) (hi : X.N[i]? = some x) (hx : Loc X.env.scope x) (hf : X.fn x = true ∨ X.env.scope.names.lookup x = some .local := by first | exact .inl rfl | exact .inr rfl | assumption) : GJ X cl vs0 (.Name x pos) (stN i) [i] :=
  ⟨⟨_, pg_name hN hi hx hf, fun O W σ H ρ ρ' d v Q sr rp e q => by
    cases e
    exact q _ (sr.set rp) fun vs h => wipe_set (h i (by simp))⟩⟩
theorem gNamesO_ok {G : Gx} {O W : List Addr} {H : Hp} {Q : L2.St → Hp → Prop} : ∀ {is : List Nat} {ds : List D} {vs : List V} {σ : L2.St} {ρ ρ' : List SD}, SR G vs0 O W σ H ρ → RpA G O H ds vs → setO is ds ρ = some ρ' →
    (∀ σ', SR G vs0 O W σ' H ρ' → (∀ vs, (∀ i ∈ is, i ∈ vs) → wipe σ' vs = wipe σ vs) → Q σ' H) → gNames is vs σ H Q
  | [], [], vs, σ, ρ, ρ', sr, ra, h, q => by
    simp only [RpA] at ra
    cases h
    exact ⟨ra, q σ sr fun _ _ => rfl⟩
  | i :: is, d :: ds, vs, σ, ρ, ρ', sr, ra, h, q => by
    simp only [RpA] at ra
    obtain ⟨v, r, e, h1, h2⟩ := ra
    exact ⟨v, r, e, gNamesO_ok (sr.set h1) h2 h fun σ' sr' hw => q σ' sr' fun vs hv => (hw vs fun j hj => hv j (List.mem_cons_of_mem _ hj)).trans (wipe_set (hv i (by simp)))⟩
  | [], _ :: _, _, _, _, _, _, _, h, _ => by cases h
  | _ :: _, [], _, _, _, _, _, _, h, _ => by cases h
theorem setO_len : ∀ {is : List Nat} {ds : List D} {ρ ρ2 : List SD}, setO is ds ρ = some ρ2 → is.length = ds.length
  | [], [], _, _, _ => rfl
  | i :: is, d :: ds, _, _, h => congrArg (· + 1) (setO_len (is := is) (ds := ds) h)
  | [], _ :: _, _, _, h => by cases h
  | _ :: _, [], _, _, h => by cases h
theorem gj_tup {es : List Expr} {k n : Nat} {is : List Nat} {pos : Pos} (hc : X.calm = true) (hg : PGs X es (gNames is)) (hl : is.length = n) (hn : (assignEach es X.env).length = n := by rfl) (hst : (assignEach es X.env).findIdx? (·.1) = none := by rfl) : GJ X cl vs0 (.Tuple es k pos) (stT is) is := by
  refine ⟨⟨_, pg_tup hc hg hn hst, fun O W σ H ρ ρ' d v Q sr rp e q => ?_⟩⟩
  cases d with
  | tup ds =>
    have e : setO is ds ρ = some ρ' := e
    simp only [Rp] at rp
    obtain ⟨a, vs, ev, t, ra⟩ := rp
    exact ⟨a, vs, ev, t.sq, by rw [← ra.length, ← setO_len e]; exact hl, gNamesO_ok sr ra e q⟩
  | _ => cases e
def forL (st : Tg) (body : Ss) : List D → List SD → Rs Fl
  | [], ρ => .ok (.nx ρ)
  | d :: ds, ρ => match st d ρ with
    | some ρ1 => (body ρ1).bind fun fl => match fl with
      | .nx ρ2 => forL st body ds ρ2
      | .ct ρ2 => forL st body ds ρ2
      | .bk ρ2 => .ok (.nx ρ2)
      | .rt r ρ2 => .ok (.rt r ρ2)
    | none => .bad
noncomputable def forK (m : Itm) (st : Tg) (body : Ss) : List D → List SD → Rs Fl
  | [], ρ => if m.keep ρ then .ok (.nx ρ) else .bad
  | d :: ds, ρ => if m.keep ρ then (match st d ρ with
    | some ρ1 => (body ρ1).bind fun fl => match fl with
      | .nx ρ2 => forK m st body ds ρ2
      | .ct ρ2 => forK m st body ds ρ2
      | .bk ρ2 => .ok (.nx ρ2)
      | .rt r ρ2 => .ok (.rt r ρ2)
    | none => .bad) else .bad
def SD.isByr : SD → Bool
  | .byr _ => true
  | _ => false
noncomputable def sFor (src : Src) (st : Tg) (body : Ss) : Ss := fun ρ => (src ρ).bind fun p => match p.1.bor with
  | [] => forL st body p.1.xs p.2
  | bs => if bs.all (fun b => b.2.isByr) then forK p.1 st body p.1.xs p.2 else .bad
theorem sj_for {tg iter : Expr} {body : List Stmt} {src : Src} {st : Tg} {is : List Nat} {g : Ss} {pos : Pos} (hp : PassesOwn (model X.prog X.w) X.A X.env X.xe) (hc : X.calm = true) (hi : IJ X cl vs0 Wx tg iter src) (hg : GJ X cl vs0 tg st is) (hb : BJ X cl vs0 Wx body g) :
    SJ X cl vs0 Wx (.For tg iter body [] pos) (sFor src st g) := by
  obtain ⟨wi, p1, hs, q1⟩ := hi.ex
  obtain ⟨tg', p2, q2⟩ := hg.ex
  obtain ⟨tb, p3, q3⟩ := hb.ex
  refine ⟨⟨_, ps_for hp hc p1 p2 p3 hs, fun O W σ H ρ E sr hw => q1 O W σ H ρ _ sr ?_⟩⟩
  unfold sFor at hw
  cases e : src ρ with
  | bad => rw [e] at hw; exact hw
  | exc c fs ρ' => rw [e] at hw; exact hw σ
  | ok p =>
    obtain ⟨⟨xs, bor⟩, ρ1⟩ := p
    rw [e] at hw
    cases bor with
    | cons b bs =>
      have hw : AftS (gx X cl) vs0 Wx O W H E (if (b :: bs).all (fun b => b.2.isByr) then forK ⟨xs, b :: bs⟩ st g xs ρ1 else .bad) := hw
      split at hw
      · rename_i hby
        generalize hm : (⟨xs, b :: bs⟩ : Itm) = mm at hw
        intro J O1 W1 H1 st1 sr1 hk wk
        have hxs : mm.xs = xs := by rw [← hm]
        have byr : ∀ p ∈ mm.bor, p.2.isByr = true := fun p hp => List.all_eq_true.mp hby p (by rw [← hm] at hp; exact hp)
        have slo : ∀ {O2 W2 σ2 H2 ρ2}, SR (gx X cl) vs0 O2 W2 σ2 H2 ρ2 → mm.keep ρ2 → mm.slots σ σ2 := fun {O2 W2 σ2 H2 ρ2} sr2 hk2 p hp => by
          have k1 := hk p hp
          have k2 := hk2 p hp
          have kb := byr p hp
          obtain ⟨i, s⟩ := p
          cases s with
          | byr ys =>
            obtain ⟨a, e1, e2, _⟩ := sr1.slot i _ k1
            obtain ⟨c, f1, f2, _⟩ := sr2.slot i _ k2
            rw [e2] at f2
            cases f2
            show σ2[i]? = σ[i]?
            rw [join_some e1, join_some f1]
          | _ => cases kb
        refine ⟨fun i m σ' H' => ∃ O2 W2 ρ2 ds, m = ds.length ∧ i + ds.length = xs.length ∧ xs.drop i = ds ∧ Stp O1 W1 H1 O2 W2 H' ∧ SR (gx X cl) vs0 O2 W2 σ' H' ρ2 ∧ AftS (gx X cl) vs0 Wx O2 W2 H' E (forK mm st g ds ρ2),
          ⟨xs.length, O1, W1, ρ1, xs, rfl, Nat.zero_add _, rfl, Stp.refl, sr1, AftS.back sr.wf st1 hw⟩, ?_⟩
        rintro i m σ2 H2 ⟨O2, W2, ρ2, ds, rfl, hlen, hdrop, st2, sr2, hf⟩
        cases ds with
        | nil =>
          have hf : AftS (gx X cl) vs0 Wx O2 W2 H2 E (if mm.keep ρ2 then .ok (.nx ρ2) else .bad) := hf
          split at hf
          · rename_i hkk
            have hi : i = mm.xs.length := by rw [hxs]; simpa using hlen
            subst hi
            exact .inl ⟨wk.stop O2 W2 σ2 H2 ρ2 st2 sr2 (slo sr2 hkk) hkk, hf σ2 O2 W2 H2 Stp.refl sr2⟩
          · exact hf.elim
        | cons d ds =>
          have hf : AftS (gx X cl) vs0 Wx O2 W2 H2 E (if mm.keep ρ2 then (match st d ρ2 with
            | some ρ1 => (g ρ1).bind fun fl => match fl with
              | .nx ρ2 => forK mm st g ds ρ2
              | .ct ρ2 => forK mm st g ds ρ2
              | .bk ρ2 => .ok (.nx ρ2)
              | .rt r ρ2 => .ok (.rt r ρ2)
            | none => .bad) else .bad) := hf
          split at hf
          · rename_i hkk
            have hd : mm.xs[i]? = some d := by
              have : (xs.drop i)[0]? = some d := by rw [hdrop]; rfl
              rw [List.getElem?_drop] at this
              rw [hxs]
              simpa using this
            obtain ⟨hgo, hy⟩ := wk.go O2 W2 σ2 H2 ρ2 i d st2 sr2 (slo sr2 hkk) hkk hd
            refine .inr ⟨hgo, _, fun σ' H' hN => ⟨ds.length, Nat.lt_succ_self _, hN⟩, fun x H3 hyl => ?_⟩
            obtain ⟨sm, rp⟩ := hy x H3 hyl
            have sr3 := sr2.same sm
            have st3 : Stp O2 W2 H2 O2 W2 H3 := Stp.same sm
            cases es : st d ρ2 with
            | none => rw [es] at hf; exact hf.elim
            | some ρ3 =>
              rw [es] at hf
              refine q2 O2 W2 σ2 H3 ρ2 ρ3 d x _ sr3 rp es fun σ4 sr4 _ => q3 O2 W2 σ4 H3 ρ3 _ sr4 ?_
              have hf : AftS (gx X cl) vs0 Wx O2 W2 H3 E ((g ρ3).bind fun fl => match fl with
                | .nx ρ2 => forK mm st g ds ρ2
                | .ct ρ2 => forK mm st g ds ρ2
                | .bk ρ2 => .ok (.nx ρ2)
                | .rt r ρ2 => .ok (.rt r ρ2)) := AftS.back sr2.wf st3 hf
              have hdr : xs.drop (i + 1) = ds := by
                rw [← List.drop_drop, hdrop]; rfl
              have hln : i + 1 + ds.length = xs.length := by rw [← hlen, List.length_cons]; omega
              have st23 := st2.trans sr1.wf st3
              cases eb : g ρ3 with
              | bad => rw [eb] at hf; exact hf
              | exc c fs ρ' => rw [eb] at hf; exact hf
              | ok fl =>
                rw [eb] at hf
                cases fl with
                | nx ρ4 => exact fun σ5 O5 W5 H5 st5 sr5 => ⟨O5, W5, ρ4, ds, rfl, hln, hdr, st23.trans sr1.wf st5, sr5, AftS.back sr3.wf st5 hf⟩
                | ct ρ4 => exact fun σ5 O5 W5 H5 st5 sr5 => ⟨O5, W5, ρ4, ds, rfl, hln, hdr, st23.trans sr1.wf st5, sr5, AftS.back sr3.wf st5 hf⟩
                | bk ρ4 => exact hf
                | rt r ρ4 => exact hf
          · exact hf.elim
      · exact (show False from hw).elim
    | nil =>
      have hw : AftS (gx X cl) vs0 Wx O W H E (forL st g xs ρ1) := hw
      intro J O1 W1 H1 st1 sr1 hk wk
      refine ⟨fun i m σ' H' => ∃ O2 W2 ρ2 ds, m = ds.length ∧ i + ds.length = xs.length ∧ xs.drop i = ds ∧ Stp O1 W1 H1 O2 W2 H' ∧ SR (gx X cl) vs0 O2 W2 σ' H' ρ2 ∧ AftS (gx X cl) vs0 Wx O2 W2 H' E (forL st g ds ρ2),
        ⟨xs.length, O1, W1, ρ1, xs, rfl, Nat.zero_add _, rfl, Stp.refl, sr1, AftS.back sr.wf st1 hw⟩, ?_⟩
      rintro i m σ2 H2 ⟨O2, W2, ρ2, ds, rfl, hlen, hdrop, st2, sr2, hf⟩
      have hsl : Itm.slots ⟨xs, []⟩ σ σ2 := fun p hp => absurd hp (by simp)
      have hkk : Itm.keep ⟨xs, []⟩ ρ2 := fun p hp => absurd hp (by simp)
      cases ds with
      | nil =>
        have hi : i = xs.length := by simpa using hlen
        subst hi
        exact .inl ⟨wk.stop O2 W2 σ2 H2 ρ2 st2 sr2 hsl hkk, hf σ2 O2 W2 H2 Stp.refl sr2⟩
      | cons d ds =>
        have hd : xs[i]? = some d := by
          have : (xs.drop i)[0]? = some d := by rw [hdrop]; rfl
          rw [List.getElem?_drop] at this
          simpa using this
        obtain ⟨hgo, hy⟩ := wk.go O2 W2 σ2 H2 ρ2 i d st2 sr2 hsl hkk hd
        have hf : AftS (gx X cl) vs0 Wx O2 W2 H2 E (match st d ρ2 with
          | some ρ1 => (g ρ1).bind fun fl => match fl with
            | .nx ρ2 => forL st g ds ρ2
            | .ct ρ2 => forL st g ds ρ2
            | .bk ρ2 => .ok (.nx ρ2)
            | .rt r ρ2 => .ok (.rt r ρ2)
          | none => .bad) := hf
        refine .inr ⟨hgo, _, fun σ' H' hN => ⟨ds.length, Nat.lt_succ_self _, hN⟩, fun x H3 hyl => ?_⟩
        obtain ⟨sm, rp⟩ := hy x H3 hyl
        have sr3 := sr2.same sm
        have st3 : Stp O2 W2 H2 O2 W2 H3 := Stp.same sm
        cases es : st d ρ2 with
        | none => rw [es] at hf; exact hf.elim
        | some ρ3 =>
          rw [es] at hf
          refine q2 O2 W2 σ2 H3 ρ2 ρ3 d x _ sr3 rp es fun σ4 sr4 _ => q3 O2 W2 σ4 H3 ρ3 _ sr4 ?_
          have hf : AftS (gx X cl) vs0 Wx O2 W2 H3 E ((g ρ3).bind fun fl => match fl with
            | .nx ρ2 => forL st g ds ρ2
            | .ct ρ2 => forL st g ds ρ2
            | .bk ρ2 => .ok (.nx ρ2)
            | .rt r ρ2 => .ok (.rt r ρ2)) := AftS.back sr2.wf st3 hf
          have hdr : xs.drop (i + 1) = ds := by
            rw [← List.drop_drop, hdrop]; rfl
          have hln : i + 1 + ds.length = xs.length := by rw [← hlen, List.length_cons]; omega
          have st23 := st2.trans sr1.wf st3
          cases eb : g ρ3 with
          | bad => rw [eb] at hf; exact hf
          | exc c fs ρ' => rw [eb] at hf; exact hf
          | ok fl =>
            rw [eb] at hf
            cases fl with
            | nx ρ4 => exact fun σ5 O5 W5 H5 st5 sr5 => ⟨O5, W5, ρ4, ds, rfl, hln, hdr, st23.trans sr1.wf st5, sr5, AftS.back sr3.wf st5 hf⟩
            | ct ρ4 => exact fun σ5 O5 W5 H5 st5 sr5 => ⟨O5, W5, ρ4, ds, rfl, hln, hdr, st23.trans sr1.wf st5, sr5, AftS.back sr3.wf st5 hf⟩
            | bk ρ4 => exact hf
            | rt r ρ4 => exact hf
def whl (t : Sb) (body : Ss) : Nat → List SD → Rs Fl
  | 0, _ => .bad
  | n + 1, ρ => (t ρ).bind fun p => if p.1 then (body p.2).bind fun fl => match fl with
      | .nx ρ2 => whl t body n ρ2
      | .ct ρ2 => whl t body n ρ2
      | .bk ρ2 => .ok (.nx ρ2)
      | .rt r ρ2 => .ok (.rt r ρ2)
    else .ok (.nx p.2)
def sWhile (fuel : List SD → Nat) (t : Sb) (body : Ss) : Ss := fun ρ => whl t body (fuel ρ) ρ
theorem sj_while {c : Expr} {body : List Stmt} {t : Sb} {g : Ss} {pos : Pos} (fuel : List SD → Nat) (hp : PassesOwn (model X.prog X.w) X.A X.env X.xe) (hc : TJ X cl vs0 Wx c t) (hb : BJ X cl vs0 Wx body g) : SJ X cl vs0 Wx (.While c body [] pos) (sWhile fuel t g) := by
  obtain ⟨tc, p1, q1⟩ := hc.ex
  obtain ⟨tb, p3, q3⟩ := hb.ex
  refine ⟨⟨_, ps_while hp p1 p3, fun O W σ H ρ E sr hw => ?_⟩⟩
  refine ⟨fun m σ' H' => ∃ O2 W2 ρ2, SR (gx X cl) vs0 O2 W2 σ' H' ρ2 ∧ AftS (gx X cl) vs0 Wx O2 W2 H' E (whl t g m ρ2), ⟨fuel ρ, O, W, ρ, sr, hw⟩, ?_⟩
  rintro m σ2 H2 ⟨O2, W2, ρ2, sr2, hf⟩
  cases m with
  | zero => exact (show False from hf).elim
  | succ n =>
    refine q1 O2 W2 σ2 H2 ρ2 _ sr2 (t_core sr2.wf hf fun b ρ3 O3 W3 H3 sr3 hk => ?_)
    cases b with
    | false => exact hk σ2 O3 W3 H3 Stp.refl sr3
    | true =>
      have hk : AftS (gx X cl) vs0 Wx O3 W3 H3 E ((g ρ3).bind fun fl => match fl with
        | .nx ρ2 => whl t g n ρ2
        | .ct ρ2 => whl t g n ρ2
        | .bk ρ2 => .ok (.nx ρ2)
        | .rt r ρ2 => .ok (.rt r ρ2)) := hk
      refine ⟨_, fun σ' H' hN => ⟨n, Nat.lt_succ_self n, hN⟩, q3 O3 W3 σ2 H3 ρ3 _ sr3 ?_⟩
      cases eb : g ρ3 with
      | bad => rw [eb] at hk; exact hk
      | exc c fs ρ' => rw [eb] at hk; exact hk
      | ok fl =>
        rw [eb] at hk
        cases fl with
        | nx ρ4 => exact fun σ5 O5 W5 H5 st5 sr5 => ⟨O5, W5, ρ4, sr5, AftS.back sr3.wf st5 hk⟩
        | ct ρ4 => exact fun σ5 O5 W5 H5 st5 sr5 => ⟨O5, W5, ρ4, sr5, AftS.back sr3.wf st5 hk⟩
        | bk ρ4 => exact hk
        | rt r ρ4 => exact hk
abbrev WX0 : WX := fun _ _ _ _ => False
def wipeR (ρ : List SD) : List Nat → List SD
  | [] => ρ
  | v :: vs => (wipeR ρ vs).set v .no
def keptSD : Option SD → SD
  | some (.sh d) => .sh d
  | _ => .no
def backR (ρ0 ρ : List SD) : List Nat → List SD
  | [] => ρ
  | v :: vs => (backR ρ0 ρ vs).set v (keptSD ρ0[v]?)
theorem wipeR_len (ρ : List SD) : ∀ vs : List Nat, (wipeR ρ vs).length = ρ.length
  | [] => rfl
  | v :: vs => by unfold wipeR; rw [List.length_set, wipeR_len ρ vs]
theorem wipeR_get {ρ : List SD} {i : Nat} {s : SD} : ∀ {vs : List Nat}, (wipeR ρ vs)[i]? = some s → (i ∉ vs ∧ ρ[i]? = some s) ∨ (i ∈ vs ∧ s = .no)
  | [], h => .inl ⟨by simp, h⟩
  | v :: vs, h => by
    unfold wipeR at h
    by_cases hi : v = i
    · subst hi
      have hl : v < (wipeR ρ vs).length := by
        have := (List.getElem?_eq_some_iff.mp h).1
        rw [List.length_set] at this
        exact this
      rw [List.getElem?_set_self hl] at h
      cases h
      exact .inr ⟨by simp, rfl⟩
    · rw [List.getElem?_set_ne hi] at h
      rcases wipeR_get h with ⟨a, b⟩ | ⟨a, b⟩
      · exact .inl ⟨by simp only [List.mem_cons, not_or]; exact ⟨fun e => hi e.symm, a⟩, b⟩
      · exact .inr ⟨List.mem_cons_of_mem _ a, b⟩
theorem wipe_get {σ : L2.St} {i : Nat} : ∀ {vs : List Nat}, i ∉ vs → (wipe σ vs)[i]? = σ[i]?
  | [], _ => rfl
  | v :: vs, h => by
    unfold wipe
    rw [List.getElem?_set_ne (fun e => h (by simp [e])), wipe_get fun z => h (List.mem_cons_of_mem _ z)]
theorem backR_len (ρ0 ρ : List SD) : ∀ vs : List Nat, (backR ρ0 ρ vs).length = ρ.length
  | [] => rfl
  | v :: vs => by unfold backR; rw [List.length_set, backR_len ρ0 ρ vs]
theorem backR_get {ρ0 ρ : List SD} {i : Nat} {s : SD} : ∀ {vs : List Nat}, (backR ρ0 ρ vs)[i]? = some s → (i ∉ vs ∧ ρ[i]? = some s) ∨ (i ∈ vs ∧ s = keptSD ρ0[i]?)
  | [], h => .inl ⟨by simp, h⟩
  | v :: vs, h => by
    unfold backR at h
    by_cases hi : v = i
    · subst hi
      have hl : v < (backR ρ0 ρ vs).length := by
        have := (List.getElem?_eq_some_iff.mp h).1
        rw [List.length_set] at this
        exact this
      rw [List.getElem?_set_self hl] at h
      cases h
      exact .inr ⟨by simp, rfl⟩
    · rw [List.getElem?_set_ne hi] at h
      rcases backR_get h with ⟨a, b⟩ | ⟨a, b⟩
      · exact .inl ⟨by simp only [List.mem_cons, not_or]; exact ⟨fun e => hi e.symm, a⟩, b⟩
      · exact .inr ⟨List.mem_cons_of_mem _ a, b⟩
theorem noD_upd {H : Hp} {p b : Addr} {o' : HO} (hb : ¬ NoD H b) (ht' : ∀ ps, o' ≠ .tbl ps := by intro _ z; cases z) : ¬ NoD (upd H p o') b := by
  by_cases e : b = p
  · rw [e]; exact noD_not upd_same ht'
  · intro z; exact hb fun o h => z o (by rw [upd_ne e]; exact h)
theorem SR.wipe {G : Gx} {O W : List Addr} {σ : L2.St} {H : Hp} {ρ : List SD} (vs : List Nat) (r : SR G vs0 O W σ H ρ) : SR G vs0 O W (wipe σ vs) H (wipeR ρ vs) := by
  refine ⟨r.wf, by rw [wipe_length, wipeR_len, r.len], fun i s e => ?_, fun i j s t a e1 e2 m1 m2 s1 s2 => ?_, r.tabs, r.ows.mono (fun i t e => ?_) fun j s a e m z => ?_⟩
  · rcases wipeR_get e with ⟨h1, h2⟩ | ⟨_, h2⟩
    · rw [wipe_get h1]; exact r.slot i s h2
    · subst h2; trivial
  · rcases wipeR_get e1 with ⟨h1, h2⟩ | ⟨_, h2⟩
    · rcases wipeR_get e2 with ⟨h3, h4⟩ | ⟨_, h4⟩
      · rw [wipe_get h1] at s1
        rw [wipe_get h3] at s2
        exact r.apart i j s t a h2 h4 m1 m2 s1 s2
      · subst h4; cases m2
    · subst h2; cases m1
  · rcases wipeR_get e with ⟨h1, h2⟩ | ⟨_, h2⟩
    · exact ⟨h2, wipe_get h1⟩
    · cases h2
  · rcases wipeR_get e with ⟨h1, h2⟩ | ⟨_, h2⟩
    · rw [wipe_get h1] at z
      exact .inl ⟨s, h2, m, z⟩
    · subst h2; cases m
theorem SR.unwipe {G : Gx} {O W O' W' : List Addr} {σ : L2.St} {H H' : Hp} {ρ ρ' : List SD} {vs : List Nat} (r : SR G vs0 O W σ H ρ) (st : Stp O W H O' W' H') (r' : SR G vs0 O' W' (L2.wipe σ vs) H' ρ') : SR G vs0 O' W' σ H' (backR ρ ρ' vs) := by
  have nm : ∀ {i : Nat} {s : SD}, i ∈ vs → s = keptSD ρ[i]? → s.mine = true → False := fun {i s} _ e m => by
    rw [e] at m
    unfold keptSD at m
    split at m <;> cases m
  refine ⟨r'.wf, by rw [backR_len, ← r'.len, wipe_length], fun i s e => ?_, fun i j s t a e1 e2 m1 m2 s1 s2 => ?_, r'.tabs, r'.ows.mono (fun i t e => ?_) fun j s a e m z => ?_⟩
  · rcases backR_get e with ⟨h1, h2⟩ | ⟨h1, h2⟩
    · rw [← wipe_get (σ := σ) h1]; exact r'.slot i s h2
    · rw [h2]
      unfold keptSD
      split
      · rename_i d e3
        obtain ⟨v, e4, rp⟩ := r.slot i _ e3
        exact ⟨v, e4, rp.step r.wf st⟩
      · trivial
  · rcases backR_get e1 with ⟨h1, h2⟩ | ⟨h1, h2⟩
    · rcases backR_get e2 with ⟨h3, h4⟩ | ⟨h3, h4⟩
      · rw [← wipe_get (σ := σ) h1] at s1
        rw [← wipe_get (σ := σ) h3] at s2
        exact r'.apart i j s t a h2 h4 m1 m2 s1 s2
      · exact (nm h3 h4 m2).elim
    · exact (nm h1 h2 m1).elim
  · rcases backR_get e with ⟨h1, h2⟩ | ⟨h1, h2⟩
    · exact ⟨h2, (wipe_get h1).symm⟩
    · unfold keptSD at h2
      split at h2 <;> cases h2
  · rcases backR_get e with ⟨h1, h2⟩ | ⟨h1, h2⟩
    · rw [← wipe_get (σ := σ) h1] at z
      exact .inl ⟨s, h2, m, z⟩
    · exact (nm h1 h2 m).elim
theorem SR.grow {G : Gx} {O W : List Addr} {σ : L2.St} {H : Hp} {ρ : List SD} {p : Addr} {o o' : HO} (r : SR G vs0 O W σ H ρ) (hO : p ∈ O) (hW : p ∉ W) (hp : H p = some o) (ht' : ∀ ps, o' ≠ .tbl ps := by intro _ z; cases z) (ht : ∀ ps, o ≠ .tbl ps := by intro _ z; cases z) (hx : ∀ f, o ≠ .ext f := by intro _ z; cases z) : SR G vs0 O W σ (upd H p o') ρ ∧ (∀ {d v}, Rp G O H d v → Rp G O (upd H p o') d v) ∧ (∀ {ds vs}, RpA G O H ds vs → RpA G O (upd H p o') ds vs) := by
  have w2 : Wf O (p :: W) H := ⟨fun b hb => by
    rcases List.mem_cons.mp hb with e | e
    · rw [e]; exact hO
    · exact r.wf.sub b e, r.wf.trk⟩
  have trk : ∀ b, ¬ NoD H b → ¬ NoD (upd H p o') b := fun b hb => by
    by_cases e : b = p
    · rw [e]; exact noD_not upd_same ht'
    · intro z; exact hb fun o h => z o (by rw [upd_ne e]; exact h)
  have st : Stp O (p :: W) H O (p :: W) (upd H p o') := ⟨fun b u e hb _ => by
    rw [upd_ne (fun z => hb (by simp [z]))]; exact e, fun _ h => .inl h, fun _ h => .inl h, trk, fun _ h _ => h⟩
  have own : ∀ {a xs}, OwnAt G O W H a xs → OwnAt G O W (upd H p o') a xs := fun {a xs} h => by
    obtain ⟨h1, vs, h2, h3, h4⟩ := h
    exact ⟨h1, vs, by rw [upd_ne (show a ≠ p from fun z => hW (by rw [← z]; exact h1))]; exact h2, h3, h4.step w2 st⟩
  have owt : ∀ {t : OT} {v : V} {fp : List Addr}, OwT G O W H t v fp → OwT G O W (upd H p o') t v fp := fun {t v fp} q => by
    have o1 : OwT G O (p :: W) H t v fp := q.less (fun _ h => h) fun b hb => List.mem_cons_of_mem _ (q.sub b hb)
    have o2 : OwT G O (p :: W) (upd H p o') t v fp := o1.go w2 st fun b hb => ⟨o1.sub b hb, fun vs e => by rw [upd_ne (fun z => hW (by rw [← z]; exact q.sub b hb))]; exact e⟩
    exact o2.less (fun _ h => h) q.sub
  refine ⟨⟨⟨r.wf.sub, fun b hb => trk b (r.wf.trk b hb)⟩, r.len, fun i s e => ?_, r.apart, ⟨tabs_but r.tabs.tc hp (fun b u n h => by rw [upd_ne n]; exact h) ht hx, fun q hq => (r.tabs.k q hq).step w2 st⟩, r.ows.map fun _ _ _ _ _ _ o => owt o⟩, fun h => h.step w2 st, fun h => h.step w2 st⟩
  have q := r.slot i s e
  cases s with
  | no => trivial
  | sh d => obtain ⟨v, e, r⟩ := q; exact ⟨v, e, r.step w2 st⟩
  | own xs => obtain ⟨a, e, r⟩ := q; exact ⟨a, e, own r⟩
  | byr xs => obtain ⟨a, e, e0, r⟩ := q; exact ⟨a, e, e0, own r⟩
  | xn c fs => obtain ⟨a, q, gs, e, x, t, n, r⟩ := q; exact ⟨a, q, gs, e, x, (st.at w2 t n).1, n, RpF.step w2 st r⟩
  | gv => exact q
  | od kvs =>
    obtain ⟨a, e, h1, gs, h2, h4⟩ := q
    exact ⟨a, e, h1, gs, by rw [upd_ne (show a ≠ p from fun z => hW (by rw [← z]; exact h1))]; exact h2, RpD.step w2 st h4⟩
  | ow _ => trivial
theorem ej_all {ι : Type} {Xs : ι → Cx} {K : PySem.W.Frag} {e : Expr} {f : Sx} (hK : ∀ c, (Xs c).K = K) (h : ∀ c, EJ (Xs c) cl vs0 Wx e f) : ∃ t : TE, (∀ c, PE (Xs c) e t) ∧ ∀ O W σ H ρ Q, SR (gk K cl) vs0 O W σ H ρ → AftE (gk K cl) vs0 Wx O W σ H Q (f ρ) → t σ H Q := by
  refine ⟨fun σ H Q => ∃ O W ρ, SR (gk K cl) vs0 O W σ H ρ ∧ AftE (gk K cl) vs0 Wx O W σ H Q (f ρ), fun c => ⟨fun pins s σ H Q I hw => ?_⟩, fun O W σ H ρ Q sr hw => ⟨O, W, ρ, sr, hw⟩⟩
  obtain ⟨t, p, q⟩ := (h c).ex
  obtain ⟨O, W, ρ, sr, hw⟩ := hw
  have e := hK c
  subst e
  exact p.run pins s σ H Q I (q O W σ H ρ Q sr hw)
def bYes : Sb := fun ρ => .ok (true, ρ)
structure FJ (X : Cx) (cl : Cl) (vs0 : List V) (Wx : WX) (ifs : List Expr) (f : Sb) : Prop where
  ex : ∃ t, PTs X ifs t ∧ ∀ O W σ H ρ Q, SR (gx X cl) vs0 O W σ H ρ → AftB (gx X cl) vs0 Wx O W σ H Q (f ρ) → t σ H Q
theorem fj_all {ι : Type} {Xs : ι → Cx} {K : PySem.W.Frag} {ifs : List Expr} {f : Sb} (hK : ∀ c, (Xs c).K = K) (h : ∀ c, FJ (Xs c) cl vs0 Wx ifs f) :
    ∃ t : TT, (∀ c, PTs (Xs c) ifs t) ∧ ∀ O W σ H ρ Q, SR (gk K cl) vs0 O W σ H ρ → AftB (gk K cl) vs0 Wx O W σ H Q (f ρ) → t σ H Q := by
  refine ⟨fun σ H Q => ∃ O W ρ, SR (gk K cl) vs0 O W σ H ρ ∧ AftB (gk K cl) vs0 Wx O W σ H Q (f ρ), fun c => ⟨fun pins s σ H Q I hw => ?_⟩, fun O W σ H ρ Q sr hw => ⟨O, W, ρ, sr, hw⟩⟩
  obtain ⟨t, p, q⟩ := (h c).ex
  obtain ⟨O, W, ρ, sr, hw⟩ := hw
  have e := hK c
  subst e
  exact p.run pins s σ H Q I (q O W σ H ρ Q sr hw)
theorem gj_all {ι : Type} {Xs : ι → Cx} {K : PySem.W.Frag} {tg : Expr} {st : Tg} {is : List Nat} (hK : ∀ c, (Xs c).K = K) (h : ∀ c, GJ (Xs c) cl vs0 tg st is) :
    ∃ g : TG, (∀ c, PG (Xs c) tg g) ∧ ∀ O W σ H ρ ρ' d v Q, SR (gk K cl) vs0 O W σ H ρ → Rp (gk K cl) O H d v → st d ρ = some ρ' → (∀ σ', SR (gk K cl) vs0 O W σ' H ρ' → (∀ vs, (∀ i ∈ is, i ∈ vs) → L2.wipe σ' vs = L2.wipe σ vs) → Q σ' H) → g v σ H Q := by
  refine ⟨fun v σ H Q => ∃ O W ρ ρ' d, SR (gk K cl) vs0 O W σ H ρ ∧ Rp (gk K cl) O H d v ∧ st d ρ = some ρ' ∧ (∀ σ', SR (gk K cl) vs0 O W σ' H ρ' → (∀ vs, (∀ i ∈ is, i ∈ vs) → L2.wipe σ' vs = L2.wipe σ vs) → Q σ' H), fun c => ⟨fun pins s σ H v u Q I r hw => ?_⟩, fun O W σ H ρ ρ' d v Q sr rp e hw => ⟨O, W, ρ, ρ', d, sr, rp, e, hw⟩⟩
  obtain ⟨t, p, q⟩ := (h c).ex
  obtain ⟨O, W, ρ, ρ', d, sr, rp, es, hw⟩ := hw
  have e := hK c
  subst e
  exact p.run pins s σ H v u Q I r (q O W σ H ρ ρ' d v Q sr rp es hw)
theorem fj_nil : FJ X cl vs0 Wx [] bYes := ⟨⟨_, pts_nil, fun O W σ H ρ Q sr h => h O W H Stp.refl sr⟩⟩
theorem fj_one {c : Expr} {f : Sb} (h : TJ X cl vs0 Wx c f) : FJ X cl vs0 Wx [c] f := by
  obtain ⟨t, p, q⟩ := h.ex
  exact ⟨⟨t, pts_one p, q⟩⟩
noncomputable def lcL (m : Itm) (st : Tg) (test : Sb) (elt : Sx) (vs : List Nat) : List D → List SD → Rs (List D × List SD)
  | [], ρ => .ok ([], ρ)
  | d :: ds, ρ => match st d ρ with
    | some ρ1 => match test ρ1 with
      | .ok (true, ρ2) => match elt ρ2 with
        | .ok (r, ρ3) => if m.keep (wipeR ρ3 vs) then (lcL m st test elt vs ds (wipeR ρ3 vs)).bind fun q => .ok (r.frz :: q.1, q.2) else .bad
        | _ => .bad
      | .ok (false, ρ2) => if m.keep (wipeR ρ2 vs) then lcL m st test elt vs ds (wipeR ρ2 vs) else .bad
      | _ => .bad
    | none => .bad
noncomputable def xLc (src : Src) (st : Tg) (test : Sb) (elt : Sx) (vs : List Nat) : Sx := fun ρ => (src ρ).bind fun p => if p.1.keep (wipeR p.2 vs) ∧ (∀ b ∈ p.1.bor, b.1 ∉ vs) then
  match lcL p.1 st test elt vs p.1.xs (wipeR p.2 vs) with
  | .ok (ds, ρ') => .ok (.own ds, backR p.2 ρ' vs)
  | _ => .bad
  else .bad
end
end Wm
end
section
namespace Wm
open PySem PySem.Spec PyProof.Rows L2
section
variable {X : Cx} {cl : Cl} {vs0 : List V} {Wx : WX}
theorem wipe_wipe {σ : L2.St} : ∀ {vs : List Nat}, wipe (wipe σ vs) vs = wipe σ vs := by
  intro vs
  apply List.ext_getElem?
  intro i
  by_cases h : i ∈ vs
  · have key : ∀ (τ : L2.St) (ws : List Nat), i ∈ ws → (wipe τ ws)[i]? = if i < τ.length then some none else none := by
      intro τ ws
      induction ws with
      | nil => intro h; cases h
      | cons w ws ih =>
        intro h
        unfold wipe
        by_cases e : w = i
        · subst e
          by_cases hl : w < τ.length
          · rw [List.getElem?_set_self (by rw [wipe_length]; exact hl), if_pos hl]
          · rw [if_neg hl]
            exact List.getElem?_eq_none (by rw [List.length_set, wipe_length]; omega)
        · rw [List.getElem?_set_ne e]
          rcases List.mem_cons.mp h with z | z
          · exact absurd z.symm e
          · exact ih z
    rw [key _ _ h, key _ _ h, wipe_length]
  · rw [wipe_get h]
theorem SR.addW {G : Gx} {O W : List Addr} {σ : L2.St} {H : Hp} {ρ : List SD} {p : Addr} (r : SR G vs0 O W σ H ρ) (h : p ∈ O) : SR G vs0 O (p :: W) σ H ρ := by
  refine ⟨⟨fun b hb => ?_, r.wf.trk⟩, r.len, fun i s e => ?_, r.apart, r.tabs, r.ows.map fun _ _ _ _ _ _ o => o.less (fun _ h => h) fun b hb => List.mem_cons_of_mem _ (o.sub b hb)⟩
  · rcases List.mem_cons.mp hb with z | z
    · rw [z]; exact h
    · exact r.wf.sub b z
  · have q := r.slot i s e
    cases s with
    | no => trivial
    | sh d => exact q
    | own xs => obtain ⟨a, e, h1, r⟩ := q; exact ⟨a, e, List.mem_cons_of_mem _ h1, r⟩
    | byr xs => obtain ⟨a, e, e0, h1, r⟩ := q; exact ⟨a, e, e0, List.mem_cons_of_mem _ h1, r⟩
    | xn c fs => exact q
    | gv => exact q
    | od kvs => obtain ⟨a, e, h1, r⟩ := q; exact ⟨a, e, List.mem_cons_of_mem _ h1, r⟩
    | ow _ => trivial
theorem Stp.addW {O W O' W' : List Addr} {H H' : Hp} {p : Addr} (s : Stp O W H O' W' H') (n : H p = none) : Stp O W H O' (p :: W') H' :=
  ⟨s.keep, fun b hb => by
    rcases List.mem_cons.mp hb with z | z
    · right; rw [z]; exact noD_none n
    · exact s.wnew b z, s.onew, s.trk, s.ofz⟩
theorem Stp.addO {O W : List Addr} {H H' : Hp} {p : Addr} (h : Same H H') (n : H p = none) : Stp O W H (p :: O) W H' :=
  ⟨fun b o e _ _ => h b o e, fun b hb => .inl hb, fun b hb => by
    rcases List.mem_cons.mp hb with z | z
    · right; rw [z]; exact noD_none n
    · exact .inl z, (Stp.same (O := O) (W := W) h).trk, fun b hb _ => List.mem_cons_of_mem _ hb⟩
theorem RpA.snoc {G : Gx} {O : List Addr} {H : Hp} {ds : List D} {vs : List V} {d : D} {v : V} (r : RpA G O H ds vs) (h : Rp G O H d v) : RpA G O H (ds ++ [d]) (vs ++ [v]) := r.append (by simp only [RpA]; exact ⟨v, [], rfl, h, rfl⟩)
structure Held (p : Addr) (acc : List V) (O W : List Addr) (H : Hp) : Prop where
  o : p ∈ O
  w : p ∉ W
  h : H p = some (.lst acc)
theorem Held.step {p : Addr} {acc : List V} {O W O' W' : List Addr} {H H' : Hp} (h : Held p acc O W H) (s : Stp O W H O' W' H') : Held p acc O' W' H' :=
  ⟨s.ofz p h.o h.w, (fun z => by
    rcases s.wnew p z with q | q
    · exact h.w q
    · exact noD_not h.h (by intro _ z; cases z) q), s.keep p _ h.h h.w (fun _ z => by cases z)⟩
theorem lc_sound {wi : TI} {g : TG} {tt : TT} {te : TE} {src : Src} {st : Tg} {is : List Nat} {test : Sb} {f : Sx} {vs : List Nat} (his : ∀ i ∈ is, i ∈ vs)
    (q1 : ∀ O W σ H ρ R, SR (gx X cl) vs0 O W σ H ρ → AftI (gx X cl) vs0 Wx O W σ H R (src ρ) → wi σ H R)
    (q2 : ∀ O W σ H ρ ρ' d v Q, SR (gx X cl) vs0 O W σ H ρ → Rp (gx X cl) O H d v → st d ρ = some ρ' → (∀ σ', SR (gx X cl) vs0 O W σ' H ρ' → (∀ vs, (∀ i ∈ is, i ∈ vs) → wipe σ' vs = wipe σ vs) → Q σ' H) → g v σ H Q)
    (q3 : ∀ O W σ H ρ Q, SR (gx X cl) vs0 O W σ H ρ → AftB (gx X cl) vs0 WX0 O W σ H Q (test ρ) → tt σ H Q)
    (q4 : ∀ O W σ H ρ Q, SR (gx X cl) vs0 O W σ H ρ → AftE (gx X cl) vs0 WX0 O W σ H Q (f ρ) → te σ H Q) :
    ∀ O W σ H ρ Q, SR (gx X cl) vs0 O W σ H ρ → AftE (gx X cl) vs0 Wx O W σ H Q (xLc src st test f vs ρ) → tLc wi g tt te vs σ H Q := by
  intro O W σ H ρ Q sr hw
  refine q1 O W σ H ρ _ sr ?_
  unfold xLc at hw
  cases e : src ρ with
  | bad => rw [e] at hw; exact hw
  | exc c fs ρ' => rw [e] at hw; exact hw
  | ok pm =>
    obtain ⟨m, ρ1⟩ := pm
    rw [e] at hw
    have hw : AftE (gx X cl) vs0 Wx O W σ H Q (if m.keep (wipeR ρ1 vs) ∧ (∀ b ∈ m.bor, b.1 ∉ vs) then
      match lcL m st test f vs m.xs (wipeR ρ1 vs) with
      | .ok (ds, ρ') => .ok (.own ds, backR ρ1 ρ' vs)
      | _ => .bad
      else .bad) := hw
    intro J O1 W1 H1 st1 sr1 hk wk p np
    split at hw
    · rename_i hcond
      cases eL : lcL m st test f vs m.xs (wipeR ρ1 vs) with
      | bad => rw [eL] at hw; exact hw.elim
      | exc c fs ρ' => rw [eL] at hw; exact hw.elim
      | ok pe =>
        obtain ⟨all, ρe⟩ := pe
        rw [eL] at hw
        have hslots : m.slots σ (wipe σ vs) := fun b hb => wipe_get (hcond.2 b hb)
        have sm0 : Same H1 (upd H1 p (.lst [])) := same_upd np
        have st0 : Stp O1 W1 H1 (p :: O1) W1 (upd H1 p (.lst [])) := Stp.addO sm0 np
        have w0 : Wf (p :: O1) W1 (upd H1 p (.lst [])) := ⟨fun b hb => List.mem_cons_of_mem _ (sr1.wf.sub b hb), fun b hb => by
          rcases List.mem_cons.mp hb with z | z
          · rw [z]; exact noD_not upd_same
          · exact (sr1.wf.same sm0).trk b z⟩
        have pW : p ∉ W1 := fun z => sr1.wf.trk p (sr1.wf.sub p z) (noD_none np)
        have sr0 : SR (gx X cl) vs0 (p :: O1) W1 (wipe σ vs) (upd H1 p (.lst [])) (wipeR ρ1 vs) := (sr1.wipe vs).step w0 st0 (fun _ h => h) (fun b o _ e => sm0 b o e) (sr1.tabs.tc.ext sm0)
        refine ⟨fun i k H2 => ∃ O2 W2 ρ2 ds acc ads es, k = ds.length ∧ i + ds.length = m.xs.length ∧ m.xs.drop i = ds ∧ Stp O1 W1 H1 O2 W2 H2 ∧ Held p acc O2 W2 H2 ∧ acc.length ≤ i ∧ RpA (gx X cl) O2 H2 ads acc ∧
          SR (gx X cl) vs0 O2 W2 (wipe σ vs) H2 ρ2 ∧ m.keep ρ2 ∧ lcL m st test f vs ds ρ2 = .ok (es, ρe) ∧ ads ++ es = all,
          ⟨m.xs.length, p :: O1, W1, _, m.xs, [], [], all, rfl, Nat.zero_add _, rfl, st0, ⟨by simp, pW, upd_same⟩, Nat.le_refl _, by simp only [RpA], sr0, hcond.1, eL, rfl⟩, ?_⟩
        rintro i k H2 ⟨O2, W2, ρ2, ds, acc, ads, es, rfl, hlen, hdrop, st2, hd2, hal, ra, sr2, hkp, hL, hall⟩
        cases ds with
        | nil =>
          have hi : i = m.xs.length := by simpa using hlen
          subst hi
          have hL : Rs.ok (([] : List D), ρ2) = .ok (es, ρe) := hL
          injection hL with hL
          injection hL with e1 e2
          subst e1 e2
          rw [List.append_nil] at hall
          subst hall
          refine .inl ⟨wk.stop O2 W2 (wipe σ vs) H2 ρ2 st2 sr2 hslots hkp, ?_⟩
          refine hw (.ref p) O2 (p :: W2) H2 (st1.trans sr.wf (st2.addW np)) ((sr1.unwipe st2 sr2).addW hd2.o) ⟨p, rfl, ⟨List.mem_cons_self, acc, hd2.h, Nat.le_trans hal wk.len, ra⟩, (sr1.unwipe st2 sr2).fre_add hd2.w⟩
        | cons d ds =>
          have hd : m.xs[i]? = some d := by
            have : (m.xs.drop i)[0]? = some d := by rw [hdrop]; rfl
            rw [List.getElem?_drop] at this
            simpa using this
          have hlt : i < m.xs.length := (List.getElem?_eq_some_iff.mp hd).1
          obtain ⟨hgo, hy⟩ := wk.go O2 W2 (wipe σ vs) H2 ρ2 i d st2 sr2 hslots hkp hd
          have hdr : m.xs.drop (i + 1) = ds := by rw [← List.drop_drop, hdrop]; rfl
          have hln : i + 1 + ds.length = m.xs.length := by rw [← hlen, List.length_cons]; omega
          refine .inr ⟨hgo, _, fun H' hN => ⟨ds.length, Nat.lt_succ_self _, hN⟩, fun x H3 hyl => ?_⟩
          obtain ⟨sm, rp⟩ := hy x H3 hyl
          have sr3 := sr2.same sm
          have st3 : Stp O2 W2 H2 O2 W2 H3 := Stp.same sm
          have st13 := st2.trans sr1.wf st3
          have hd3 := hd2.step st3
          have ra3 := ra.step sr2.wf st3
          unfold lcL at hL
          cases es1 : st d ρ2 with
          | none => rw [es1] at hL; cases hL
          | some ρ3 =>
            rw [es1] at hL
            dsimp only at hL
            refine q2 O2 W2 (wipe σ vs) H3 ρ2 ρ3 d x _ sr3 rp es1 fun σ4 sr4 hwp => ?_
            have hwp : wipe σ4 vs = wipe σ vs := (hwp vs his).trans wipe_wipe
            refine ⟨hwp, q3 O2 W2 σ4 H3 ρ3 _ sr4 ?_⟩
            cases et : test ρ3 with
            | bad => rw [et] at hL; cases hL
            | exc c fs ρ' => rw [et] at hL; cases hL
            | ok bt =>
              obtain ⟨b, ρ4⟩ := bt
              intro O5 W5 H5 st5 sr5
              have hd5 := hd3.step st5
              have ra5 := ra3.step sr3.wf st5
              have st15 := st13.trans sr1.wf st5
              cases b with
              | false =>
                rw [et] at hL
                have hL : (if m.keep (wipeR ρ4 vs) then lcL m st test f vs ds (wipeR ρ4 vs) else .bad) = .ok (es, ρe) := hL
                split at hL
                · rename_i hkp5
                  have sr6 := sr5.wipe vs
                  rw [hwp] at sr6
                  exact ⟨O5, W5, _, ds, acc, ads, es, rfl, hln, hdr, st15, hd5, by omega, ra5, sr6, hkp5, hL, hall⟩
                · cases hL
              | true =>
                rw [et] at hL
                dsimp only at hL
                refine q4 O5 W5 σ4 H5 ρ4 _ sr5 ?_
                cases ef : f ρ4 with
                | bad => rw [ef] at hL; cases hL
                | exc c fs ρ' => rw [ef] at hL; cases hL
                | ok pr =>
                  obtain ⟨r, ρ5⟩ := pr
                  rw [ef] at hL
                  have hL : (if m.keep (wipeR ρ5 vs) then (lcL m st test f vs ds (wipeR ρ5 vs)).bind fun q => .ok (r.frz :: q.1, q.2) else .bad) = .ok (es, ρe) := hL
                  split at hL
                  · rename_i hkp6
                    intro y O6 W6 H6 st6 sr6 rr
                    obtain ⟨O7, W7, st7, sr7, rp7⟩ := rr.frz sr6
                    have hd7 := (hd5.step st6).step st7
                    have ra7 := (ra5.step sr5.wf st6).step sr6.wf st7
                    have st17 := (st15.trans sr1.wf st6).trans sr1.wf st7
                    refine ⟨acc, hd7.h, Nat.lt_of_le_of_lt hal (Nat.lt_of_lt_of_le hlt wk.len), ?_⟩
                    have sr8 := sr7.wipe vs
                    rw [hwp] at sr8
                    obtain ⟨sr9, gr, gra⟩ := sr8.grow (o' := .lst (acc ++ [y])) hd7.o hd7.w hd7.h
                    cases eq : lcL m st test f vs ds (wipeR ρ5 vs) with
                    | bad => rw [eq] at hL; cases hL
                    | exc c fs ρ' => rw [eq] at hL; cases hL
                    | ok qq =>
                      obtain ⟨es2, ρe2⟩ := qq
                      rw [eq] at hL
                      have hL : Rs.ok (r.frz :: es2, ρe2) = Rs.ok (es, ρe) := hL
                      injection hL with hL
                      injection hL with e1 e2
                      subst e1 e2
                      refine ⟨O7, W7, _, ds, acc ++ [y], ads ++ [r.frz], es2, rfl, hln, hdr, ?_, ⟨hd7.o, hd7.w, upd_same⟩, by rw [List.length_append]; simp only [List.length_cons, List.length_nil]; omega, (gra ra7).snoc (gr rp7), sr9, hkp6, eq, by rw [List.append_assoc]; exact hall⟩
                      have nop : ∀ b, H1 b ≠ none → b ≠ p := fun b hb z => hb (z ▸ np)
                      exact ⟨fun b o eo hb ht => by rw [upd_ne (nop b (by rw [eo]; simp))]; exact st17.keep b o eo hb ht, st17.wnew, st17.onew, fun b hb => noD_upd (st17.trk b hb), st17.ofz⟩
                  · cases hL
    · exact hw.elim
variable {elt tg iter : Expr} {ifs : List Expr} {scope : Scope} {own : List (Str × Nat)} {pos : Pos} {src : Src} {st : Tg} {is : List Nat} {test : Sb} {f : Sx}
theorem ej_lc (hc : X.calm = true) (hN : X.N.Nodup) (hi : IJ X cl vs0 Wx tg iter src) (ok : BlkOk X.N X.env.scope scope own)
    (hg : ∀ (s : Shared) (H : Hp) (C : Addr) (cs : List (Str × Addr)) (fp : List Addr), GJ (X.blk s H scope (compEnvC scope cs C X.env) fp) cl vs0 tg st is)
    (ht : ∀ (s : Shared) (H : Hp) (C : Addr) (cs : List (Str × Addr)) (fp : List Addr), FJ (X.blk s H scope (compEnvC scope cs C X.env) fp) cl vs0 WX0 ifs test)
    (he : ∀ (s : Shared) (H : Hp) (C : Addr) (cs : List (Str × Addr)) (fp : List Addr), EJ (X.blk s H scope (compEnvC scope cs C X.env) fp) cl vs0 WX0 elt f) (his : ∀ i ∈ is, i ∈ own.map (·.2)) :
    EJ X cl vs0 Wx (.ListComp elt [⟨tg, iter, ifs, 0⟩] scope pos) (xLc src st test f (own.map (·.2))) := by
  obtain ⟨wi, p1, hs, q1⟩ := hi.ex
  let Xs : Shared × Hp × Addr × List (Str × Addr) × List Addr → Cx := fun c => X.blk c.1 c.2.1 scope (compEnvC scope c.2.2.2.1 c.2.2.1 X.env) c.2.2.2.2
  obtain ⟨g, p2, q2⟩ := gj_all (Xs := Xs) (K := X.K) (fun _ => rfl) fun c => hg c.1 c.2.1 c.2.2.1 c.2.2.2.1 c.2.2.2.2
  obtain ⟨tt, p3, q3⟩ := fj_all (Xs := Xs) (K := X.K) (fun _ => rfl) fun c => ht c.1 c.2.1 c.2.2.1 c.2.2.2.1 c.2.2.2.2
  obtain ⟨te, p4, q4⟩ := ej_all (Xs := Xs) (K := X.K) (fun _ => rfl) fun c => he c.1 c.2.1 c.2.2.1 c.2.2.2.1 c.2.2.2.2
  exact ⟨⟨_, pe_lc hc hN p1 ok (fun s H C cs fp => p2 (s, H, C, cs, fp)) (fun s H C cs fp => p3 (s, H, C, cs, fp)) (fun s H C cs fp => p4 (s, H, C, cs, fp)) hs, lc_sound his q1 q2 q3 q4⟩⟩
theorem sj_setLc {i : Nat} {y : Str} {py spos : Pos} (hc : X.calm = true) (hN : X.N.Nodup) (hy : X.N[i]? = some y) (hyl : X.env.scope.names.lookup y = some .local)
    (hsw : swapsWith (.ListComp elt [⟨tg, iter, ifs, 0⟩] scope pos) (some (.Name y py)) spos.line X.env = pure true) (hi : IJ X cl vs0 Wx tg iter src) (ok : BlkOk X.N X.env.scope scope own)
    (hg : ∀ (s : Shared) (H : Hp) (C : Addr) (cs : List (Str × Addr)) (fp : List Addr), GJ (X.blk s H scope (compEnvC scope cs C X.env) fp) cl vs0 tg st is)
    (ht : ∀ (s : Shared) (H : Hp) (C : Addr) (cs : List (Str × Addr)) (fp : List Addr), FJ (X.blk s H scope (compEnvC scope cs C X.env) fp) cl vs0 WX0 ifs test)
    (he : ∀ (s : Shared) (H : Hp) (C : Addr) (cs : List (Str × Addr)) (fp : List Addr), EJ (X.blk s H scope (compEnvC scope cs C X.env) fp) cl vs0 WX0 elt f) (his : ∀ i ∈ is, i ∈ own.map (·.2)) :
    SJ X cl vs0 Wx (.Assign [.Name y py] (.ListComp elt [⟨tg, iter, ifs, 0⟩] scope pos) spos) (sSet i (xLc src st test f (own.map (·.2)))) := by
  obtain ⟨wi, p1, hs, q1⟩ := hi.ex
  let Xs : Shared × Hp × Addr × List (Str × Addr) × List Addr → Cx := fun c => X.blk c.1 c.2.1 scope (compEnvC scope c.2.2.2.1 c.2.2.1 X.env) c.2.2.2.2
  obtain ⟨g, p2, q2⟩ := gj_all (Xs := Xs) (K := X.K) (fun _ => rfl) fun c => hg c.1 c.2.1 c.2.2.1 c.2.2.2.1 c.2.2.2.2
  obtain ⟨tt, p3, q3⟩ := fj_all (Xs := Xs) (K := X.K) (fun _ => rfl) fun c => ht c.1 c.2.1 c.2.2.1 c.2.2.2.1 c.2.2.2.2
  obtain ⟨te, p4, q4⟩ := ej_all (Xs := Xs) (K := X.K) (fun _ => rfl) fun c => he c.1 c.2.1 c.2.2.1 c.2.2.2.1 c.2.2.2.2
  exact ⟨⟨_, ps_setLc hc hN hy hyl hsw p1 ok (fun s H C cs fp => p2 (s, H, C, cs, fp)) (fun s H C cs fp => p3 (s, H, C, cs, fp)) (fun s H C cs fp => p4 (s, H, C, cs, fp)) hs,
    fun O W σ H ρ E sr hw => lc_sound his q1 q2 q3 q4 O W σ H ρ _ sr (e_core sr.wf hw fun v s ρ' O' W' H' sr' rr hk => hk _ O' W' H' Stp.refl (sr'.put rr))⟩⟩
end
end Wm
end
section
namespace Wm
open PySem PySem.Spec PyProof.Rows L2
abbrev Fn := List SD → Rs (SD × List SD)
abbrev wxE (E : XK) : WX := fun c d _ H => E c d H
def spF (G : Gx) (n : Nat) (F : Fn) : Sp := fun vs H Q E => vs.length = n ∧ ∃ O W as, SR G vs O W (vs.map some) H as ∧ AftE G vs (wxE E) O W (vs.map some) H Q (F as)
def trim1 : SD → SD
  | .byr xs => .byr xs
  | _ => .no
def trim (n : Nat) (ρ : List SD) : List SD := (List.range n).map fun i => trim1 (ρ[i]?.getD .no)
def bodyF (N : Nat) (g : Ss) : Fn := fun as => match g (as ++ List.replicate (N - as.length) .no) with
  | .ok (.rt r ρ') => .ok (r, trim as.length ρ')
  | .ok (.nx ρ') => .ok (.sh .non, trim as.length ρ')
  | .exc c fs ρ' => .exc c fs (trim as.length ρ')
  | _ => .bad
section
variable {G : Gx} {O W O' W' : List Addr} {σ : L2.St} {H H' : Hp} {ρ : List SD} {vs : List V} {as : List SD}
theorem trim_get {n i : Nat} {s : SD} (h : (trim n ρ)[i]? = some s) : i < n ∧ (s = .no ∨ ∃ xs, ρ[i]? = some (.byr xs) ∧ s = .byr xs) := by
  unfold trim at h
  rw [List.getElem?_map] at h
  obtain ⟨k, h1, h2⟩ := Option.map_eq_some_iff.mp h
  obtain ⟨hl, e⟩ := List.getElem?_eq_some_iff.mp h1
  rw [List.getElem_range] at e
  subst e
  refine ⟨by simpa using hl, ?_⟩
  cases q : ρ[i]? with
  | none => rw [q] at h2; exact .inl h2.symm
  | some s0 =>
    rw [q] at h2
    cases s0 with
    | byr xs => exact .inr ⟨xs, rfl, h2.symm⟩
    | no => exact .inl h2.symm
    | xn _ _ => exact .inl h2.symm
    | gv => exact .inl h2.symm
    | od _ => exact .inl h2.symm
    | ow _ => exact .inl h2.symm
    | sh d => exact .inl h2.symm
    | own xs => exact .inl h2.symm
theorem SR.enter {N : List Str} (r : SR G vs O W (vs.map some) H as) (hN : vs.length ≤ N.length) : SR G vs O W (L2.start N vs) H (as ++ List.replicate (N.length - as.length) .no) := by
  have hl : vs.length = as.length := by have := r.len; rw [List.length_map] at this; exact this
  have gs : ∀ {i : Nat} {s : SD}, (as ++ List.replicate (N.length - as.length) .no)[i]? = some s → (i < as.length ∧ as[i]? = some s) ∨ s = .no := fun {i s} e => by
    by_cases h : i < as.length
    · rw [List.getElem?_append_left h] at e; exact .inl ⟨h, e⟩
    · rw [List.getElem?_append_right (by omega), List.getElem?_replicate] at e
      split at e
      · cases e; exact .inr rfl
      · cases e
  have sg : ∀ {i : Nat}, i < as.length → (L2.start N vs)[i]? = (vs.map some)[i]? := fun {i} h => by
    unfold L2.start
    exact List.getElem?_append_left (by rw [List.length_map]; omega)
  refine ⟨r.wf, ?_, fun i s e => ?_, fun i j s t a e1 e2 m1 m2 s1 s2 => ?_, r.tabs, r.ows.mono (fun i t e => ?_) fun j s a e m z => ?_⟩
  · unfold L2.start
    rw [List.length_append, List.length_map, List.length_replicate, List.length_append, List.length_replicate, hl]
  · rcases gs e with ⟨h, e⟩ | e
    · rw [sg h]; exact r.slot i s e
    · subst e; trivial
  · rcases gs e1 with ⟨h1, e1⟩ | e1
    · rcases gs e2 with ⟨h2, e2⟩ | e2
      · rw [sg h1] at s1
        rw [sg h2] at s2
        exact r.apart i j s t a e1 e2 m1 m2 s1 s2
      · subst e2; cases m2
    · subst e1; cases m1
  · rcases gs e with ⟨h1, e1⟩ | e1
    · exact ⟨e1, sg h1⟩
    · cases e1
  · rcases gs e with ⟨h1, e1⟩ | e1
    · rw [sg h1] at z
      exact .inl ⟨s, e1, m, z⟩
    · subst e1; cases m
theorem SR.leave {n : Nat} (r : SR G vs O W σ H ρ) (hn : n = vs.length) : SR G vs O W (vs.map some) H (trim n ρ) := by
  have key : ∀ {i : Nat} {s0 : SD} {xs : List D}, ρ[i]? = some s0 → s0 = .byr xs → ∃ a, vs[i]? = some (.ref a) ∧ σ[i]? = some (some (.ref a)) ∧ OwnAt G O W H a xs := fun {i s0 xs} e h => by
    subst h
    obtain ⟨a, h1, h2, h3⟩ := r.slot i _ e
    exact ⟨a, h2, join_some h1, h3⟩
  have mi : ∀ {i : Nat} {s : SD}, (trim n ρ)[i]? = some s → s.mine = true → ∃ xs, ρ[i]? = some (.byr xs) ∧ s = .byr xs := fun {i s} e m => by
    rcases (trim_get e).2 with z | z
    · subst z; cases m
    · exact z
  have notrim : ∀ {i : Nat} {t : OT}, (trim n ρ)[i]? ≠ some (.ow t) := fun {i t} e => by
    rcases (trim_get e).2 with z | ⟨xs, _, z⟩ <;> cases z
  refine ⟨r.wf, ?_, fun i s e => ?_, fun i j s t a e1 e2 m1 m2 s1 s2 => ?_, r.tabs, OwS.nil fun i t => notrim⟩
  · unfold trim
    rw [List.length_map, List.length_map, List.length_range, hn]
  · rcases (trim_get e).2 with z | ⟨xs, h1, z⟩
    · subst z; trivial
    · subst z
      obtain ⟨a, h3, h4, h5⟩ := key h1 rfl
      refine ⟨a, ?_, h3, h5⟩
      rw [List.getElem?_map, h3]; rfl
  · obtain ⟨xs, h1, rfl⟩ := mi e1 m1
    obtain ⟨ys, h2, rfl⟩ := mi e2 m2
    obtain ⟨b, h3, h4, _⟩ := key h1 rfl
    obtain ⟨c, h5, h6, _⟩ := key h2 rfl
    rw [List.getElem?_map, h3] at s1
    rw [List.getElem?_map, h5] at s2
    cases s1
    cases s2
    exact r.apart i j _ _ a h1 h2 rfl rfl h4 h6
theorem Fre.leave {n : Nat} {a : Addr} (r : SR G vs O W σ H ρ) (hn : Fre G O W σ H ρ a) : Fre G O W (vs.map some) H (trim n ρ) a := ⟨fun i s es ms z => by
    rcases (trim_get es).2 with y | ⟨ys, h1, y⟩
    · subst y; cases ms
    · obtain ⟨b, q1, q2, _⟩ := r.slot i _ h1
      rw [List.getElem?_map, q2] at z
      cases z
      exact hn.m i _ h1 rfl (join_some q1), fun i u v fp es => by
    rcases (trim_get es).2 with y | ⟨ys, h1, y⟩ <;> cases y⟩
theorem ResR.leave {n : Nat} {v : V} {s : SD} (r : SR G vs O W σ H ρ) (h : ResR G O W σ H ρ v s) : ResR G O W (vs.map some) H (trim n ρ) v s := by
  cases s with
  | no => exact h
  | byr xs => exact h
  | xn _ _ => exact h
  | gv => exact h
  | sh d => exact h
  | own xs =>
    obtain ⟨a, e, o, hn⟩ := h
    exact ⟨a, e, o, hn.leave r⟩
  | od kvs =>
    obtain ⟨a, e, o, hn⟩ := h
    exact ⟨a, e, o, hn.leave r⟩
  | ow t =>
    obtain ⟨fp, o, hn⟩ := h
    exact ⟨fp, o, fun a ha => (hn a ha).leave r⟩
end
section
variable {P : Program} {w : World} {K : PySem.W.Frag} {mg : Str → Option Value} {base : Heap}
theorem fn_sound {qual : Str} {scope : Scope} {f : Addr} {cdv : Value} {A : Around} {outer : List Env} {s : Shared} {H : Hp} {N ps : List Str} {cl : Cl} {body : List Stmt} {g : Ss} {vs : List V} {Q : VK} {E : XK} (S : FnScope N ps scope) (hlen : vs.length = ps.length)
    (hb : BJ (cxOf (L2.CX P w) P w K mg base N qual scope f cdv A outer s H E) cl vs (wxE E) body g) (h : spF (gk K cl) ps.length (bodyF N.length g) vs H Q E) :
    ∃ t, PSs (cxOf (L2.CX P w) P w K mg base N qual scope f cdv A outer s H E) body t ∧ t { nx := fun _ H' => Q .non H', rt := Q } (L2.start N vs) H := by
  obtain ⟨t, p, q⟩ := hb.ex
  obtain ⟨_, O, W, as, sr, hw⟩ := h
  have hl : vs.length = as.length := by have := sr.len; rw [List.length_map] at this; exact this
  have hpl : ps.length ≤ N.length := by have := congrArg List.length S.pre; rw [List.length_take] at this; omega
  refine ⟨t, p, q O W (L2.start N vs) H _ _ (sr.enter (by omega)) ?_⟩
  unfold bodyF at hw
  cases e : g (as ++ List.replicate (N.length - as.length) .no) with
  | bad => rw [e] at hw; exact hw
  | exc c fs ρ' =>
    rw [e] at hw
    exact fun σ' p gs O' W' H' st sr' hp hf => hw p gs O' W' H' st (sr'.leave hl.symm) hp hf
  | ok fl =>
    rw [e] at hw
    cases fl with
    | nx ρ' =>
      exact fun σ' O' W' H' st sr' => hw .non O' W' H' st (sr'.leave hl.symm) (show Rp (gk K cl) O' H' .non .non by simp only [Rp])
    | rt r ρ' =>
      exact fun v σ' O' W' H' st sr' rr => hw v O' W' H' st (sr'.leave hl.symm) (rr.leave sr')
    | bk ρ' => exact hw.elim
    | ct ρ' => exact hw.elim
theorem fn_ok {x qual : Str} {st : Stmt} {f : Addr} {fd : FuncData} {N ps : List Str} {k : Nat} {cl : Cl} {g : Ss} (F : Fun K x qual st f fd) (S : FnScope N ps (defScope st))
    (hb : ∀ (cdv : Value) (A : Around) (outer : List Env) (s : Shared) (H : Hp) (vs : List V) (E : XK), Room k (A.deeper (envOfC qual (defScope st) s.heap.objs.size f cdv)) →
      BJ (cxOf (L2.CX P w) P w K mg base N qual (defScope st) f cdv A outer s H E) cl vs (wxE E) (defBody st) g) : FnOk P w K mg base (L2.CX P w) (k + 1) f fd ps (spF (gk K cl) ps.length (bodyF N.length g)) :=
  F.okX S (fun vs H Q E h => h.1) fun cdv A outer s H vs Q E hr h => fn_sound S h.1 (hb cdv A outer s H vs E hr) h
end
def argOf (ρ : List SD) (i : Nat) : Rs SD := match ρ[i]? with
  | some (.sh d) => .ok (.sh d)
  | some (.own xs) => .ok (.byr xs)
  | some (.byr xs) => .ok (.byr xs)
  | _ => .bad
def cargs : List LOp → List SD → Rs (List (SD × Option Nat) × List SD)
  | [], ρ => .ok ([], ρ)
  | .va i :: r, ρ => (argOf ρ i).bind fun _ => (cargs r ρ).bind fun p => (argOf p.2 i).bind fun s => .ok ((s, some i) :: p.1, p.2)
  | .ex f :: r, ρ => (f ρ).bind fun p => (cargs r p.2).bind fun q => .ok ((.sh p.1.frz, none) :: q.1, q.2)
def lent : List (SD × Option Nat) → List Nat
  | [] => []
  | (.byr _, some i) :: r => i :: lent r
  | _ :: r => lent r
def backS : SD → SD → SD
  | .own _, .byr xs => .own xs
  | .byr _, .byr xs => .byr xs
  | .sh d, _ => .sh d
  | _, _ => .no
def backAll : List (SD × Option Nat) → List SD → List SD → List SD
  | (.byr _, some i) :: r, s :: ss, ρ => (backAll r ss ρ).set i (backS (ρ[i]?.getD .no) s)
  | _ :: r, _ :: ss, ρ => backAll r ss ρ
  | _, _, ρ => ρ
def xCall (F : Fn) (fl : List LOp) : Sx := fun ρ => (cargs fl ρ).bind fun p => if (lent p.1).Nodup then
    match F (p.1.map (·.1)) with
    | .ok (r, as') => .ok (r, backAll p.1 as' p.2)
    | .exc c fs as' => .exc c fs (backAll p.1 as' p.2)
    | .bad => .bad
  else .bad
end Wm
end
section
namespace Wm
open PySem PySem.Spec PyProof.Rows L2
def CR1 (G : Gx) (O W : List Addr) (σ : L2.St) (H : Hp) (ρ : List SD) : SD × Option Nat → V → Prop
  | (.sh d, _), v => Rp G O H d v
  | (.byr xs, some i), v => ∃ a, v = .ref a ∧ σ[i]? = some (some (.ref a)) ∧ OwnAt G O W H a xs ∧ (ρ[i]? = some (.own xs) ∨ ρ[i]? = some (.byr xs))
  | _, _ => False
def CRs (G : Gx) (O W : List Addr) (σ : L2.St) (H : Hp) (ρ : List SD) : List (SD × Option Nat) → List V → Prop
  | [], vs => vs = []
  | p :: ps, vs => ∃ v r, vs = v :: r ∧ CR1 G O W σ H ρ p v ∧ CRs G O W σ H ρ ps r
def AftK (G : Gx) (vs0 : List V) (Wx : WX) (O W : List Addr) (σ : L2.St) (H : Hp) (Q : List V → Hp → Prop) : Rs (List (SD × Option Nat) × List SD) → Prop
  | .ok (ps, ρ') => ∀ vs O' W' H', Stp O W H O' W' H' → SR G vs0 O' W' σ H' ρ' → CRs G O' W' σ H' ρ' ps vs → Q vs H'
  | .exc c fs ρ' => ExcA G vs0 Wx O W σ H c fs ρ'
  | .bad => False
structure KJ (X : Cx) (cl : Cl) (vs0 : List V) (Wx : WX) (es : List Expr) (fl : List LOp) : Prop where
  ex : ∃ ts, PEs X es ts ∧ PA X es (tAll ts) ∧ ∀ O W σ H ρ R, SR (gx X cl) vs0 O W σ H ρ → AftK (gx X cl) vs0 Wx O W σ H R (cargs fl ρ) → tAll ts σ H R
section
variable {X : Cx} {cl : Cl} {vs0 : List V} {Wx : WX}
theorem argOf_noexc {ρ : List SD} {i : Nat} {c : Str} {fs : List (Str × D)} {ρ' : List SD} : argOf ρ i ≠ .exc c fs ρ' := by
  unfold argOf
  split <;> exact fun z => nomatch z
theorem argOf_sr {G : Gx} {O W : List Addr} {σ : L2.St} {H : Hp} {ρ : List SD} {i : Nat} {s : SD} (sr : SR G vs0 O W σ H ρ) (h : argOf ρ i = .ok s) : ∃ v, σ[i]? = some (some v) ∧ CR1 G O W σ H ρ (s, some i) v := by
  unfold argOf at h
  split at h
  · rename_i d e
    cases h
    obtain ⟨v, e1, r⟩ := sr.get e
    exact ⟨v, e1, r⟩
  · rename_i xs e
    cases h
    obtain ⟨a, e1, o⟩ := sr.getOwn e (.inl rfl)
    exact ⟨_, e1, a, rfl, e1, o, .inl e⟩
  · rename_i xs e
    cases h
    obtain ⟨a, e1, o⟩ := sr.getOwn e (.inr rfl)
    exact ⟨_, e1, a, rfl, e1, o, .inr e⟩
  · cases h
theorem kj_nil : KJ X cl vs0 Wx [] [] := ⟨⟨[], .nil, pa_nil, fun O W σ H ρ R sr h => h [] O W H Stp.refl sr rfl⟩⟩
theorem kj_cons {e : Expr} {es : List Expr} {o : LOp} {fl : List LOp} (h : LJ X cl vs0 Wx e o) (hr : KJ X cl vs0 Wx es fl) (hs : starEach (e :: es) X.env = (false, eval e X.env) :: starEach es X.env := by rfl) : KJ X cl vs0 Wx (e :: es) (o :: fl) := by
  obtain ⟨ts, p1, p2, p3⟩ := hr.ex
  cases o with
  | va i =>
    refine ⟨⟨tVar i :: ts, .cons h p1, pa_cons h p2 hs, fun O W σ H ρ R sr hw => ?_⟩⟩
    have hw' : AftK (gx X cl) vs0 Wx O W σ H R ((argOf ρ i).bind fun _ => (cargs fl ρ).bind fun p => (argOf p.2 i).bind fun s => .ok ((s, some i) :: p.1, p.2)) := hw
    cases e0 : argOf ρ i with
    | bad => rw [e0] at hw'; exact hw'.elim
    | exc c fs ρ' => exact absurd e0 argOf_noexc
    | ok d0 =>
      rw [e0] at hw'
      obtain ⟨v, ev, _⟩ := argOf_sr sr e0
      refine ⟨v, ev, p3 O W σ H ρ _ sr ?_⟩
      have hw2 : AftK (gx X cl) vs0 Wx O W σ H R ((cargs fl ρ).bind fun p => (argOf p.2 i).bind fun s => .ok ((s, some i) :: p.1, p.2)) := hw'
      cases e1 : cargs fl ρ with
      | bad => rw [e1] at hw2; exact hw2
      | exc c fs ρ' => rw [e1] at hw2; exact hw2
      | ok p =>
        obtain ⟨ps, ρ1⟩ := p
        rw [e1] at hw2
        have hw3 : AftK (gx X cl) vs0 Wx O W σ H R ((argOf ρ1 i).bind fun s => .ok ((s, some i) :: ps, ρ1)) := hw2
        intro vs O' W' H' st sr' ho
        cases e2 : argOf ρ1 i with
        | bad => rw [e2] at hw3; exact hw3.elim
        | exc c fs ρ' => exact absurd e2 argOf_noexc
        | ok d =>
          rw [e2] at hw3
          obtain ⟨v', ev', r'⟩ := argOf_sr sr' e2
          rw [ev] at ev'; cases ev'
          exact hw3 (v :: vs) O' W' H' st sr' ⟨v, vs, rfl, r', ho⟩
  | ex f =>
    obtain ⟨t, q1, q2⟩ := h.ex
    refine ⟨⟨t :: ts, .cons q1 p1, pa_cons q1 p2 hs, fun O W σ H ρ R sr hw => ?_⟩⟩
    have hw' : AftK (gx X cl) vs0 Wx O W σ H R ((f ρ).bind fun p => (cargs fl p.2).bind fun q => .ok ((.sh p.1.frz, none) :: q.1, q.2)) := hw
    refine q2 O W σ H ρ _ sr ?_
    cases e0 : f ρ with
    | bad => rw [e0] at hw'; exact hw'
    | exc c fs ρ' => rw [e0] at hw'; exact hw'
    | ok p =>
      obtain ⟨r, ρ1⟩ := p
      rw [e0] at hw'
      have hw2 : AftK (gx X cl) vs0 Wx O W σ H R ((cargs fl ρ1).bind fun q => .ok ((.sh r.frz, none) :: q.1, q.2)) := hw'
      intro v O1 W1 H1 st1 sr1 rr
      obtain ⟨O2, W2, st2, sr2, rp⟩ := rr.frz sr1
      have st12 := st1.trans sr.wf st2
      refine p3 O2 W2 σ H1 ρ1 _ sr2 ?_
      cases e1 : cargs fl ρ1 with
      | bad => rw [e1] at hw2; exact hw2
      | exc c fs ρ' => rw [e1] at hw2; exact ExcA.back sr.wf st12 hw2
      | ok q =>
        obtain ⟨ps, ρ2⟩ := q
        rw [e1] at hw2
        intro vs O' W' H' st sr' ho
        exact hw2 (v :: vs) O' W' H' (st12.trans sr.wf st) sr' ⟨v, vs, rfl, rp.step sr2.wf st, ho⟩
def wcs : List (SD × Option Nat) → List V → List Addr
  | (.byr _, some _) :: r, .ref a :: vr => a :: wcs r vr
  | _ :: r, _ :: vr => wcs r vr
  | _, _ => []
variable {G : Gx} {O W O' W' : List Addr} {σ : L2.St} {H H' : Hp} {ρ : List SD}
theorem CRs.len : ∀ {ps : List (SD × Option Nat)} {vs : List V}, CRs G O W σ H ρ ps vs → ps.length = vs.length
  | [], vs, h => by have h : vs = [] := h; rw [h]; rfl
  | p :: ps, vs, h => by
    obtain ⟨v, r, e, _, h2⟩ := h
    rw [e, List.length_cons, List.length_cons, CRs.len h2]
theorem CRs.get : ∀ {ps : List (SD × Option Nat)} {vs : List V} {j : Nat} {p : SD × Option Nat}, CRs G O W σ H ρ ps vs → ps[j]? = some p → ∃ v, vs[j]? = some v ∧ CR1 G O W σ H ρ p v
  | [], vs, j, p, h, e => by cases j <;> cases e
  | q :: ps, vs, j, p, h, e => by
    obtain ⟨v, r, ev, h1, h2⟩ := h
    subst ev
    cases j with
    | zero => cases e; exact ⟨v, rfl, h1⟩
    | succ j => exact CRs.get (j := j) h2 e
theorem mem_wcs : ∀ {ps : List (SD × Option Nat)} {vs : List V} {a : Addr}, CRs G O W σ H ρ ps vs → (a ∈ wcs ps vs ↔ ∃ (j : Nat) (xs : List D) (i : Nat), ps[j]? = some (SD.byr xs, some i) ∧ vs[j]? = some (V.ref a))
  | [], vs, a, h => by
    have h : vs = [] := h
    subst h
    constructor
    · intro z; cases z
    · rintro ⟨j, xs, i, h1, _⟩; cases j <;> cases h1
  | p :: ps, vs, a, h => by
    obtain ⟨v, r, ev, h1, h2⟩ := h
    subst ev
    have ih := mem_wcs (a := a) h2
    have shift : (∃ (j : Nat) (xs : List D) (i : Nat), ps[j]? = some (SD.byr xs, some i) ∧ r[j]? = some (V.ref a)) → ∃ (j : Nat) (xs : List D) (i : Nat), (p :: ps)[j]? = some (SD.byr xs, some i) ∧ (v :: r)[j]? = some (V.ref a) := fun ⟨j, xs, i, z1, z2⟩ => ⟨j + 1, xs, i, z1, z2⟩
    obtain ⟨s, o⟩ := p
    have plain : wcs ((s, o) :: ps) (v :: r) = wcs ps r → (∀ xs i, (s, o) ≠ (SD.byr xs, some i)) → (a ∈ wcs ((s, o) :: ps) (v :: r) ↔ ∃ (j : Nat) (xs : List D) (i : Nat), ((s, o) :: ps)[j]? = some (SD.byr xs, some i) ∧ (v :: r)[j]? = some (V.ref a)) := fun e hn => by
      rw [e, ih]
      refine ⟨shift, ?_⟩
      rintro ⟨j, xs, i, z1, z2⟩
      cases j with
      | zero => exact absurd (Option.some.inj z1) (hn xs i)
      | succ j => exact ⟨j, xs, i, z1, z2⟩
    cases s with
    | sh d => exact plain rfl fun xs i z => by cases z
    | no => exact h1.elim
    | own xs => exact h1.elim
    | xn _ _ => exact h1.elim
    | gv => exact h1.elim
    | od _ => exact h1.elim
    | ow _ => exact h1.elim
    | byr xs =>
      cases o with
      | none => exact h1.elim
      | some i =>
        obtain ⟨b, eb, h3, h4, h5⟩ := h1
        subst eb
        show a ∈ b :: wcs ps r ↔ _
        rw [List.mem_cons, ih]
        constructor
        · rintro (z | z)
          · exact ⟨0, xs, i, rfl, by rw [z]; rfl⟩
          · exact shift z
        · rintro ⟨j, ys, i', z1, z2⟩
          cases j with
          | zero =>
            left
            have z2 : some (V.ref b) = some (V.ref a) := z2
            cases z2; rfl
          | succ j => exact .inr ⟨j, ys, i', z1, z2⟩
theorem mem_lent : ∀ {ps : List (SD × Option Nat)} {i : Nat}, i ∈ lent ps ↔ ∃ (j : Nat) (xs : List D), ps[j]? = some (.byr xs, some i)
  | [], i => by
    constructor
    · intro z; cases z
    · rintro ⟨j, xs, h1⟩; cases j <;> cases h1
  | (s, o) :: ps, i => by
    have ih := mem_lent (ps := ps) (i := i)
    have plain : lent ((s, o) :: ps) = lent ps → (∀ xs i, (s, o) ≠ (SD.byr xs, some i)) → (i ∈ lent ((s, o) :: ps) ↔ ∃ (j : Nat) (xs : List D), ((s, o) :: ps)[j]? = some (.byr xs, some i)) := fun e hn => by
      rw [e, ih]
      constructor
      · rintro ⟨j, xs, z⟩; exact ⟨j + 1, xs, z⟩
      · rintro ⟨j, xs, z1⟩
        cases j with
        | zero => exact absurd (Option.some.inj z1) (hn xs i)
        | succ j => exact ⟨j, xs, z1⟩
    cases s with
    | sh d => exact plain rfl fun xs i z => by cases z
    | no => exact plain rfl fun xs i z => by cases z
    | own xs => exact plain rfl fun xs i z => by cases z
    | xn _ _ => exact plain rfl fun xs i z => by cases z
    | gv => exact plain rfl fun xs i z => by cases z
    | od _ => exact plain rfl fun xs i z => by cases z
    | ow _ => exact plain rfl fun xs i z => by cases z
    | byr xs =>
      cases o with
      | none => exact plain rfl fun xs i z => by cases z
      | some k =>
        show i ∈ k :: lent ps ↔ _
        rw [List.mem_cons, ih]
        constructor
        · rintro (z | ⟨j, ys, z⟩)
          · exact ⟨0, xs, by rw [z]; rfl⟩
          · exact ⟨j + 1, ys, z⟩
        · rintro ⟨j, ys, z1⟩
          cases j with
          | zero =>
            left
            have z1 : some (SD.byr xs, some k) = some (SD.byr ys, some i) := z1
            cases z1; rfl
          | succ j => exact .inr ⟨j, ys, z1⟩
theorem lent_inj : ∀ {ps : List (SD × Option Nat)} {i j k : Nat} {xs ys : List D}, (lent ps).Nodup → ps[j]? = some (.byr xs, some i) → ps[k]? = some (.byr ys, some i) → j = k
  | [], i, j, k, xs, ys, _, h, _ => by cases j <;> cases h
  | (s, o) :: ps, i, j, k, xs, ys, nd, h1, h2 => by
    have sub : (lent ps).Nodup := by
      cases s <;> cases o <;> first
        | exact nd
        | exact (List.nodup_cons.mp nd).2
    cases j with
    | zero =>
      cases k with
      | zero => rfl
      | succ k =>
        have h1 : some (s, o) = some (SD.byr xs, some i) := h1
        cases h1
        exact absurd (mem_lent.mpr ⟨k, ys, h2⟩) (List.nodup_cons.mp nd).1
    | succ j =>
      cases k with
      | zero =>
        have h2 : some (s, o) = some (SD.byr ys, some i) := h2
        cases h2
        exact absurd (mem_lent.mpr ⟨j, xs, h1⟩) (List.nodup_cons.mp nd).1
      | succ k => exact congrArg (· + 1) (lent_inj (j := j) (k := k) sub h1 h2)
theorem back_out : ∀ {ps : List (SD × Option Nat)} {as : List SD} {i : Nat}, i ∉ lent ps → (backAll ps as ρ)[i]? = ρ[i]?
  | [], as, i, _ => by cases as <;> rfl
  | (s, o) :: ps, [], i, _ => by cases s <;> cases o <;> rfl
  | (s, o) :: ps, a :: as, i, h => by
    have plain : backAll ((s, o) :: ps) (a :: as) ρ = backAll ps as ρ → lent ((s, o) :: ps) = lent ps → (backAll ((s, o) :: ps) (a :: as) ρ)[i]? = ρ[i]? := fun e1 e2 => by
      rw [e1]; rw [e2] at h; exact back_out h
    cases s with
    | sh d => exact plain rfl rfl
    | no => exact plain rfl rfl
    | own xs => exact plain rfl rfl
    | xn _ _ => exact plain rfl rfl
    | gv => exact plain rfl rfl
    | od _ => exact plain rfl rfl
    | ow _ => exact plain rfl rfl
    | byr xs =>
      cases o with
      | none => exact plain rfl rfl
      | some k =>
        have h : i ∉ k :: lent ps := h
        rw [List.mem_cons, not_or] at h
        show ((backAll ps as ρ).set k _)[i]? = _
        rw [List.getElem?_set_ne (Ne.symm h.1)]
        exact back_out h.2
theorem back_len : ∀ {ps : List (SD × Option Nat)} {as : List SD}, (backAll ps as ρ).length = ρ.length
  | [], as => by cases as <;> rfl
  | (s, o) :: ps, [] => by cases s <;> cases o <;> rfl
  | (s, o) :: ps, a :: as => by
    cases s <;> cases o <;> first
      | exact back_len (ps := ps) (as := as)
      | (show ((backAll ps as ρ).set _ _).length = _
         rw [List.length_set]; exact back_len (ps := ps) (as := as))
theorem back_in : ∀ {ps : List (SD × Option Nat)} {as : List SD} {i j : Nat} {xs : List D} {s : SD}, (lent ps).Nodup → ps[j]? = some (.byr xs, some i) → as[j]? = some s → i < ρ.length → (backAll ps as ρ)[i]? = some (backS (ρ[i]?.getD .no) s)
  | [], as, i, j, xs, s, _, h, _, _ => by cases j <;> cases h
  | (t, o) :: ps, [], i, j, xs, s, _, _, h, _ => by cases j <;> cases h
  | (t, o) :: ps, a :: as, i, j, xs, s, nd, h1, h2, hl => by
    cases j with
    | zero =>
      have h1 : some (t, o) = some (SD.byr xs, some i) := h1
      have h2 : some a = some s := h2
      cases h1
      cases h2
      show ((backAll ps as ρ).set i _)[i]? = _
      rw [List.getElem?_set_self (by rw [back_len]; exact hl)]
    | succ j =>
      have plain : backAll ((t, o) :: ps) (a :: as) ρ = backAll ps as ρ → lent ((t, o) :: ps) = lent ps → (backAll ((t, o) :: ps) (a :: as) ρ)[i]? = some (backS (ρ[i]?.getD .no) s) := fun e1 e2 => by
        rw [e1]; rw [e2] at nd; exact back_in (j := j) nd h1 h2 hl
      cases t with
      | sh d => exact plain rfl rfl
      | no => exact plain rfl rfl
      | own xs => exact plain rfl rfl
      | xn _ _ => exact plain rfl rfl
      | gv => exact plain rfl rfl
      | od _ => exact plain rfl rfl
      | ow _ => exact plain rfl rfl
      | byr ys =>
        cases o with
        | none => exact plain rfl rfl
        | some k =>
          have nd : (k :: lent ps).Nodup := nd
          have hk : i ≠ k := fun z => (List.nodup_cons.mp nd).1 (mem_lent.mpr ⟨j, xs, z ▸ h1⟩)
          show ((backAll ps as ρ).set k _)[i]? = _
          rw [List.getElem?_set_ne (Ne.symm hk)]
          exact back_in (j := j) (List.nodup_cons.mp nd).2 h1 h2 hl
end
end Wm
end
section
namespace Wm
open PySem PySem.Spec PyProof.Rows L2
section
variable {X : Cx} {cl : Cl} {vs0 : List V} {Wx : WX}
variable {G : Gx} {O W O' W' : List Addr} {σ : L2.St} {H H' : Hp} {ρ : List SD} {ps : List (SD × Option Nat)} {vs : List V} {as : List SD}
theorem call_enter (sr : SR G vs0 O W σ H ρ) (hc : CRs G O W σ H ρ ps vs) (nd : (lent ps).Nodup) : SR G vs O (wcs ps vs) (vs.map some) H (ps.map (·.1)) := by
  have pg : ∀ {i : Nat} {s : SD}, (ps.map (·.1))[i]? = some s → ∃ o, ps[i]? = some (s, o) := fun {i s} e => by
    rw [List.getElem?_map] at e
    obtain ⟨⟨s', o⟩, h1, h2⟩ := Option.map_eq_some_iff.mp e
    have h2 : s' = s := h2
    subst h2
    exact ⟨o, h1⟩
  have mi : ∀ {i : Nat} {s : SD}, (ps.map (·.1))[i]? = some s → s.mine = true → ∃ xs k, ps[i]? = some (SD.byr xs, some k) ∧ s = .byr xs := fun {i s} e m => by
    obtain ⟨o, h1⟩ := pg e
    obtain ⟨v, h2, h3⟩ := hc.get h1
    cases s with
    | byr xs =>
      cases o with
      | none => exact h3.elim
      | some k => exact ⟨xs, k, h1, rfl⟩
    | own xs => exact h3.elim
    | xn _ _ => cases m
    | gv => cases m
    | od _ => exact h3.elim
    | ow _ => exact h3.elim
    | no => cases m
    | sh d => cases m
  refine ⟨⟨fun b hb => ?_, sr.wf.trk⟩, by rw [List.length_map, List.length_map, hc.len], fun i s e => ?_, fun i j s t a e1 e2 m1 m2 s1 s2 => ?_, sr.tabs, OwS.nil fun i t e => ?_⟩
  · obtain ⟨j, xs, i, h1, h2⟩ := (mem_wcs hc).mp hb
    obtain ⟨v, h3, a, h4, h5, h6, _⟩ := hc.get h1
    rw [h2] at h3; cases h3; cases h4
    exact sr.wf.sub b h6.1
  · obtain ⟨o, h1⟩ := pg e
    obtain ⟨v, h2, h3⟩ := hc.get h1
    have e2 : ((vs.map some)[i]?).join = some v := by rw [List.getElem?_map, h2]; rfl
    rw [e2, h2]
    cases s with
    | sh d => exact ⟨v, rfl, h3⟩
    | xn _ _ => exact h3.elim
    | gv => exact h3.elim
    | od _ => exact h3.elim
    | ow _ => exact h3.elim
    | byr xs =>
      cases o with
      | none => exact h3.elim
      | some k =>
        obtain ⟨a, h4, h5, ⟨h6, h7⟩, _⟩ := h3
        subst h4
        exact ⟨a, rfl, rfl, (mem_wcs hc).mpr ⟨i, xs, k, h1, h2⟩, h7⟩
    | own xs => exact h3.elim
    | no => trivial
  · obtain ⟨xs, k, h1, rfl⟩ := mi e1 m1
    obtain ⟨ys, l, h2, rfl⟩ := mi e2 m2
    obtain ⟨v, h3, b, h4, h5, _, h6⟩ := hc.get h1
    obtain ⟨u, h7, c, h8, h9, _, h10⟩ := hc.get h2
    subst h4 h8
    rw [List.getElem?_map, h3] at s1
    rw [List.getElem?_map, h7] at s2
    cases s1
    cases s2
    have hkl : k = l := by
      rcases h6 with h6 | h6 <;> rcases h10 with h10 | h10 <;> exact sr.apart k l _ _ a h6 h10 rfl rfl h5 h9
    subst hkl
    exact lent_inj nd h1 h2
  · obtain ⟨o, h1⟩ := pg e
    obtain ⟨v, h2, h3⟩ := hc.get h1
    exact h3.elim
theorem back_step (sr : SR G vs0 O W σ H ρ) (hc : CRs G O W σ H ρ ps vs) (nd : (lent ps).Nodup) (st : Stp O (wcs ps vs) H O' W' H') (sr' : SR G vs O' W' (vs.map some) H' as) :
    ∃ W'', Stp O W H O' W'' H' ∧ SR G vs0 O' W'' σ H' (backAll ps as ρ) ∧ ∀ v r, ResR G O' W' (vs.map some) H' as v r → ResR G O' W'' σ H' (backAll ps as ρ) v r := by
  have wc : Wf O (wcs ps vs) H := (call_enter sr hc nd).wf
  have wsub : ∀ b ∈ wcs ps vs, b ∈ W := fun b hb => by
    obtain ⟨j, xs, i, h1, h2⟩ := (mem_wcs hc).mp hb
    obtain ⟨v, h3, a, h4, h5, h6, _⟩ := hc.get h1
    rw [h2] at h3; cases h3; cases h4
    exact h6.1
  have hlen : as.length = ps.length := by
    have := sr'.len
    rw [List.length_map] at this
    rw [← this, hc.len]
  have w2 : ∀ {b : Addr}, b ∈ W' ++ W.filter (fun b => decide (b ∉ wcs ps vs)) ↔ b ∈ W' ∨ (b ∈ W ∧ b ∉ wcs ps vs) := by
    intro b
    rw [List.mem_append, List.mem_filter, decide_eq_true_eq]
  have keptA : ∀ {i : Nat} {s : SD}, ρ[i]? = some s → s.mine = true → i ∉ lent ps → ∃ a, σ[i]? = some (some (.ref a)) ∧ a ∉ wcs ps vs := fun {i s} e hm hn => by
    obtain ⟨a, ea, _⟩ := sr.mineW e hm
    refine ⟨a, ea, fun z => ?_⟩
    obtain ⟨j, ys, k, z1, z2⟩ := (mem_wcs hc).mp z
    obtain ⟨v, z3, b, z4, z5, _, z6⟩ := hc.get z1
    rw [z2] at z3; cases z3; cases z4
    have : i = k := by rcases z6 with z6 | z6 <;> exact sr.apart i k s _ a e z6 hm rfl ea z5
    subst this
    exact hn (mem_lent.mpr ⟨j, ys, z1⟩)
  -- a slot of one's own that was not lent keeps its list
  have kept : ∀ {i : Nat} {s : SD} {xs : List D}, ρ[i]? = some s → (s = .own xs ∨ s = .byr xs) → i ∉ lent ps → ∃ a, σ[i]? = some (some (.ref a)) ∧ a ∉ wcs ps vs ∧ OwnAt G O' (W' ++ W.filter (fun b => decide (b ∉ wcs ps vs))) H' a xs := fun {i s xs} e hs hn => by
    obtain ⟨a, ea, h1, us, h2, h3, h4⟩ := sr.getOwn e hs
    have na : a ∉ wcs ps vs := fun z => by
      obtain ⟨j, ys, k, z1, z2⟩ := (mem_wcs hc).mp z
      obtain ⟨v, z3, b, z4, z5, _, z6⟩ := hc.get z1
      rw [z2] at z3; cases z3; cases z4
      have hm : s.mine = true := by rcases hs with rfl | rfl <;> rfl
      have : i = k := by rcases z6 with z6 | z6 <;> exact sr.apart i k s _ a e z6 hm rfl ea z5
      subst this
      exact hn (mem_lent.mpr ⟨j, ys, z1⟩)
    exact ⟨a, ea, na, w2.mpr (.inr ⟨h1, na⟩), us, st.keep a _ h2 na (fun _ z => by cases z), h3, h4.step wc st⟩
  -- a slot that was lent
  have lentS : ∀ {i : Nat}, i ∈ lent ps → ∃ (j : Nat) (xs : List D) (s : SD) (a : Addr), ps[j]? = some (SD.byr xs, some i) ∧ as[j]? = some s ∧ vs[j]? = some (V.ref a) ∧ σ[i]? = some (some (.ref a)) ∧ (ρ[i]? = some (.own xs) ∨ ρ[i]? = some (.byr xs)) ∧ (backAll ps as ρ)[i]? = some (backS (ρ[i]?.getD .no) s) := fun {i} hi => by
    obtain ⟨j, xs, h1⟩ := mem_lent.mp hi
    obtain ⟨v, h3, a, h4, h5, _, h6⟩ := hc.get h1
    subst h4
    have hj : j < as.length := by rw [hlen]; exact (List.getElem?_eq_some_iff.mp h1).1
    have hil : i < ρ.length := by
      rcases h6 with h6 | h6 <;> exact (List.getElem?_eq_some_iff.mp h6).1
    exact ⟨j, xs, as[j], a, h1, List.getElem?_eq_getElem hj, h3, h5, h6, back_in nd h1 (List.getElem?_eq_getElem hj) hil⟩
  have own' : ∀ {a : Addr} {xs : List D}, OwnAt G O' W' H' a xs → OwnAt G O' (W' ++ W.filter (fun b => decide (b ∉ wcs ps vs))) H' a xs := fun h => ⟨w2.mpr (.inl h.1), h.2⟩
  -- what stands in a slot that is one's own behind the call
  have mine : ∀ {i : Nat} {s : SD}, (backAll ps as ρ)[i]? = some s → s.mine = true → ∃ a, σ[i]? = some (some (.ref a)) ∧ ((a ∉ wcs ps vs ∧ a ∈ W ∧ ∃ s0, ρ[i]? = some s0 ∧ s0.mine = true) ∨ (∃ (j : Nat) (ys : List D), as[j]? = some (SD.byr ys) ∧ vs[j]? = some (V.ref a) ∧ ∃ s0, ρ[i]? = some s0 ∧ s0.mine = true)) := fun {i s} e m => by
    by_cases hi : i ∈ lent ps
    · obtain ⟨j, xs, s1, a, h1, h2, h3, h4, h5, h6⟩ := lentS hi
      rw [h6] at e
      cases e
      have h0 : ∃ s0, ρ[i]? = some s0 ∧ s0.mine = true := by rcases h5 with h5 | h5 <;> exact ⟨_, h5, rfl⟩
      cases s1 with
      | byr ys => exact ⟨a, h4, .inr ⟨j, ys, h2, h3, h0⟩⟩
      | no => rcases h5 with h5 | h5 <;> (rw [h5] at m; cases m)
      | xn _ _ => rcases h5 with h5 | h5 <;> (rw [h5] at m; cases m)
      | gv => rcases h5 with h5 | h5 <;> (rw [h5] at m; cases m)
      | od _ => rcases h5 with h5 | h5 <;> (rw [h5] at m; cases m)
      | ow _ => rcases h5 with h5 | h5 <;> (rw [h5] at m; cases m)
      | sh d => rcases h5 with h5 | h5 <;> (rw [h5] at m; cases m)
      | own ys => rcases h5 with h5 | h5 <;> (rw [h5] at m; cases m)
    · rw [back_out hi] at e
      obtain ⟨a, ea, na⟩ := keptA e m hi
      obtain ⟨b, eb, hb⟩ := sr.mineW e m
      rw [ea] at eb; cases eb
      exact ⟨a, ea, .inl ⟨na, hb, s, e, m⟩⟩
  have owb : ∀ {i : Nat} {t : OT}, (backAll ps as ρ)[i]? = some (.ow t) → i ∉ lent ps ∧ ρ[i]? = some (.ow t) := fun {i t} e => by
    by_cases hi : i ∈ lent ps
    · obtain ⟨j, xs, s1, a, h1, h2, h3, h4, h5, h6⟩ := lentS hi
      rw [h6] at e
      cases s1 <;> rcases h5 with h5 | h5 <;> rw [h5] at e <;> cases e
    · rw [back_out hi] at e
      exact ⟨hi, e⟩
  have owk : ∀ {i : Nat} {t : OT} {v : V} {fp : List Addr}, ρ[i]? = some (.ow t) → σ[i]? = some (some v) → OwT G O W H t v fp → (∀ b ∈ fp, b ∉ wcs ps vs) ∧ OwT G O' (W' ++ W.filter (fun b => decide (b ∉ wcs ps vs))) H' t v fp := fun {i t v fp} e ev o => by
    have nw : ∀ b ∈ fp, b ∉ wcs ps vs := fun b hb z => by
      obtain ⟨φ, w1, _, w3⟩ := sr.ows
      obtain ⟨v', ev', o'⟩ := w1 i t e
      rw [ev] at ev'; cases ev'
      obtain ⟨j, ys, k, z1, z2⟩ := (mem_wcs hc).mp z
      obtain ⟨v, z3, c, z4, z5, _, z6⟩ := hc.get z1
      rw [z2] at z3; cases z3; cases z4
      rcases z6 with z6 | z6 <;> exact w3 i k t _ b e z6 rfl z5 (OwT.det o o' ▸ hb)
    have key : ∀ {t : OT} {v : V} {fp : List Addr}, OwT G O W H t v fp → (∀ b ∈ fp, b ∉ wcs ps vs) → OwT G O' (W' ++ W.filter (fun b => decide (b ∉ wcs ps vs))) H' t v fp := fun {t v fp} o nw =>
      o.go wc st fun b hb => ⟨w2.mpr (.inr ⟨o.sub b hb, nw b hb⟩), fun x ex => st.keep b _ ex (nw b hb) (fun ps z => by cases z)⟩
    exact ⟨nw, key o nw⟩
  have fr : ∀ a, a ∈ W' → Fre G O' W' (vs.map some) H' as a → Fre G O' (W' ++ W.filter (fun b => decide (b ∉ wcs ps vs))) σ H' (backAll ps as ρ) a := fun a ha hn => ⟨fun i s e m z => by
      obtain ⟨b, hb, h⟩ := mine e m
      rw [hb] at z; cases z
      rcases h with ⟨n1, n2, _⟩ | ⟨j, ys, y1, y2, _⟩
      · rcases st.wnew a ha with y | y
        · exact n1 y
        · exact sr.wf.trk a (sr.wf.sub a n2) y
      · exact hn.m j _ y1 rfl (by rw [List.getElem?_map, y2]; rfl), fun i u v fp e ev o hb => by
      obtain ⟨_, e0⟩ := owb e
      obtain ⟨φ, w1, _, _⟩ := sr.ows
      obtain ⟨v', ev', o'⟩ := w1 i u e0
      rw [ev] at ev'; cases ev'
      obtain ⟨n1, o2⟩ := owk e0 ev o'
      rw [OwT.det o o2] at hb
      rcases st.wnew a ha with y | y
      · exact n1 a hb y
      · exact sr.wf.trk a (sr.wf.sub a (o'.sub a hb)) y⟩
  refine ⟨W' ++ W.filter (fun b => decide (b ∉ wcs ps vs)), ⟨fun b o e hb ht => st.keep b o e (fun z => hb (wsub b z)) ht, fun b hb => ?_, st.onew, st.trk, fun b hb hn => st.ofz b hb fun z => hn (wsub b z)⟩, ⟨⟨fun b hb => ?_, sr'.wf.trk⟩, by rw [back_len, sr.len], fun i s e => ?_, fun i j s t a e1 e2 m1 m2 s1 s2 => ?_, sr'.tabs, ?_⟩, fun v r hr => ?_⟩
  · rcases w2.mp hb with z | z
    · rcases st.wnew b z with y | y
      · exact .inl (wsub b y)
      · exact .inr y
    · exact .inl z.1
  · rcases w2.mp hb with z | z
    · exact sr'.wf.sub b z
    · exact st.ofz b (sr.wf.sub b z.1) z.2
  · by_cases hi : i ∈ lent ps
    · obtain ⟨j, xs, s1, a, h1, h2, h3, h4, h5, h6⟩ := lentS hi
      rw [h6] at e
      cases e
      cases s1 with
      | byr ys =>
        obtain ⟨b, z1, z2, z3⟩ := sr'.slot j _ h2
        rw [h3] at z2; cases z2
        rw [h4]
        rcases h5 with h5 | h5
        · rw [h5]; exact ⟨a, rfl, own' z3⟩
        · rw [h5]
          obtain ⟨b, q1, q2, _⟩ := sr.slot i _ h5
          rw [h4] at q1
          cases q1
          exact ⟨a, rfl, q2, own' z3⟩
      | no => rcases h5 with h5 | h5 <;> (rw [h5]; trivial)
      | xn _ _ => rcases h5 with h5 | h5 <;> (rw [h5]; trivial)
      | gv => rcases h5 with h5 | h5 <;> (rw [h5]; trivial)
      | od _ => rcases h5 with h5 | h5 <;> (rw [h5]; trivial)
      | ow _ => rcases h5 with h5 | h5 <;> (rw [h5]; trivial)
      | sh d => rcases h5 with h5 | h5 <;> (rw [h5]; trivial)
      | own ys => rcases h5 with h5 | h5 <;> (rw [h5]; trivial)
    · rw [back_out hi] at e
      have q := sr.slot i s e
      cases s with
      | no => trivial
      | xn c fs => obtain ⟨a, p, gs, e, x, t, n, r⟩ := q; exact ⟨a, p, gs, e, x, (st.at wc t n).1, (st.at wc t n).2, RpF.step wc st r⟩
      | gv => exact q
      | od kvs =>
        obtain ⟨a, ea, na⟩ := keptA e rfl hi
        obtain ⟨b, q1, hb, gs, h2, h4⟩ := q
        rw [ea] at q1; cases q1
        exact ⟨a, by rw [ea]; rfl, w2.mpr (.inr ⟨hb, na⟩), gs, st.keep a _ h2 na (fun _ z => by cases z), RpD.step wc st h4⟩
      | sh d => obtain ⟨v, ev, r⟩ := q; exact ⟨v, ev, r.step wc st⟩
      | ow _ => trivial
      | own xs =>
        obtain ⟨a, ea, _, o⟩ := kept e (.inl rfl) hi
        exact ⟨a, by rw [ea]; rfl, o⟩
      | byr xs =>
        obtain ⟨a, ea, _, o⟩ := kept e (.inr rfl) hi
        obtain ⟨b, q1, q2, _⟩ := q
        rw [ea] at q1
        cases q1
        exact ⟨a, by rw [ea]; rfl, q2, o⟩
  · have orig : ∀ {i : Nat} {s : SD}, (backAll ps as ρ)[i]? = some s → s.mine = true → ∃ s0, ρ[i]? = some s0 ∧ s0.mine = true := fun {i s} e m => by
      obtain ⟨_, _, h⟩ := mine e m
      rcases h with ⟨_, _, h⟩ | ⟨_, _, _, _, h⟩
      · exact h
      · exact h
    obtain ⟨u1, q1, q2⟩ := orig e1 m1
    obtain ⟨u2, q3, q4⟩ := orig e2 m2
    exact sr.apart i j u1 u2 a q1 q3 q2 q4 s1 s2
  · have ow1 : OwS G O' (W' ++ W.filter (fun b => decide (b ∉ wcs ps vs))) σ H' ρ := sr.ows.map fun i t v fp e ev o => (owk e ev o).2
    refine ow1.mono (fun i t e => ⟨(owb e).2, rfl⟩) fun j s a e m z => .inl ?_
    obtain ⟨b, hb, h⟩ := mine e m
    rcases h with ⟨_, _, s0, h1, h2⟩ | ⟨_, _, _, _, s0, h1, h2⟩
    · exact ⟨s0, h1, h2, z⟩
    · exact ⟨s0, h1, h2, z⟩
  · cases r with
    | sh d => exact hr
    | xn _ _ => exact hr
    | gv => exact hr
    | no => exact hr
    | byr xs => exact hr
    | own xs =>
      obtain ⟨a, ev, o, hn⟩ := hr
      exact ⟨a, ev, own' o, fr a o.1 hn⟩
    | od kvs =>
      obtain ⟨a, ev, o, hn⟩ := hr
      exact ⟨a, ev, ⟨w2.mpr (.inl o.1), o.2⟩, fr a o.1 hn⟩
    | ow t =>
      obtain ⟨fp, o, hn⟩ := hr
      exact ⟨fp, o.less (fun _ h => h) fun b hb => w2.mpr (.inl (o.sub b hb)), fun a ha => fr a (o.sub a ha) (hn a ha)⟩
theorem call_core {F : Fn} {n : Nat} {t : TA} {fl : List LOp} (hn : fl.length = n) (h : ∀ O W σ H ρ R, SR (gx X cl) vs0 O W σ H ρ → AftK (gx X cl) vs0 Wx O W σ H R (cargs fl ρ) → t σ H R) :
    ∀ O W σ H ρ Q (R : List V → Hp → Prop), SR (gx X cl) vs0 O W σ H ρ → AftE (gx X cl) vs0 Wx O W σ H Q (xCall F fl ρ) → (∀ vs H1, (spF (gx X cl) n F vs H1 Q fun c d H' => Wx c d σ H') → R vs H1) → t σ H R := by
  intro O W σ H ρ Q R sr hw hR
  refine h O W σ H ρ _ sr ?_
  have clen : ∀ {fl : List LOp} {ρ : List SD} {p : List (SD × Option Nat) × List SD}, cargs fl ρ = .ok p → p.1.length = fl.length := by
    intro fl
    induction fl with
    | nil => intro ρ p e; cases e; rfl
    | cons o fl ih =>
      intro ρ p e
      cases o with
      | va i =>
        have e : ((argOf ρ i).bind fun _ => (cargs fl ρ).bind fun p => (argOf p.2 i).bind fun s => .ok ((s, some i) :: p.1, p.2)) = .ok p := e
        cases e0 : argOf ρ i with
        | bad => rw [e0] at e; cases e
        | exc c fs ρ' => rw [e0] at e; cases e
        | ok d0 =>
          rw [e0] at e
          have e : ((cargs fl ρ).bind fun p => (argOf p.2 i).bind fun s => .ok ((s, some i) :: p.1, p.2)) = .ok p := e
          cases e1 : cargs fl ρ with
          | bad => rw [e1] at e; cases e
          | exc c fs ρ' => rw [e1] at e; cases e
          | ok q =>
            rw [e1] at e
            have e : ((argOf q.2 i).bind fun s => .ok ((s, some i) :: q.1, q.2)) = .ok p := e
            cases e2 : argOf q.2 i with
            | bad => rw [e2] at e; cases e
            | exc c fs ρ' => rw [e2] at e; cases e
            | ok d =>
              rw [e2] at e
              cases e
              exact congrArg (· + 1) (ih e1)
      | ex f =>
        have e : ((f ρ).bind fun p => (cargs fl p.2).bind fun q => .ok ((.sh p.1.frz, none) :: q.1, q.2)) = .ok p := e
        cases e0 : f ρ with
        | bad => rw [e0] at e; cases e
        | exc c fs ρ' => rw [e0] at e; cases e
        | ok d0 =>
          rw [e0] at e
          have e : ((cargs fl d0.2).bind fun q => .ok ((.sh d0.1.frz, none) :: q.1, q.2)) = .ok p := e
          cases e1 : cargs fl d0.2 with
          | bad => rw [e1] at e; cases e
          | exc c fs ρ' => rw [e1] at e; cases e
          | ok q =>
            rw [e1] at e
            cases e
            exact congrArg (· + 1) (ih e1)
  unfold xCall at hw
  cases e : cargs fl ρ with
  | bad => rw [e] at hw; exact hw
  | exc c fs ρ' => rw [e] at hw; exact hw
  | ok p =>
    have hl := clen e
    obtain ⟨ps, ρ1⟩ := p
    rw [e] at hw
    have hw : AftE (gx X cl) vs0 Wx O W σ H Q (if (lent ps).Nodup then
      match F (ps.map (·.1)) with
      | .ok (r, as') => .ok (r, backAll ps as' ρ1)
      | .exc c fs as' => .exc c fs (backAll ps as' ρ1)
      | .bad => .bad
      else .bad) := hw
    intro vs O1 W1 H1 st1 sr1 hc
    split at hw
    · rename_i nd
      refine hR _ _ ⟨by rw [← hc.len]; exact hl.trans hn, O1, _, _, call_enter sr1 hc nd, ?_⟩
      cases eF : F (ps.map (·.1)) with
      | bad => rw [eF] at hw; exact hw
      | exc c fs as' =>
        rw [eF] at hw
        intro p gs O2 W2 H2 st2 sr2 hp hf
        obtain ⟨W3, st3, sr3, _⟩ := back_step sr1 hc nd st2 sr2
        exact hw p gs O2 W3 H2 (st1.trans sr.wf st3) sr3 hp hf
      | ok q =>
        obtain ⟨r, as'⟩ := q
        rw [eF] at hw
        intro v O2 W2 H2 st2 sr2 rr
        obtain ⟨W3, st3, sr3, hr⟩ := back_step sr1 hc nd st2 sr2
        exact hw v O2 W3 H2 (st1.trans sr.wf st3) sr3 (hr v r rr)
    · exact hw.elim
variable {k : Nat} {f : Addr} {fd : FuncData} {pn : List Str} {F : Fn} {x : Str} {p pos : Pos} {e : Expr} {es : List Expr} {fl : List LOp} {n : Nat}
theorem ej_call (hF : FnOk X.prog X.w X.K X.mg X.base (L2.CX X.prog X.w) k f fd pn (spF (gx X cl) n F)) (hr : Room k X.A) (hg : Gl X x) (hm : X.mg x = some (.ref f)) (hk : PySem.W.keepIn X.K (.ref f) = true) (hb : Binds X.K fd pn []) (tk : Takes X Wx)
    (h : KJ X cl vs0 Wx (e :: es) fl) (hn : fl.length = n) (hdb : (x == ("__debug__" : Str)) = false := by decide) (he : starEach (e :: es) X.env = (false, eval e X.env) :: starEach es X.env := by rfl) (hpl : (backTo pos (starEach es X.env)).any (·.1) = false := by rfl) :
    EJ X cl vs0 Wx (.Call (.Name x p) (e :: es) [] pos) (xCall F fl) := by
  obtain ⟨ts, _, pa, q⟩ := h.ex
  refine ⟨⟨_, pe_callSD (dvs := []) (ds := []) (E := fun σ c d H => Wx c d σ H) hF hr hg hm hk hb .nil (fun σ => passAt tk σ) pa hdb he hpl, fun O W σ H ρ Q sr hw => ?_⟩⟩
  have z := call_core (F := F) hn q O W σ H ρ Q _ sr hw fun _ _ h => h
  unfold tCallSD
  simp only [List.append_nil]
  exact z
end
end Wm
end
section
namespace Wm
open PySem PySem.Spec PyProof.Rows L2
section
variable {X : Cx} {cl : Cl} {vs0 : List V} {Wx : WX}
def ownSet (ρ : List SD) (i : Nat) (xs : List D) : List SD := match ρ[i]? with
  | some (.own _) => ρ.set i (.own xs)
  | some (.byr _) => ρ.set i (.byr xs)
  | _ => ρ
def SD.like (ys : List D) : SD → SD
  | .byr _ => .byr ys
  | _ => .own ys
def ownGet (ρ : List SD) (i : Nat) : Rs (List D) := match ρ[i]? with
  | some (.own xs) => .ok xs
  | some (.byr xs) => .ok xs
  | _ => .bad
theorem ownGet_noexc {ρ : List SD} {i : Nat} {c : Str} {fs : List (Str × D)} {ρ' : List SD} : ownGet ρ i ≠ .exc c fs ρ' := by
  unfold ownGet
  split <;> exact fun z => nomatch z
theorem ownGet_at {G : Gx} {O W : List Addr} {σ : L2.St} {H : Hp} {ρ : List SD} {i : Nat} {xs : List D} (sr : SR G vs0 O W σ H ρ) (h : ownGet ρ i = .ok xs) : ∃ a, σ[i]? = some (some (.ref a)) ∧ OwnAt G O W H a xs := by
  unfold ownGet at h
  split at h
  · rename_i ys e
    cases h
    exact sr.getOwn e (.inl rfl)
  · rename_i ys e
    cases h
    exact sr.getOwn e (.inr rfl)
  · cases h
theorem SR.write {G : Gx} {O W : List Addr} {σ : L2.St} {H : Hp} {ρ : List SD} {i : Nat} {xs ys : List D} {a : Addr} {vs : List V} (sr : SR G vs0 O W σ H ρ) (h : ownGet ρ i = .ok xs) (ea : σ[i]? = some (some (.ref a))) (hl : vs.length ≤ sizeLine) (hr : RpA G O H ys vs) :
    Stp O W H O W (upd H a (.lst vs)) ∧ SR G vs0 O W σ (upd H a (.lst vs)) (ownSet ρ i ys) := by
  obtain ⟨b, eb, oW, us, h2, h3, h4⟩ := ownGet_at sr h
  rw [ea] at eb; cases eb
  have trk : ∀ b, ¬ NoD H b → ¬ NoD (upd H a (.lst vs)) b := fun b hb => noD_upd hb
  have st : Stp O W H O W (upd H a (.lst vs)) := ⟨fun b o e hb _ => by rw [upd_ne (show b ≠ a from fun z => hb (by rw [z]; exact oW))]; exact e, fun _ h => .inl h, fun _ h => .inl h, trk, fun _ h _ => h⟩
  have mine : ∃ s, ρ[i]? = some s ∧ s.mine = true ∧ (s = .own xs ∨ s = .byr xs) := by
    unfold ownGet at h
    split at h
    · rename_i zs e; cases h; exact ⟨_, e, rfl, .inl rfl⟩
    · rename_i zs e; cases h; exact ⟨_, e, rfl, .inr rfl⟩
    · cases h
  obtain ⟨s0, e0, m0, hs0⟩ := mine
  have other : ∀ {j : Nat} {s : SD} {zs : List D}, j ≠ i → ρ[j]? = some s → (s = .own zs ∨ s = .byr zs) → ∃ b, σ[j]? = some (some (.ref b)) ∧ OwnAt G O W (upd H a (.lst vs)) b zs := fun {j s zs} hj e hs => by
    obtain ⟨b, eb, h1, ws, h2', h3', h4'⟩ := sr.getOwn e hs
    have hm : s.mine = true := by rcases hs with rfl | rfl <;> rfl
    have nb : b ≠ a := fun z => by
      subst z
      exact hj (sr.apart j i s s0 b e e0 hm m0 eb ea)
    exact ⟨b, eb, h1, ws, by rw [upd_ne nb]; exact h2', h3', h4'.step sr.wf st⟩
  have il : i < ρ.length := (List.getElem?_eq_some_iff.mp e0).1
  have self : OwnAt G O W (upd H a (.lst vs)) a ys := ⟨oW, vs, upd_same, hl, hr.step sr.wf st⟩
  have os : ownSet ρ i ys = ρ.set i (s0.like ys) := by
    unfold ownSet
    rcases hs0 with rfl | rfl <;> rw [e0] <;> rfl
  rw [os]
  refine ⟨st, ⟨⟨sr.wf.sub, fun b hb => trk b (sr.wf.trk b hb)⟩, by rw [List.length_set, sr.len], fun j s e => ?_, fun j k s t b e1 e2 m1 m2 s1 s2 => ?_, ⟨tabs_but sr.tabs.tc h2 (fun b u n h => by rw [upd_ne n]; exact h), fun q hq => (sr.tabs.k q hq).step sr.wf st⟩, sr.ows.write sr.wf st e0 m0 ea (fun t z => by rcases hs0 with rfl | rfl <;> cases z)⟩⟩
  · by_cases hj : i = j
    · subst hj
      rw [List.getElem?_set_self il] at e
      rw [ea]
      rcases hs0 with rfl | rfl
      · cases e
        exact ⟨a, rfl, self⟩
      · cases e
        obtain ⟨b, q1, q2, _⟩ := sr.slot i _ e0
        rw [ea] at q1; cases q1
        exact ⟨a, rfl, q2, self⟩
    · rw [List.getElem?_set_ne hj] at e
      have q := sr.slot j s e
      cases s with
      | no => trivial
      | xn c fs => obtain ⟨a, p, gs, e, x, t, n, r⟩ := q; exact ⟨a, p, gs, e, x, (st.at sr.wf t n).1, (st.at sr.wf t n).2, RpF.step sr.wf st r⟩
      | gv => exact q
      | od kvs =>
        obtain ⟨b, q1, hb, gs, h2', h4'⟩ := q
        have nb : b ≠ a := fun z => hj (sr.apart i j _ _ a e0 e (by rcases hs0 with rfl | rfl <;> rfl) rfl ea (by rw [← z]; exact join_some q1))
        exact ⟨b, q1, hb, gs, (upd_ne nb).trans h2', RpD.step sr.wf st h4'⟩
      | sh d => obtain ⟨v, ev, r⟩ := q; exact ⟨v, ev, r.step sr.wf st⟩
      | ow _ => trivial
      | own zs =>
        obtain ⟨b, eb, ob⟩ := other (Ne.symm hj) e (.inl rfl)
        exact ⟨b, by rw [eb]; rfl, ob⟩
      | byr zs =>
        obtain ⟨b, eb, ob⟩ := other (Ne.symm hj) e (.inr rfl)
        obtain ⟨c, q1, q2, _⟩ := q
        rw [eb] at q1; cases q1
        exact ⟨b, by rw [eb]; rfl, q2, ob⟩
  · have orig : ∀ {j : Nat} {s : SD}, (ρ.set i (s0.like ys))[j]? = some s → s.mine = true → ∃ s', ρ[j]? = some s' ∧ s'.mine = true := fun {j s} e m => by
      by_cases hj : i = j
      · subst hj; exact ⟨s0, e0, m0⟩
      · rw [List.getElem?_set_ne hj] at e; exact ⟨s, e, m⟩
    obtain ⟨u1, q1, q2⟩ := orig e1 m1
    obtain ⟨u2, q3, q4⟩ := orig e2 m2
    exact sr.apart j k u1 u2 b q1 q3 q2 q4 s1 s2
def setAt (xs : List D) (k : Int) (d : D) : Option (List D) := (ixN xs.length k).map fun j => xs.set j d
def storeD (ρ : List SD) (x : Nat) (k d : D) : Rs Fl := match k with
  | .int k => (ownGet ρ x).bind fun xs => match setAt xs k d with
    | some ys => .ok (.nx (ownSet ρ x ys))
    | none => .bad
  | _ => .bad
theorem RpA.set {G : Gx} {O : List Addr} {H : Hp} {d : D} {v : V} (h : Rp G O H d v) : ∀ {ds : List D} {vs : List V} (j : Nat), RpA G O H ds vs → RpA G O H (ds.set j d) (vs.set j v)
  | [], vs, j, r => by simp only [RpA] at r; subst r; simp only [List.set_nil, RpA]
  | e :: ds, vs, 0, r => by
    simp only [RpA] at r
    obtain ⟨w, us, rfl, h1, h2⟩ := r
    simp only [List.set_cons_zero, RpA]
    exact ⟨v, us, rfl, h, h2⟩
  | e :: ds, vs, j + 1, r => by
    simp only [RpA] at r
    obtain ⟨w, us, rfl, h1, h2⟩ := r
    simp only [List.set_cons_succ, RpA]
    exact ⟨w, _, rfl, h1, RpA.set h j h2⟩
def sStore (x : Nat) (f : Sx) (o : LOp) : Ss := fun ρ => (f ρ).bind fun p => (ownGet p.2 x).bind fun _ => (ops [o] p.2).bind fun q => match q.1 with
  | [k] => storeD q.2 x k p.1.frz
  | _ => .bad
theorem sj_store {x : Nat} {ex ei e : Expr} {f : Sx} {o : LOp} {pos tpos : Pos} (hx : PE X ex (tVar x)) (hi : OJ X cl vs0 Wx [ei] [o]) (h : EJ X cl vs0 Wx e f)
    (ha : ∀ v, assign (.Subscript ex ei tpos) X.env v = (do
      let ov ← holding [v] (eval ex X.env)
      let iv ← holding [v, ov] (eval ei X.env)
      standAt tpos
      holding [v, ov, iv] (setItem ov iv v)
      release [v, ov, iv] []) := by intro _; rfl)
    (hs : swapsWithSole [.Subscript ex ei tpos] e pos.line X.env = pure false := by rfl) (hw : swappedStores [.Subscript ex ei tpos] e X.env = pure none := by rfl) (h1 : (assignEach [.Subscript ex ei tpos] X.env).map (·.2) = [assign (.Subscript ex ei tpos) X.env] := by rfl) :
    SJ X cl vs0 Wx (.Assign [.Subscript ex ei tpos] e pos) (sStore x f o) := by
  obtain ⟨t, p, q⟩ := h.ex
  obtain ⟨ti, pi, qi⟩ := one_of hi
  refine ⟨⟨_, ps_asg p (pg_sub hx pi set_list ha) hs hw h1, fun O W σ H ρ E sr hw => q O W σ H ρ _ sr (e_core sr.wf hw fun v s ρ1 O1 W1 H1 sr1 rr hk => ?_)⟩⟩
  obtain ⟨O2, W2, st2, sr2, rp⟩ := rr.frz sr1
  have hk := AftS.back sr1.wf st2 hk
  have hk : AftS (gx X cl) vs0 Wx O2 W2 H1 E ((ownGet ρ1 x).bind fun _ => (ops [o] ρ1).bind fun q => match q.1 with
    | [k] => storeD q.2 x k s.frz
    | _ => .bad) := hk
  cases eg : ownGet ρ1 x with
  | bad => rw [eg] at hk; exact hk.elim
  | exc c fs ρ' => exact absurd eg ownGet_noexc
  | ok xs0 =>
    rw [eg] at hk
    obtain ⟨a, ea, _⟩ := ownGet_at sr2 eg
    refine ⟨.ref a, ea, qi O2 W2 σ H1 ρ1 (fun vs H' => match vs with
      | [y] => rSetL (.ref a) y v H' fun H3 => E.nx σ H3
      | _ => False) sr2 ?_⟩
    have hk : AftS (gx X cl) vs0 Wx O2 W2 H1 E ((ops [o] ρ1).bind fun q => match q.1 with
      | [k] => storeD q.2 x k s.frz
      | _ => .bad) := hk
    cases eo : ops [o] ρ1 with
    | bad => rw [eo] at hk; exact hk
    | exc c fs ρ' => rw [eo] at hk; exact hk σ
    | ok w =>
      obtain ⟨ds, ρ2⟩ := w
      rw [eo] at hk
      intro vs O3 W3 H3 st3 sr3 ho
      have hk := AftS.back sr2.wf st3 hk
      cases ds with
      | nil => exact (show False from hk).elim
      | cons d ds =>
        cases ds with
        | cons _ _ => exact (show False from hk).elim
        | nil =>
          obtain ⟨y, rfl, h1⟩ := OpA.one ho
          have hk : AftS (gx X cl) vs0 Wx O3 W3 H3 E (storeD ρ2 x d s.frz) := hk
          cases d with
          | int k =>
            have hk : AftS (gx X cl) vs0 Wx O3 W3 H3 E ((ownGet ρ2 x).bind fun xs => match setAt xs k s.frz with
              | some ys => .ok (.nx (ownSet ρ2 x ys))
              | none => .bad) := hk
            cases eg2 : ownGet ρ2 x with
            | bad => rw [eg2] at hk; exact hk.elim
            | exc c fs ρ' => exact absurd eg2 ownGet_noexc
            | ok xs =>
              rw [eg2] at hk
              have hk : AftS (gx X cl) vs0 Wx O3 W3 H3 E (match setAt xs k s.frz with
                | some ys => .ok (.nx (ownSet ρ2 x ys))
                | none => .bad) := hk
              obtain ⟨b, eb, oW, us, h2, h3, h4⟩ := ownGet_at sr3 eg2
              rw [ea] at eb; cases eb
              unfold setAt at hk
              rw [h4.length] at hk
              cases ej : ixN us.length k with
              | none => rw [ej] at hk; exact hk.elim
              | some j =>
                rw [ej] at hk
                have rv := rp.step sr2.wf st3
                obtain ⟨st4, sr4⟩ := sr3.write (vs := us.set j v) eg2 ea (by rw [List.length_set]; exact h3) (h4.set rv j)
                exact ⟨a, us, k, j, rfl, h1.int, h2, ej, hk σ O3 W3 _ st4 sr4⟩
          | _ => exact hk.elim
def sApp (x : Nat) (f : Sx) : Ss := fun ρ => (ownGet ρ x).bind fun _ => (f ρ).bind fun p => (ownGet p.2 x).bind fun xs => if xs.length < sizeLine then .ok (.nx (ownSet p.2 x (xs ++ [p.1.frz]))) else .bad
theorem sj_app {x : Nat} {ex e : Expr} {f : Sx} {pos apos cpos : Pos} (hx : PE X ex (tVar x)) (h : EJ X cl vs0 Wx e f)
    (hbase : attributeBase ex "append" X.env (eval ex X.env) = eval ex X.env := by rfl)
    (hfew : ((backTo cpos (starEach [e] X.env)).all (fun x => !x.1) && (backToKw cpos (keywordEach [] X.env)).all (fun x => x.1.isSome)
      && decide ([e].length + ([] : List Keyword).length + (if ([] : List Keyword).isEmpty then 0 else 1) < 30)) = true := by rfl)
    (hline : (apos.endLine == cpos.line) = true := by rfl) (hs : starEach [e] X.env = (false, eval e X.env) :: starEach [] X.env := by rfl) (hplain : (backTo cpos (starEach [] X.env)).any (·.1) = false := by rfl)
    (hsw : swapsWith (.Call (.Attribute ex "append" apos) [e] [] cpos) none pos.line X.env = pure false := by rfl) :
    SJ X cl vs0 Wx (.Expr (.Call (.Attribute ex "append" apos) [e] [] cpos) pos) (sApp x f) := by
  obtain ⟨t, p, q⟩ := h.ex
  refine ⟨⟨_, ps_expr (pe_bm PySem.F.plainAttrs_list PySem.F.slot_list_append PySem.F.type_list_append mt_append hx (pa_cons p pa_nil hs) hbase hfew hline hs hplain) hsw, fun O W σ H ρ E sr hw => ?_⟩⟩
  unfold sApp at hw
  cases eg : ownGet ρ x with
  | bad => rw [eg] at hw; exact hw.elim
  | exc c fs ρ' => exact absurd eg ownGet_noexc
  | ok xs0 =>
    rw [eg] at hw
    obtain ⟨a, ea, oa⟩ := ownGet_at sr eg
    obtain ⟨_, us0, h20, _⟩ := oa
    refine ⟨.ref a, ea, .inl ⟨rfl, _, SqL.of h20⟩, q O W σ H ρ _ sr (e_core sr.wf hw fun v s ρ1 O1 W1 H1 sr1 rr hk => ?_)⟩
    obtain ⟨O2, W2, st2, sr2, rp⟩ := rr.frz sr1
    have hk := AftS.back sr1.wf st2 hk
    have hk : AftS (gx X cl) vs0 Wx O2 W2 H1 E ((ownGet ρ1 x).bind fun xs => if xs.length < sizeLine then .ok (.nx (ownSet ρ1 x (xs ++ [s.frz]))) else .bad) := hk
    cases eg2 : ownGet ρ1 x with
    | bad => rw [eg2] at hk; exact hk.elim
    | exc c fs ρ' => exact absurd eg2 ownGet_noexc
    | ok xs =>
      rw [eg2] at hk
      have hk : AftS (gx X cl) vs0 Wx O2 W2 H1 E (if xs.length < sizeLine then .ok (.nx (ownSet ρ1 x (xs ++ [s.frz]))) else .bad) := hk
      split at hk
      · rename_i hz
        obtain ⟨b, eb, oW, us, h2, h3, h4⟩ := ownGet_at sr2 eg2
        rw [ea] at eb; cases eb
        have hl : us.length < sizeLine := by rw [← h4.length]; exact hz
        obtain ⟨st4, sr4⟩ := sr2.write (vs := us ++ [v]) eg2 ea (by rw [List.length_append]; exact hl) (h4.snoc rp)
        exact ⟨a, us, v, rfl, rfl, h2, hl, hk σ O2 W2 _ st4 sr4⟩
      · exact hk.elim
def xCallT (F : Fn) (f : Sx) : Sx := fun ρ => (f ρ).bind fun p => match p.1 with
  | .own xs => match F [.byr xs] with
    | .ok (r, _) => .ok (r, p.2)
    | .exc c fs _ => .exc c fs p.2
    | .bad => .bad
  | _ => .bad
theorem ej_callT {k : Nat} {f : Addr} {fd : FuncData} {pn : List Str} {F : Fn} {x : Str} {p pos : Pos} {e : Expr} {fx : Sx} (hF : FnOk X.prog X.w X.K X.mg X.base (L2.CX X.prog X.w) k f fd pn (spF (gx X cl) 1 F)) (hr : Room k X.A) (hg : Gl X x) (hm : X.mg x = some (.ref f)) (hk : PySem.W.keepIn X.K (.ref f) = true) (hb : Binds X.K fd pn []) (tk : Takes X Wx)
    (h : EJ X cl vs0 Wx e fx) (hdb : (x == ("__debug__" : Str)) = false := by decide) (he : starEach [e] X.env = (false, eval e X.env) :: starEach [] X.env := by rfl) (hpl : (backTo pos (starEach [] X.env)).any (·.1) = false := by rfl) :
    EJ X cl vs0 Wx (.Call (.Name x p) [e] [] pos) (xCallT F fx) := by
  obtain ⟨t, pe, q⟩ := h.ex
  refine ⟨⟨_, pe_callSD (dvs := []) (ds := []) (E := fun σ c d H => Wx c d σ H) hF hr hg hm hk hb .nil (fun σ => passAt tk σ) (pa_cons pe pa_nil he) hdb he hpl, fun O W σ H ρ Q sr hw => ?_⟩⟩
  unfold xCallT at hw
  refine q O W σ H ρ _ sr ?_
  cases ef : fx ρ with
  | bad => rw [ef] at hw; exact hw
  | exc c fs ρ' => rw [ef] at hw; exact hw
  | ok w =>
    obtain ⟨s, ρ1⟩ := w
    rw [ef] at hw
    intro v O1 W1 H1 st1 sr1 rr
    cases s with
    | sh d => exact hw.elim
    | no => exact hw.elim
    | xn _ _ => exact hw.elim
    | gv => exact hw.elim
    | od _ => exact hw.elim
    | ow _ => exact hw.elim
    | byr xs => exact hw.elim
    | own xs =>
      have hw : AftE (gx X cl) vs0 Wx O W σ H Q (match F [.byr xs] with
        | .ok (r, _) => .ok (r, ρ1)
        | .exc c fs _ => .exc c fs ρ1
        | .bad => .bad) := hw
      obtain ⟨a, ev, oa, na⟩ := rr
      subst ev
      -- the callee's world: the list alone
      have en : SR (gx X cl) [.ref a] O1 [a] ([V.ref a].map some) H1 [.byr xs] := by
        refine ⟨⟨fun b hb => ?_, sr1.wf.trk⟩, rfl, fun i s e => ?_, fun i j s t b e1 e2 m1 m2 s1 s2 => ?_, sr1.tabs, OwS.nil fun i t e => by cases i <;> cases e⟩
        · have : b = a := by simpa using hb
          rw [this]; exact sr1.wf.sub a oa.1
        · cases i with
          | zero =>
            cases e
            exact ⟨a, rfl, rfl, by simp, oa.2⟩
          | succ i => cases e
        · cases i with
          | zero =>
            cases j with
            | zero => rfl
            | succ j => cases e2
          | succ i => cases e1
      have back : ∀ {O2 W2 : List Addr} {H2 : Hp}, Stp O1 [a] H1 O2 W2 H2 → Wf O2 W2 H2 → KT (gx X cl) O2 H2 → ∃ W3, Stp O1 W1 H1 O2 W3 H2 ∧ SR (gx X cl) vs0 O2 W3 σ H2 ρ1 ∧ (∀ b ∈ W2, b ∈ W3) ∧ ∀ b ∈ W2, Fre (gx X cl) O2 W3 σ H2 ρ1 b := fun {O2 W2 H2} st w2 tb => by
        have mW : ∀ {b : Addr}, b ∈ W2 ++ W1.filter (fun b => decide (b ≠ a)) ↔ b ∈ W2 ∨ (b ∈ W1 ∧ b ≠ a) := by
          intro b
          rw [List.mem_append, List.mem_filter, decide_eq_true_eq]
        have st3 : Stp O1 W1 H1 O2 (W2 ++ W1.filter (fun b => decide (b ≠ a))) H2 := ⟨fun b o e hb ht => st.keep b o e (fun z => hb (by rw [show b = a by simpa using z]; exact oa.1)) ht, fun b hb => by
          rcases mW.mp hb with z | z
          · rcases st.wnew b z with y | y
            · exact .inl (by rw [show b = a by simpa using y]; exact oa.1)
            · exact .inr y
          · exact .inl z.1, st.onew, st.trk, fun b hb hn => st.ofz b hb fun z => hn (by rw [show b = a by simpa using z]; exact oa.1)⟩
        have wf3 : Wf O2 (W2 ++ W1.filter (fun b => decide (b ≠ a))) H2 := ⟨fun b hb => by
          rcases mW.mp hb with z | z
          · exact w2.sub b z
          · exact st.ofz b (sr1.wf.sub b z.1) (by simpa using z.2), w2.trk⟩
        have own3 : ∀ {i : Nat} {s : SD} {zs : List D}, ρ1[i]? = some s → (s = .own zs ∨ s = .byr zs) → ∃ b, σ[i]? = some (some (.ref b)) ∧ b ≠ a ∧ OwnAt (gx X cl) O2 (W2 ++ W1.filter (fun b => decide (b ≠ a))) H2 b zs := fun {i s zs} e hs => by
          obtain ⟨b, eb, h1, us, h2, h3, h4⟩ := sr1.getOwn e hs
          have nb : b ≠ a := fun z => na.m i s e (by rcases hs with rfl | rfl <;> rfl) (by rw [← z]; exact eb)
          exact ⟨b, eb, nb, mW.mpr (.inr ⟨h1, nb⟩), us, st.keep b _ h2 (by simpa using nb) (fun _ z => by cases z), h3, h4.step en.wf st⟩
        have owk : ∀ {i : Nat} {t : OT} {v : V} {fp : List Addr}, ρ1[i]? = some (.ow t) → σ[i]? = some (some v) → OwT (gx X cl) O1 W1 H1 t v fp → OwT (gx X cl) O2 (W2 ++ W1.filter (fun b => decide (b ≠ a))) H2 t v fp := fun {i t v fp} e ev o =>
          o.go en.wf st fun b hb => by
            have nb : b ≠ a := fun z => na.t i t v fp e ev o (z ▸ hb)
            exact ⟨mW.mpr (.inr ⟨o.sub b hb, nb⟩), fun x ex => st.keep b _ ex (by simpa using nb) (fun _ z => by cases z)⟩
        refine ⟨_, st3, ⟨wf3, sr1.len, fun i s e => ?_, sr1.apart, tb, sr1.ows.map fun i t v fp e ev o => owk e ev o⟩, fun b hb => mW.mpr (.inl hb), fun b hb => ⟨fun i s e m z => ?_, fun i u v fp e ev o hb' => ?_⟩⟩
        · have qs := sr1.slot i s e
          cases s with
          | no => trivial
          | xn c fs => obtain ⟨a, p, gs, e, x, t, n, r⟩ := qs; exact ⟨a, p, gs, e, x, (st.at en.wf t n).1, (st.at en.wf t n).2, RpF.step en.wf st r⟩
          | gv => exact qs
          | od kvs =>
            obtain ⟨b, q1, hb, gs, h2, h4⟩ := qs
            have nb : b ≠ a := fun z => na.m i _ e rfl (by rw [← z]; exact join_some q1)
            exact ⟨b, q1, mW.mpr (.inr ⟨hb, nb⟩), gs, st.keep b _ h2 (by simpa using nb) (fun _ z => by cases z), RpD.step en.wf st h4⟩
          | sh d => obtain ⟨u, eu, r⟩ := qs; exact ⟨u, eu, r.step en.wf st⟩
          | ow _ => trivial
          | own zs =>
            obtain ⟨b, eb, _, ob⟩ := own3 e (.inl rfl)
            exact ⟨b, by rw [eb]; rfl, ob⟩
          | byr zs =>
            obtain ⟨b, eb, _, ob⟩ := own3 e (.inr rfl)
            obtain ⟨c, q1, q2, _⟩ := qs
            rw [eb] at q1; cases q1
            exact ⟨b, by rw [eb]; rfl, q2, ob⟩
        · obtain ⟨c, ec, h1⟩ := sr1.mineW e m
          have nc : c ≠ a := fun y => na.m i s e m (by rw [← y]; exact ec)
          rw [z] at ec
          cases ec
          rcases st.wnew b hb with y | y
          · exact nc (by simpa using y)
          · exact sr1.wf.trk b (sr1.wf.sub b h1) y
        · obtain ⟨φ, w1, _, _⟩ := sr1.ows
          obtain ⟨v', ev', o'⟩ := w1 i u e
          rw [ev] at ev'; cases ev'
          rw [OwT.det o (owk e ev o')] at hb'
          rcases st.wnew b hb with y | y
          · exact na.t i u v _ e ev o' (by rw [← show b = a by simpa using y]; exact hb')
          · exact sr1.wf.trk b (sr1.wf.sub b (o'.sub b hb')) y
      refine ⟨rfl, O1, [a], [.byr xs], en, ?_⟩
      cases eF : F [.byr xs] with
      | bad => rw [eF] at hw; exact hw
      | exc c fs as' =>
        rw [eF] at hw
        intro p gs O2 W2 H2 st2 sr2 hp hf
        obtain ⟨W3, st3, sr3, _⟩ := back st2 sr2.wf sr2.tabs
        exact hw p gs O2 W3 H2 (st1.trans sr.wf st3) sr3 hp hf
      | ok qq =>
        obtain ⟨r, as'⟩ := qq
        rw [eF] at hw
        intro u O2 W2 H2 st2 sr2 rr2
        obtain ⟨W3, st3, sr3, sub, np⟩ := back st2 sr2.wf sr2.tabs
        refine hw u O2 W3 H2 (st1.trans sr.wf st3) sr3 ?_
        cases r with
        | sh d => exact rr2
        | xn _ _ => exact rr2
        | gv => exact rr2
        | no => exact rr2
        | byr ys => exact rr2
        | own ys =>
          obtain ⟨b, eb, ob, _⟩ := rr2
          exact ⟨b, eb, ⟨sub b ob.1, ob.2⟩, np b ob.1⟩
        | od ys =>
          obtain ⟨b, eb, ob, _⟩ := rr2
          exact ⟨b, eb, ⟨sub b ob.1, ob.2⟩, np b ob.1⟩
        | ow t =>
          obtain ⟨fp, o, _⟩ := rr2
          exact ⟨fp, o.less (fun _ h => h) fun b hb => sub b (o.sub b hb), fun b hb => np b (o.sub b hb)⟩
end
end Wm
end
section
namespace Wm
open PySem PySem.Spec PyProof.Rows L2
section
variable {X : Cx} {cl : Cl} {vs0 : List V} {Wx : WX} {a b e : Expr} {pos : Pos} {fl : List LOp}
theorem lj_va {i : Nat} (h : PE X e (tVar i)) : LJ X cl vs0 Wx e (.va i) := h
theorem lj_ex {f : Sx} (h : EJ X cl vs0 Wx e f) : LJ X cl vs0 Wx e (.ex f) := h
theorem tj_lt (h : OJ X cl vs0 Wx [a, b] fl) : TJ X cl vs0 Wx (.Compare a [.Lt] [b] pos) (bT (xPrim fl pLt)) := tj_cmp op_lt (pr_I0 fun _ _ _ _ _ => by simp only [Rp]) h (nomark _)
theorem tj_gt (h : OJ X cl vs0 Wx [a, b] fl) : TJ X cl vs0 Wx (.Compare a [.Gt] [b] pos) (bT (xPrim fl pGt)) := tj_cmp op_gt (pr_I0 fun _ _ _ _ _ => by simp only [Rp]) h (nomark _)
theorem tj_ge (h : OJ X cl vs0 Wx [a, b] fl) : TJ X cl vs0 Wx (.Compare a [.GtE] [b] pos) (bT (xPrim fl pGe)) := tj_cmp op_ge (pr_I0 fun _ _ _ _ _ => by simp only [Rp]) h (nomark _)
theorem tj_eq (hu : X.A.units + 64 < cLine) (h : OJ X cl vs0 Wx [a, b] fl) : TJ X cl vs0 Wx (.Compare a [.Eq] [b] pos) (bT (xPrim fl pEq)) := tj_cmp (op_eqD hu) pr_eq h (nomark _)
theorem tj_ne (hu : X.A.units + 64 < cLine) (h : OJ X cl vs0 Wx [a, b] fl) : TJ X cl vs0 Wx (.Compare a [.NotEq] [b] pos) (bT (xPrim fl pNe)) := tj_cmp (op_neD hu) pr_ne h (nomark _)
def sPar (i j : Nat) (f g : Sx) : Ss := fun ρ => (mops [f, g] ρ).bind fun q => match q.1 with
  | [d, e] => .ok (.nx ((q.2.set i (.sh d)).set j (.sh e)))
  | _ => .bad
end
end Wm
end
section
namespace Wm
open PySem PySem.Spec PyProof.Rows L2
variable {α β : Type}
@[simp] theorem bind_bad (f : α → Rs β) : (Rs.bad : Rs α).bind f = .bad := (rfl)
@[simp] theorem bind_exc (c : Str) (fs : List (Str × D)) (ρ : List SD) (f : α → Rs β) : (Rs.exc c fs ρ : Rs α).bind f = .exc c fs ρ := (rfl)
def Rs.leave (n : Nat) : Rs Fl → Rs (SD × List SD)
  | .ok (.rt r ρ') => .ok (r, trim n ρ')
  | .ok (.nx ρ') => .ok (.sh .non, trim n ρ')
  | .exc c fs ρ' => .exc c fs (trim n ρ')
  | _ => .bad
@[simp] theorem bodyF_ap (N : Nat) (g : Ss) (as : List SD) : bodyF N g as = (g (as ++ List.replicate (N - as.length) .no)).leave as.length := by
  unfold bodyF Rs.leave
  cases g (as ++ List.replicate (N - as.length) .no) with
  | ok fl => cases fl <;> rfl
  | exc c fs ρ => rfl
  | bad => rfl
def Rs.home (ps : List (SD × Option Nat)) (ρ : List SD) : Rs (SD × List SD) → Rs (SD × List SD)
  | .ok (r, as') => .ok (r, backAll ps as' ρ)
  | .exc c fs as' => .exc c fs (backAll ps as' ρ)
  | .bad => .bad
@[simp] theorem xCall_ap (F : Fn) (fl : List LOp) (ρ : List SD) : xCall F fl ρ = (cargs fl ρ).bind fun p => if (lent p.1).Nodup then (F (p.1.map (·.1))).home p.1 p.2 else .bad := by
  unfold xCall
  refine congrArg _ (funext fun p => ?_)
  split
  · cases F (p.1.map (·.1)) with
    | ok q => rfl
    | exc c fs ρ => rfl
    | bad => rfl
  · rfl
def Rs.homeT (ρ : List SD) : Rs (SD × List SD) → Rs (SD × List SD)
  | .ok (r, _) => .ok (r, ρ)
  | .exc c fs _ => .exc c fs ρ
  | .bad => .bad
def ownArg (F : Fn) (ρ : List SD) : SD → Rs (SD × List SD)
  | .own xs => (F [.byr xs]).homeT ρ
  | _ => .bad
@[simp] theorem xCallT_ap (F : Fn) (f : Sx) (ρ : List SD) : xCallT F f ρ = (f ρ).bind fun p => ownArg F p.2 p.1 := by
  unfold xCallT
  refine congrArg _ (funext fun p => ?_)
  cases p.1 with
  | own xs =>
    dsimp only
    show _ = (F [.byr xs]).homeT p.2
    cases F [.byr xs] with
    | ok q => rfl
    | exc c fs ρ => rfl
    | bad => rfl
  | sh d => rfl
  | no => rfl
  | byr xs => rfl
  | xn _ _ => rfl
  | gv => rfl
  | od _ => rfl
  | ow _ => rfl
def Fl.next (h : Ss) : Fl → Rs Fl
  | .nx ρ' => h ρ'
  | fl => .ok fl
@[simp] theorem sSeq_ap (g h : Ss) (ρ : List SD) : sSeq g h ρ = (g ρ).bind (Fl.next h) := by
  unfold sSeq
  refine congrArg _ (funext fun fl => ?_)
  cases fl <;> rfl
@[simp] theorem sNil_ap (ρ : List SD) : sNil ρ = .ok (.nx ρ) := (rfl)
@[simp] theorem sEx_ap (f : Sx) (ρ : List SD) : sEx f ρ = (f ρ).bind fun p => .ok (.nx p.2) := (rfl)
@[simp] theorem sSet_ap (i : Nat) (f : Sx) (ρ : List SD) : sSet i f ρ = (f ρ).bind fun p => .ok (.nx (p.2.set i p.1)) := (rfl)
@[simp] theorem sRet_ap (f : Sx) (ρ : List SD) : sRet f ρ = (f ρ).bind fun p => .ok (.rt p.1 p.2) := (rfl)
def retV (i : Nat) (ρ : List SD) : Option SD → Rs Fl
  | some (.sh d) => .ok (.rt (.sh d) ρ)
  | some (.own xs) => .ok (.rt (.own xs) (ρ.set i .no))
  | some (.byr xs) => .ok (.rt (.sh (.lst xs)) (ρ.set i (.sh (.lst xs))))
  | some (.od kvs) => .ok (.rt (.od kvs) (ρ.set i .no))
  | some (.ow t) => .ok (.rt (.ow t) (ρ.set i .no))
  | _ => .bad
@[simp] theorem sRetV_ap (i : Nat) (ρ : List SD) : sRetV i ρ = retV i ρ ρ[i]? := by
  unfold sRetV retV
  split <;> first | rfl | (split <;> first | rfl | simp_all)
@[simp] theorem sIf_ap (t : Sb) (g h : Ss) (ρ : List SD) : sIf t g h ρ = (t ρ).bind fun p => if p.1 then g p.2 else h p.2 := (rfl)
@[simp] theorem xIf_ap (t : Sb) (f g : Sx) (ρ : List SD) : xIf t f g ρ = (t ρ).bind fun p => if p.1 then f p.2 else g p.2 := (rfl)
@[simp] theorem xC_ap (d : D) (ρ : List SD) : xC d ρ = .ok (.sh d, ρ) := (rfl)
def varV (i : Nat) (ρ : List SD) : Option SD → Rs (SD × List SD)
  | some (.sh d) => .ok (.sh d, ρ)
  | some (.own xs) => .ok (.sh (.lst xs), ρ.set i (.sh (.lst xs)))
  | some (.byr xs) => .ok (.sh (.lst xs), ρ.set i (.sh (.lst xs)))
  | some (.od kvs) => .ok (.sh (.dct kvs), ρ.set i (.sh (.dct kvs)))
  | some (.ow t) => .ok (.sh t.dt, ρ.set i (.sh t.dt))
  | _ => .bad
@[simp] theorem xVar_ap (i : Nat) (ρ : List SD) : xVar i ρ = varV i ρ ρ[i]? := by
  unfold xVar varV
  split <;> first | rfl | (split <;> first | rfl | simp_all)
def lookO : Option SD → Rs D
  | some (.sh d) => .ok d
  | some (.own xs) => .ok (.lst xs)
  | some (.byr xs) => .ok (.lst xs)
  | _ => .bad
@[simp] theorem lookD_ap (ρ : List SD) (i : Nat) : lookD ρ i = lookO ρ[i]? := by
  unfold lookD lookO
  split <;> first | rfl | (split <;> first | rfl | simp_all)
def argO : Option SD → Rs SD
  | some (.sh d) => .ok (.sh d)
  | some (.own xs) => .ok (.byr xs)
  | some (.byr xs) => .ok (.byr xs)
  | _ => .bad
@[simp] theorem argOf_ap (ρ : List SD) (i : Nat) : argOf ρ i = argO ρ[i]? := by
  unfold argOf argO
  split <;> first | rfl | (split <;> first | rfl | simp_all)
@[simp] theorem ops_nil (ρ : List SD) : ops [] ρ = .ok ([], ρ) := (rfl)
@[simp] theorem ops_va (i : Nat) (r : List LOp) (ρ : List SD) : ops (.va i :: r) ρ = (lookD ρ i).bind fun _ => (ops r ρ).bind fun p => (lookD p.2 i).bind fun d => .ok (d :: p.1, p.2) := (rfl)
@[simp] theorem ops_ex (f : Sx) (r : List LOp) (ρ : List SD) : ops (.ex f :: r) ρ = (f ρ).bind fun p => (ops r p.2).bind fun q => .ok (p.1.frz :: q.1, q.2) := (rfl)
@[simp] theorem cargs_nil (ρ : List SD) : cargs [] ρ = .ok ([], ρ) := (rfl)
@[simp] theorem cargs_va (i : Nat) (r : List LOp) (ρ : List SD) : cargs (.va i :: r) ρ = (argOf ρ i).bind fun _ => (cargs r ρ).bind fun p => (argOf p.2 i).bind fun s => .ok ((s, some i) :: p.1, p.2) := (rfl)
@[simp] theorem cargs_ex (f : Sx) (r : List LOp) (ρ : List SD) : cargs (.ex f :: r) ρ = (f ρ).bind fun p => (cargs r p.2).bind fun q => .ok ((.sh p.1.frz, none) :: q.1, q.2) := (rfl)
@[simp] theorem mops_nil (ρ : List SD) : mops [] ρ = .ok ([], ρ) := (rfl)
@[simp] theorem mops_cons (f : Sx) (r : List Sx) (ρ : List SD) : mops (f :: r) ρ = (f ρ).bind fun p => (mops r p.2).bind fun q => .ok (p.1.frz :: q.1, q.2) := (rfl)
@[simp] theorem xPrim_ap (fl : List LOp) (p : List D → Rs SD) (ρ : List SD) : xPrim fl p ρ = (ops fl ρ).bind fun q => (p q.1).fin q.2 := (rfl)
@[simp] theorem xLst_ap (fs : List Sx) (ρ : List SD) : xLst fs ρ = (mops fs ρ).bind fun q => if q.1.length ≤ sizeLine then .ok (.own q.1, q.2) else .bad := (rfl)
@[simp] theorem xTup_ap (fs : List Sx) (ρ : List SD) : xTup fs ρ = (mops fs ρ).bind fun q => if q.1.length ≤ sizeLine then .ok (.sh (.tup q.1), q.2) else .bad := (rfl)
@[simp] theorem bT_ap (f : Sx) (ρ : List SD) : bT f ρ = (f ρ).tst := (rfl)
def truL (ρ : List SD) : List D → Rs (Bool × List SD)
  | [d] => match truD d with
    | some b => .ok (b, ρ)
    | none => .bad
  | _ => .bad
@[simp] theorem bTru_ap (fl : List LOp) (ρ : List SD) : bTru fl ρ = (ops fl ρ).bind fun q => truL q.2 q.1 := by
  unfold bTru truL
  congr 1
@[simp] theorem bAnd_ap (f g : Sb) (ρ : List SD) : bAnd f g ρ = (f ρ).bind fun p => if p.1 then g p.2 else .ok (false, p.2) := (rfl)
@[simp] theorem bOr_ap (f g : Sb) (ρ : List SD) : bOr f g ρ = (f ρ).bind fun p => if p.1 then .ok (true, p.2) else g p.2 := (rfl)
@[simp] theorem bNot_ap (f : Sb) (ρ : List SD) : bNot f ρ = (f ρ).bind fun p => .ok (!p.1, p.2) := (rfl)
@[simp] theorem xAnd_ap (f g : Sx) (ρ : List SD) : xAnd f g ρ = (f ρ).tst.bind fun p => if p.1 then g p.2 else .ok (.sh (.bl false), p.2) := (rfl)
@[simp] theorem xOr_ap (f g : Sx) (ρ : List SD) : xOr f g ρ = (f ρ).tst.bind fun p => if p.1 then .ok (.sh (.bl true), p.2) else g p.2 := (rfl)
@[simp] theorem xNot_ap (f : Sx) (ρ : List SD) : xNot f ρ = (f ρ).tst.bind fun p => .ok (.sh (.bl (!p.1)), p.2) := (rfl)
def par2 (i j : Nat) (ρ : List SD) : List D → Rs Fl
  | [d, e] => .ok (.nx ((ρ.set i (.sh d)).set j (.sh e)))
  | _ => .bad
@[simp] theorem sPar_ap (i j : Nat) (f g : Sx) (ρ : List SD) : sPar i j f g ρ = (mops [f, g] ρ).bind fun q => par2 i j q.2 q.1 := by
  unfold sPar par2
  congr 1
def ownO : Option SD → Rs (List D)
  | some (.own xs) => .ok xs
  | some (.byr xs) => .ok xs
  | _ => .bad
@[simp] theorem ownGet_ap (ρ : List SD) (i : Nat) : ownGet ρ i = ownO ρ[i]? := by
  unfold ownGet ownO
  split <;> first | rfl | (split <;> first | rfl | simp_all)
def ownP (ρ : List SD) (i : Nat) (xs : List D) : Option SD → List SD
  | some (.own _) => ρ.set i (.own xs)
  | some (.byr _) => ρ.set i (.byr xs)
  | _ => ρ
@[simp] theorem ownSet_ap (ρ : List SD) (i : Nat) (xs : List D) : ownSet ρ i xs = ownP ρ i xs ρ[i]? := by
  unfold ownSet ownP
  split <;> first | rfl | (split <;> first | rfl | simp_all)
def putO (ρ : List SD) (x : Nat) : Option (List D) → Rs Fl
  | some ys => .ok (.nx (ownSet ρ x ys))
  | none => .bad
@[simp] theorem storeD_int (ρ : List SD) (x : Nat) (k : Int) (d : D) : storeD ρ x (.int k) d = (ownGet ρ x).bind fun xs => putO ρ x (setAt xs k d) := by
  unfold storeD putO
  congr 1
def storeL (x : Nat) (d : D) (ρ : List SD) : List D → Rs Fl
  | [k] => storeD ρ x k d
  | _ => .bad
@[simp] theorem sStore_ap (x : Nat) (f : Sx) (o : LOp) (ρ : List SD) : sStore x f o ρ = (f ρ).bind fun p => (ownGet p.2 x).bind fun _ => (ops [o] p.2).bind fun q => storeL x p.1.frz q.2 q.1 := by
  unfold sStore storeL
  congr 1
@[simp] theorem sApp_ap (x : Nat) (f : Sx) (ρ : List SD) : sApp x f ρ = (ownGet ρ x).bind fun _ => (f ρ).bind fun p => (ownGet p.2 x).bind fun xs => if xs.length < sizeLine then .ok (.nx (ownSet p.2 x (xs ++ [p.1.frz]))) else .bad := (rfl)
def tupD (is : List Nat) (ρ : List SD) : SD → Rs Fl
  | .sh (.tup ds) => (setAll is ds ρ).bind fun ρ' => .ok (.nx ρ')
  | _ => .bad
@[simp] theorem sTup_ap (is : List Nat) (f : Sx) (ρ : List SD) : sTup is f ρ = (f ρ).bind fun p => tupD is p.2 p.1 := by
  unfold sTup tupD
  congr 1
def Fl.turn (k : List SD → Rs Fl) : Fl → Rs Fl
  | .nx ρ2 => k ρ2
  | .ct ρ2 => k ρ2
  | .bk ρ2 => .ok (.nx ρ2)
  | .rt r ρ2 => .ok (.rt r ρ2)
def forT (body : Ss) (k : List SD → Rs Fl) : Option (List SD) → Rs Fl
  | some ρ1 => (body ρ1).bind (Fl.turn k)
  | none => .bad
@[simp] theorem forL_nil (st : Tg) (body : Ss) (ρ : List SD) : forL st body [] ρ = .ok (.nx ρ) := (rfl)
@[simp] theorem forL_cons (st : Tg) (body : Ss) (d : D) (ds : List D) (ρ : List SD) : forL st body (d :: ds) ρ = forT body (forL st body ds) (st d ρ) := by
  rw [forL]
  cases st d ρ with
  | none => rfl
  | some ρ1 =>
    dsimp only
    show _ = (body ρ1).bind _
    refine congrArg _ (funext fun fl => ?_)
    cases fl <;> rfl
noncomputable def forS (st : Tg) (body : Ss) (ρ : List SD) (m : Itm) : Rs Fl := match m.bor with
  | [] => forL st body m.xs ρ
  | bs => if bs.all (fun b => b.2.isByr) then forK m st body m.xs ρ else .bad
@[simp] theorem forS_byr (st : Tg) (body : Ss) (ρ : List SD) (xs ys : List D) (i : Nat) : forS st body ρ ⟨xs, [(i, .byr ys)]⟩ = forK ⟨xs, [(i, .byr ys)]⟩ st body xs ρ := (rfl)
@[simp] theorem forK_nil (m : Itm) (st : Tg) (body : Ss) (ρ : List SD) : forK m st body [] ρ = if m.keep ρ then .ok (.nx ρ) else .bad := (rfl)
@[simp] theorem forK_cons (m : Itm) (st : Tg) (body : Ss) (d : D) (ds : List D) (ρ : List SD) : forK m st body (d :: ds) ρ = if m.keep ρ then forT body (forK m st body ds) (st d ρ) else .bad := by
  rw [forK]
  split
  · cases st d ρ with
    | none => rfl
    | some ρ1 =>
      dsimp only
      show _ = (body ρ1).bind _
      refine congrArg _ (funext fun fl => ?_)
      cases fl <;> rfl
  · rfl
def conG (i : Nat) (ρ : List SD) : Option SD → Rs (Itm × List SD)
  | some (.sh d) => (itemsOf d).bind fun xs => .ok (⟨xs, []⟩, ρ)
  | some (.own xs) => .ok (⟨xs, []⟩, ρ.set i (.sh (.lst xs)))
  | some (.byr xs) => .ok (⟨xs, [(i, .byr xs)]⟩, ρ)
  | _ => .bad
@[simp] theorem conF_ap (i : Nat) (ρ : List SD) : conF i ρ = conG i ρ ρ[i]? := by
  unfold conF conG
  split <;> first | rfl | (split <;> first | rfl | simp_all)
@[simp] theorem conG_sh (i : Nat) (ρ : List SD) (d : D) : conG i ρ (some (.sh d)) = (itemsOf d).bind fun xs => .ok (⟨xs, []⟩, ρ) := (rfl)
@[simp] theorem conG_own (i : Nat) (ρ : List SD) (d : List D) : conG i ρ (some (.own d)) = .ok (⟨d, []⟩, ρ.set i (.sh (.lst d))) := (rfl)
@[simp] theorem conG_byr (i : Nat) (ρ : List SD) (d : List D) : conG i ρ (some (.byr d)) = .ok (⟨d, [(i, .byr d)]⟩, ρ) := (rfl)
@[simp] theorem forS_nil (st : Tg) (body : Ss) (ρ : List SD) (xs : List D) : forS st body ρ ⟨xs, []⟩ = forL st body xs ρ := (rfl)
@[simp] theorem sFor_ap (src : Src) (st : Tg) (body : Ss) (ρ : List SD) : sFor src st body ρ = (src ρ).bind fun p => forS st body p.2 p.1 := (rfl)
@[simp] theorem con_ex (f : Sx) (ρ : List SD) : con (.ex f) ρ = (f ρ).bind fun p => (itemsOf p.1.frz).bind fun xs => .ok (⟨xs, []⟩, p.2) := (rfl)
def conO (i : Nat) (ρ : List SD) : Option SD → Rs (Itm × List SD)
  | some (.sh d) => (itemsOf d).bind fun xs => .ok (⟨xs, []⟩, ρ)
  | some (.own xs) => .ok (⟨xs, [(i, .own xs)]⟩, ρ)
  | some (.byr xs) => .ok (⟨xs, [(i, .byr xs)]⟩, ρ)
  | _ => .bad
@[simp] theorem con_va (i : Nat) (ρ : List SD) : con (.va i) ρ = conO i ρ ρ[i]? := by
  unfold con conV conO
  split <;> first | rfl | (split <;> first | rfl | simp_all)
@[simp] theorem enumS_ap (src : Src) (ρ : List SD) : enumS src ρ = (src ρ).bind fun p => .ok (⟨enumD p.1.xs, p.1.bor⟩, p.2) := (rfl)
@[simp] theorem srcZip_ap (o o2 : LOp) (ρ : List SD) : srcZip o o2 ρ = (con o ρ).bind fun p => (con o2 p.2).bind fun q => if p.1.keep q.2 then .ok (⟨zipD p.1.xs q.1.xs, p.1.bor ++ q.1.bor⟩, q.2) else .bad := (rfl)
@[simp] theorem srcRng1_ap (fl : List LOp) (ρ : List SD) : srcRng1 fl ρ = (ops fl ρ).bind fun q => rng1 q.2 q.1 := (rfl)
@[simp] theorem srcRng2_ap (fl : List LOp) (ρ : List SD) : srcRng2 fl ρ = (ops fl ρ).bind fun q => rng2 q.2 q.1 := (rfl)
@[simp] theorem keep_nil (xs : List D) (ρ : List SD) : Itm.keep ⟨xs, []⟩ ρ ↔ True := ⟨fun _ => trivial, fun _ p hp => absurd hp (by simp)⟩
@[simp] theorem keep_cons (xs : List D) (i : Nat) (s : SD) (r : List (Nat × SD)) (ρ : List SD) : Itm.keep ⟨xs, (i, s) :: r⟩ ρ ↔ ρ[i]? = some s ∧ Itm.keep ⟨xs, r⟩ ρ := by
  unfold Itm.keep
  simp
def lcBack (vs : List Nat) (ρ : List SD) : Rs (List D × List SD) → Rs (SD × List SD)
  | .ok (ds, ρ') => .ok (.own ds, backR ρ ρ' vs)
  | _ => .bad
noncomputable def lcGo (st : Tg) (test : Sb) (elt : Sx) (vs : List Nat) (m : Itm) (ρ : List SD) : Rs (SD × List SD) := if m.keep (wipeR ρ vs) ∧ (∀ b ∈ m.bor, b.1 ∉ vs) then lcBack vs ρ (lcL m st test elt vs m.xs (wipeR ρ vs)) else .bad
@[simp] theorem xLc_ap (src : Src) (st : Tg) (test : Sb) (elt : Sx) (vs : List Nat) (ρ : List SD) : xLc src st test elt vs ρ = (src ρ).bind fun p => lcGo st test elt vs p.1 p.2 := by
  unfold xLc lcGo
  refine congrArg _ (funext fun p => ?_)
  split
  · unfold lcBack
    rfl
  · rfl
noncomputable def lcElt (m : Itm) (vs : List Nat) (k : List SD → Rs (List D × List SD)) : Rs (SD × List SD) → Rs (List D × List SD)
  | .ok (r, ρ3) => if m.keep (wipeR ρ3 vs) then (k (wipeR ρ3 vs)).bind fun q => .ok (r.frz :: q.1, q.2) else .bad
  | _ => .bad
noncomputable def lcTest (m : Itm) (elt : Sx) (vs : List Nat) (k : List SD → Rs (List D × List SD)) : Rs (Bool × List SD) → Rs (List D × List SD)
  | .ok (true, ρ2) => lcElt m vs k (elt ρ2)
  | .ok (false, ρ2) => if m.keep (wipeR ρ2 vs) then k (wipeR ρ2 vs) else .bad
  | _ => .bad
noncomputable def lcTg (m : Itm) (test : Sb) (elt : Sx) (vs : List Nat) (k : List SD → Rs (List D × List SD)) : Option (List SD) → Rs (List D × List SD)
  | some ρ1 => lcTest m elt vs k (test ρ1)
  | none => .bad
@[simp] theorem lcL_nil (m : Itm) (st : Tg) (test : Sb) (elt : Sx) (vs : List Nat) (ρ : List SD) : lcL m st test elt vs [] ρ = .ok ([], ρ) := (rfl)
@[simp] theorem lcL_cons (m : Itm) (st : Tg) (test : Sb) (elt : Sx) (vs : List Nat) (d : D) (ds : List D) (ρ : List SD) : lcL m st test elt vs (d :: ds) ρ = lcTg m test elt vs (lcL m st test elt vs ds) (st d ρ) := by
  rw [lcL]
  cases st d ρ with
  | none => rfl
  | some ρ1 =>
    dsimp only
    show _ = lcTest m elt vs _ (test ρ1)
    cases test ρ1 with
    | bad => rfl
    | exc c fs ρ => rfl
    | ok p =>
      obtain ⟨b, ρ2⟩ := p
      cases b with
      | false => rfl
      | true =>
        show _ = lcElt m vs _ (elt ρ2)
        dsimp only
        cases elt ρ2 with
        | bad => rfl
        | exc c fs ρ => rfl
        | ok q => rfl
end Wm
end
section
namespace Wm
open PySem PySem.Spec PyProof.Rows L2
theorem law_sp {K : PySem.W.Frag} {cl : Cl} {F : Fn} {H : Hp} {a : Addr} {ns : List Int} (hl : ns.length ≤ 63) (hS : SqL K H a (ns.map V.int)) (hT : KT (gk K cl) [] H) (hF : ∃ ρ, F [.sh (.scr ns)] = .ok (.sh (.bl true), ρ)) :
    spF (gk K cl) 1 F [.ref a] H (fun v _ => v = .bl true) fun _ _ _ => False := by
  obtain ⟨ρ, e⟩ := hF
  refine ⟨rfl, [], [], [.sh (.scr ns)], ⟨⟨fun _ h => h, fun _ h => absurd h (by simp)⟩, rfl, fun i s h => ?_, fun i j s t b h1 h2 m1 m2 _ _ => ?_, hT, OwS.nil fun i t e => by cases i <;> cases e⟩, ?_⟩
  · match i, h with
    | 0, h =>
      cases h
      refine ⟨.ref a, rfl, ?_⟩
      simp only [Rp]
      refine ⟨a, rfl, ?_, ?_⟩
      · rw [List.length_map]
        exact Nat.le_trans hl (by decide)
      · rcases hS with h | h
        · exact .inl ⟨h, by simp⟩
        · exact .inr h
    | i + 1, h => cases h
  · match i, h1 with
    | 0, h1 => cases h1; cases m1
    | i + 1, h1 => cases h1
  · rw [e]
    intro v O' W' H' _ _ r
    exact r
theorem law_cx {P : Program} {w : World} (H : Hp) (s : Shared) (e : Value) (s' : Shared) (h : L2.CX P w [] H s (fun _ _ _ => False) e s') : False := by
  obtain ⟨_, _, _, _, _, _, _, _, _, _, _, _, z⟩ := h
  exact z
end Wm
end
section
namespace Wm
open PySem PySem.Spec PyProof.Rows L2
variable {α β : Type}
@[simp] theorem bind_ok (a : α) (f : α → Rs β) : (Rs.ok a).bind f = f a := (rfl)
@[simp] theorem leave_rt (n : Nat) (r : SD) (ρ : List SD) : Rs.leave n (.ok (.rt r ρ)) = .ok (r, trim n ρ) := (rfl)
@[simp] theorem leave_nx (n : Nat) (ρ : List SD) : Rs.leave n (.ok (.nx ρ)) = .ok (.sh .non, trim n ρ) := (rfl)
@[simp] theorem home_ok (ps : List (SD × Option Nat)) (ρ : List SD) (r : SD) (as : List SD) : Rs.home ps ρ (.ok (r, as)) = .ok (r, backAll ps as ρ) := (rfl)
@[simp] theorem homeT_ok (ρ : List SD) (r : SD) (as : List SD) : Rs.homeT ρ (.ok (r, as)) = .ok (r, ρ) := (rfl)
@[simp] theorem ownArg_own (F : Fn) (ρ : List SD) (xs : List D) : ownArg F ρ (.own xs) = (F [.byr xs]).homeT ρ := (rfl)
@[simp] theorem next_nx (h : Ss) (ρ : List SD) : Fl.next h (.nx ρ) = h ρ := (rfl)
@[simp] theorem next_rt (h : Ss) (r : SD) (ρ : List SD) : Fl.next h (.rt r ρ) = .ok (.rt r ρ) := (rfl)
@[simp] theorem turn_nx (k : List SD → Rs Fl) (ρ : List SD) : Fl.turn k (.nx ρ) = k ρ := (rfl)
@[simp] theorem turn_rt (k : List SD → Rs Fl) (r : SD) (ρ : List SD) : Fl.turn k (.rt r ρ) = .ok (.rt r ρ) := (rfl)
@[simp] theorem retV_sh (i : Nat) (ρ : List SD) (d : D) : retV i ρ (some (.sh d)) = .ok (.rt (.sh d) ρ) := (rfl)
@[simp] theorem retV_own (i : Nat) (ρ : List SD) (d : List D) : retV i ρ (some (.own d)) = .ok (.rt (.own d) (ρ.set i .no)) := (rfl)
@[simp] theorem varV_sh (i : Nat) (ρ : List SD) (d : D) : varV i ρ (some (.sh d)) = .ok (.sh d, ρ) := (rfl)
@[simp] theorem varV_own (i : Nat) (ρ : List SD) (d : List D) : varV i ρ (some (.own d)) = .ok (.sh (.lst d), ρ.set i (.sh (.lst d))) := (rfl)
@[simp] theorem varV_byr (i : Nat) (ρ : List SD) (d : List D) : varV i ρ (some (.byr d)) = .ok (.sh (.lst d), ρ.set i (.sh (.lst d))) := (rfl)
@[simp] theorem lookO_sh (d : D) : lookO (some (.sh d)) = .ok d := (rfl)
@[simp] theorem lookO_own (d : List D) : lookO (some (.own d)) = .ok (.lst d) := (rfl)
@[simp] theorem lookO_byr (d : List D) : lookO (some (.byr d)) = .ok (.lst d) := (rfl)
@[simp] theorem argO_sh (d : D) : argO (some (.sh d)) = .ok (.sh d) := (rfl)
@[simp] theorem argO_own (d : List D) : argO (some (.own d)) = .ok (.byr d) := (rfl)
@[simp] theorem argO_byr (d : List D) : argO (some (.byr d)) = .ok (.byr d) := (rfl)
@[simp] theorem ownO_own (d : List D) : ownO (some (.own d)) = .ok d := (rfl)
@[simp] theorem ownO_byr (d : List D) : ownO (some (.byr d)) = .ok d := (rfl)
@[simp] theorem ownP_own (ρ : List SD) (i : Nat) (xs d : List D) : ownP ρ i xs (some (.own d)) = ρ.set i (.own xs) := (rfl)
@[simp] theorem ownP_byr (ρ : List SD) (i : Nat) (xs d : List D) : ownP ρ i xs (some (.byr d)) = ρ.set i (.byr xs) := (rfl)
@[simp] theorem putO_some (ρ : List SD) (i : Nat) (ys : List D) : putO ρ i (some ys) = .ok (.nx (ownSet ρ i ys)) := (rfl)
@[simp] theorem storeL_one (x : Nat) (d k : D) (ρ : List SD) : storeL x d ρ [k] = storeD ρ x k d := (rfl)
@[simp] theorem conO_sh (i : Nat) (ρ : List SD) (d : D) : conO i ρ (some (.sh d)) = (itemsOf d).bind fun xs => .ok (⟨xs, []⟩, ρ) := (rfl)
@[simp] theorem conO_own (i : Nat) (ρ : List SD) (d : List D) : conO i ρ (some (.own d)) = .ok (⟨d, [(i, .own d)]⟩, ρ) := (rfl)
@[simp] theorem conO_byr (i : Nat) (ρ : List SD) (d : List D) : conO i ρ (some (.byr d)) = .ok (⟨d, [(i, .byr d)]⟩, ρ) := (rfl)
@[simp] theorem items_lst (xs : List D) : itemsOf (.lst xs) = .ok xs := (rfl)
@[simp] theorem items_tup (xs : List D) : itemsOf (.tup xs) = .ok xs := (rfl)
@[simp] theorem frz_sh (d : D) : (SD.sh d).frz = d := (rfl)
@[simp] theorem frz_own (d : List D) : (SD.own d).frz = .lst d := (rfl)
@[simp] theorem fin_sh (ρ : List SD) (d : D) : Rs.fin ρ (.ok (.sh d)) = .ok (.sh d, ρ) := (rfl)
@[simp] theorem fin_own (ρ : List SD) (d : List D) : Rs.fin ρ (.ok (.own d)) = .ok (.own d, ρ) := (rfl)
@[simp] theorem fin_bad (ρ : List SD) : Rs.fin ρ .bad = .bad := (rfl)
@[simp] theorem tst_ok (b : Bool) (ρ : List SD) : Rs.tst (.ok (.sh (.bl b), ρ)) = .ok (b, ρ) := (rfl)
@[simp] theorem par2_two (i j : Nat) (ρ : List SD) (d e : D) : par2 i j ρ [d, e] = .ok (.nx ((ρ.set i (.sh d)).set j (.sh e))) := (rfl)
@[simp] theorem forT_some (body : Ss) (k : List SD → Rs Fl) (ρ : List SD) : forT body k (some ρ) = (body ρ).bind (Fl.turn k) := (rfl)
@[simp] theorem stN_ap (i : Nat) (d : D) (ρ : List SD) : stN i d ρ = some (ρ.set i (.sh d)) := (rfl)
@[simp] theorem stT_ap (is : List Nat) (ds : List D) (ρ : List SD) : stT is (.tup ds) ρ = setO is ds ρ := (rfl)
@[simp] theorem setO_nil (ρ : List SD) : setO [] [] ρ = some ρ := (rfl)
@[simp] theorem setO_cons (i : Nat) (is : List Nat) (d : D) (ds : List D) (ρ : List SD) : setO (i :: is) (d :: ds) ρ = setO is ds (ρ.set i (.sh d)) := (rfl)
@[simp] theorem tupD_tup (is : List Nat) (ρ : List SD) (ds : List D) : tupD is ρ (.sh (.tup ds)) = (setAll is ds ρ).bind fun ρ' => .ok (.nx ρ') := (rfl)
@[simp] theorem bYes_ap (ρ : List SD) : bYes ρ = .ok (true, ρ) := (rfl)
@[simp] theorem wipeR_nil (ρ : List SD) : wipeR ρ [] = ρ := (rfl)
@[simp] theorem wipeR_cons (ρ : List SD) (v : Nat) (vs : List Nat) : wipeR ρ (v :: vs) = (wipeR ρ vs).set v .no := (rfl)
@[simp] theorem backR_nil (ρ ρ' : List SD) : backR ρ ρ' [] = ρ' := (rfl)
@[simp] theorem backR_cons (ρ ρ' : List SD) (v : Nat) (vs : List Nat) : backR ρ ρ' (v :: vs) = (backR ρ ρ' vs).set v (keptSD ρ[v]?) := (rfl)
@[simp] theorem kept_sh (d : D) : keptSD (some (.sh d)) = .sh d := (rfl)
@[simp] theorem kept_no : keptSD (some .no) = .no := (rfl)
@[simp] theorem kept_own (xs : List D) : keptSD (some (.own xs)) = .no := (rfl)
@[simp] theorem lcBack_ok (vs : List Nat) (ρ : List SD) (ds : List D) (ρ' : List SD) : lcBack vs ρ (.ok (ds, ρ')) = .ok (.own ds, backR ρ ρ' vs) := (rfl)
@[simp] theorem trim_ap0 (ρ : List SD) : trim 0 ρ = [] := (rfl)
@[simp] theorem trim_ap1 (ρ : List SD) : trim 1 ρ = [trim1 (ρ[0]?.getD .no)] := (rfl)
@[simp] theorem trim_ap2 (ρ : List SD) : trim 2 ρ = [trim1 (ρ[0]?.getD .no), trim1 (ρ[1]?.getD .no)] := (rfl)
@[simp] theorem trim_ap3 (ρ : List SD) : trim 3 ρ = [trim1 (ρ[0]?.getD .no), trim1 (ρ[1]?.getD .no), trim1 (ρ[2]?.getD .no)] := (rfl)
@[simp] theorem trim1_byr (xs : List D) : trim1 (.byr xs) = .byr xs := (rfl)
@[simp] theorem trim1_own (xs : List D) : trim1 (.own xs) = .no := (rfl)
@[simp] theorem trim1_sh (d : D) : trim1 (.sh d) = .no := (rfl)
@[simp] theorem trim1_no : trim1 .no = .no := (rfl)
@[simp] theorem pI0_ev (g : Int → Int → D) (i j : Int) : pI0 g [.int i, .int j] = .ok (.sh (g i j)) := (rfl)
@[simp] theorem pI2_ev (C : Int → Int → Prop) [∀ i j, Decidable (C i j)] (g : Int → Int → D) (i j : Int) : pI2 C g [.int i, .int j] = if C i j then .ok (.sh (g i j)) else .bad := (rfl)
@[simp] theorem pAdd_int (i j : Int) : pAdd [.int i, .int j] = .ok (.sh (.int (i + j))) := (rfl)
@[simp] theorem pNeg_ev (i : Int) : pNeg [.int i] = .ok (.sh (.int (-i))) := (rfl)
@[simp] theorem cmd_iff (i j : Int) : CMd i j ↔ j ≠ 0 := Iff.rfl
def ixO : Option D → Rs SD
  | some d => .ok (.sh d)
  | none => .bad
@[simp] theorem ixO_some (d : D) : ixO (some d) = .ok (.sh d) := (rfl)
@[simp] theorem pIx_lst (xs : List D) (i : Int) : pIx [.lst xs, .int i] = ixO (atI xs i) := by
  show (match atI xs i with | some d => _ | none => _) = _
  cases atI xs i <;> rfl
@[simp] theorem pIx_tup (xs : List D) (i : Int) : pIx [.tup xs, .int i] = ixO (atI xs i) := by
  show (match atI xs i with | some d => _ | none => _) = _
  cases atI xs i <;> rfl
theorem atI_at (xs : List D) (i : Int) (d : D) (h0 : 0 ≤ i) (h : xs[i.toNat]? = some d) : atI xs i = some d := by
  have hl := (List.getElem?_eq_some_iff.mp h).1
  unfold atI ixN
  rw [if_pos h0, if_pos (by omega)]
  simpa using h
@[simp] theorem atI_0 (a : D) (r : List D) : atI (a :: r) 0 = some a := atI_at _ _ _ (by omega) rfl
@[simp] theorem atI_1 (a b : D) (r : List D) : atI (a :: b :: r) 1 = some b := atI_at _ _ _ (by omega) rfl
@[simp] theorem atI_2 (a b c : D) (r : List D) : atI (a :: b :: c :: r) 2 = some c := atI_at _ _ _ (by omega) rfl
theorem setAt_at (xs : List D) (i : Int) (d : D) (h0 : 0 ≤ i) (h : i.toNat < xs.length) : setAt xs i d = some (xs.set i.toNat d) := by
  unfold setAt ixN
  rw [if_pos h0, if_pos (by omega)]
  rfl
@[simp] theorem setAt_0 (a d : D) (r : List D) : setAt (a :: r) 0 d = some (d :: r) := setAt_at _ _ _ (by omega) (by simp)
@[simp] theorem setAt_1 (a b d : D) (r : List D) : setAt (a :: b :: r) 1 d = some (a :: d :: r) := setAt_at _ _ _ (by omega) (by simp)
@[simp] theorem setAt_2 (a b c d : D) (r : List D) : setAt (a :: b :: c :: r) 2 d = some (a :: b :: d :: r) := setAt_at _ _ _ (by omega) (by simp)
theorem pMul_int {i j : Int} (h : IntMulOk i j) : pMul [.int i, .int j] = .ok (.sh (.int (i * j))) := by
  show (if IntMulOk i j then _ else _) = _
  rw [if_pos h]
theorem mul_okL {i j : Int} (hi : i.natAbs < 2 ^ 64) : IntMulOk i j := IntMulOk.of_left (intBits_le_iff.mpr hi)
theorem mul_okR {i j : Int} (hj : j.natAbs < 2 ^ 64) : IntMulOk i j := IntMulOk.of_right (intBits_le_iff.mpr hj)
theorem cdv_small {i j : Int} (h : j ≠ 0) (hj : j.natAbs < 2 ^ 64) : CDv i j := ⟨h, (Nat.log2_lt (by omega)).mpr (Nat.lt_of_lt_of_le hj (Nat.pow_le_pow_right (by omega) (by omega)))⟩
end Wm
end
section
namespace Wm
open PySem PySem.Spec PyProof.Rows L2
variable {S : Type} {m : Itm} {st : Tg} {test : Sb} {elt : Sx} {vs : List Nat}
@[simp] theorem lcTg_some (k : List SD → Rs (List D × List SD)) (ρ : List SD) : lcTg m test elt vs k (some ρ) = lcTest m elt vs k (test ρ) := (rfl)
@[simp] theorem lcTest_true (k : List SD → Rs (List D × List SD)) (ρ : List SD) : lcTest m elt vs k (.ok (true, ρ)) = lcElt m vs k (elt ρ) := (rfl)
@[simp] theorem lcTest_false (k : List SD → Rs (List D × List SD)) (ρ : List SD) : lcTest m elt vs k (.ok (false, ρ)) = if m.keep (wipeR ρ vs) then k (wipeR ρ vs) else .bad := (rfl)
@[simp] theorem lcElt_ok (k : List SD → Rs (List D × List SD)) (r : SD) (ρ : List SD) : lcElt m vs k (.ok (r, ρ)) = if m.keep (wipeR ρ vs) then (k (wipeR ρ vs)).bind fun q => .ok (r.frz :: q.1, q.2) else .bad := (rfl)
@[simp] theorem lcGo_ap (m : Itm) (ρ : List SD) : lcGo st test elt vs m ρ = if m.keep (wipeR ρ vs) ∧ (∀ b ∈ m.bor, b.1 ∉ vs) then lcBack vs ρ (lcL m st test elt vs m.xs (wipeR ρ vs)) else .bad := (rfl)
theorem lc_map {f : D → D} {ρ : List SD} : ∀ {ds : List D}, (∀ d ∈ ds, ∀ k, lcTg m test elt vs k (st d ρ) = (k ρ).bind fun q => .ok (f d :: q.1, q.2)) → lcL m st test elt vs ds ρ = .ok (ds.map f, ρ)
  | [], _ => rfl
  | d :: ds, h => by
    rw [lcL_cons, h d (by simp), lc_map fun d hd => h d (List.mem_cons_of_mem _ hd)]
    rfl
@[simp] theorem rng1_ev (ρ : List SD) (j : Int) : rng1 ρ [.int j] = if rngOk j ∧ j.toNat ≤ sizeLine then .ok (⟨rangeD 0 j.toNat, []⟩, ρ) else .bad := (rfl)
@[simp] theorem rng2_ev (ρ : List SD) (i j : Int) : rng2 ρ [.int i, .int j] = if rngOk i ∧ rngOk j ∧ (j - i).toNat ≤ sizeLine then .ok (⟨rangeD i (j - i).toNat, []⟩, ρ) else .bad := (rfl)
theorem rngOk_nat (n : Nat) (h : n < 2 ^ 62) : rngOk (n : Int) := ⟨by omega, by omega⟩
@[simp] theorem pList_lst (xs : List D) : pList [.lst xs] = .ok (.own xs) := (rfl)
@[simp] theorem pTuple_lst (xs : List D) : pTuple [.lst xs] = .ok (.sh (.tup xs)) := (rfl)
@[simp] theorem pTuple_tup (xs : List D) : pTuple [.tup xs] = .ok (.sh (.tup xs)) := (rfl)
@[simp] theorem pInt_int (i : Int) : pInt [.int i] = .ok (.sh (.int i)) := (rfl)
@[simp] theorem pInt_bl (b : Bool) : pInt [.bl b] = .ok (.sh (.int (if b then 1 else 0))) := (rfl)
@[simp] theorem pLen_lst (xs : List D) : pLen [.lst xs] = .ok (.sh (.int xs.length)) := (rfl)
@[simp] theorem pLen_tup (xs : List D) : pLen [.tup xs] = .ok (.sh (.int xs.length)) := (rfl)
@[simp] theorem pEq_ev (x y : D) : pEq [x, y] = if okD x && okD y then .ok (.sh (.bl (eqD x y))) else .bad := (rfl)
@[simp] theorem pNe_ev (x y : D) : pNe [x, y] = if okD x && okD y then .ok (.sh (.bl (!eqD x y))) else .bad := (rfl)
@[simp] theorem okN_int (n : Nat) (i : Int) : okN n (.int i) = true := by cases n <;> rfl
@[simp] theorem okN_bl (n : Nat) (i : Bool) : okN n (.bl i) = true := by cases n <;> rfl
@[simp] theorem okN_non (n : Nat) : okN n .non = true := by cases n <;> rfl
@[simp] theorem okN_tup (n : Nat) (xs : List D) : okN (n + 1) (.tup xs) = okNs n xs := (rfl)
@[simp] theorem okN_lst (n : Nat) (xs : List D) : okN (n + 1) (.lst xs) = okNs n xs := (rfl)
@[simp] theorem okNs_nil (n : Nat) : okNs n [] = true := by cases n <;> rfl
@[simp] theorem okNs_cons (n : Nat) (x : D) (xs : List D) : okNs n (x :: xs) = (okN n x && okNs n xs) := by cases n <;> rfl
@[simp] theorem eqD_int (i j : Int) : eqD (.int i) (.int j) = (i == j) := (rfl)
@[simp] theorem eqD_lst (xs ys : List D) : eqD (.lst xs) (.lst ys) = eqDs xs ys := (rfl)
@[simp] theorem eqD_tup (xs ys : List D) : eqD (.tup xs) (.tup ys) = eqDs xs ys := (rfl)
@[simp] theorem eqDs_nil : eqDs [] [] = true := (rfl)
@[simp] theorem eqDs_cons (x y : D) (xs ys : List D) : eqDs (x :: xs) (y :: ys) = (eqD x y && eqDs xs ys) := (rfl)
@[simp] theorem eqDs_nil_cons (y : D) (ys : List D) : eqDs [] (y :: ys) = false := (rfl)
@[simp] theorem eqDs_cons_nil (y : D) (ys : List D) : eqDs (y :: ys) [] = false := (rfl)
@[simp] theorem lent_nil : lent [] = [] := (rfl)
@[simp] theorem lent_byr (xs : List D) (i : Nat) (r : List (SD × Option Nat)) : lent ((.byr xs, some i) :: r) = i :: lent r := (rfl)
@[simp] theorem lent_sh (d : D) (o : Option Nat) (r : List (SD × Option Nat)) : lent ((.sh d, o) :: r) = lent r := (rfl)
@[simp] theorem back_nil (as ρ : List SD) : backAll [] as ρ = ρ := (rfl)
@[simp] theorem back_byr (xs : List D) (i : Nat) (r : List (SD × Option Nat)) (s : SD) (ss ρ : List SD) : backAll ((.byr xs, some i) :: r) (s :: ss) ρ = (backAll r ss ρ).set i (backS (ρ[i]?.getD .no) s) := (rfl)
@[simp] theorem back_sh (d : D) (o : Option Nat) (r : List (SD × Option Nat)) (s : SD) (ss ρ : List SD) : backAll ((.sh d, o) :: r) (s :: ss) ρ = backAll r ss ρ := (rfl)
@[simp] theorem backS_own (xs ys : List D) : backS (.own xs) (.byr ys) = .own ys := (rfl)
@[simp] theorem backS_byr (xs ys : List D) : backS (.byr xs) (.byr ys) = .byr ys := (rfl)
@[simp] theorem setAll_nil (ρ : List SD) : setAll [] [] ρ = .ok ρ := (rfl)
@[simp] theorem setAll_cons (i : Nat) (is : List Nat) (d : D) (ds : List D) (ρ : List SD) : setAll (i :: is) (d :: ds) ρ = setAll is ds (ρ.set i (.sh d)) := (rfl)
@[simp] theorem pAdd_tup (xs ys : List D) : pAdd [.tup xs, .tup ys] = if xs.length + ys.length ≤ sizeLine then .ok (.sh (.tup (xs ++ ys))) else .bad := (rfl)
@[simp] theorem pAdd_lst (xs ys : List D) : pAdd [.lst xs, .lst ys] = if xs.length + ys.length ≤ sizeLine then .ok (.own (xs ++ ys)) else .bad := (rfl)
@[simp] theorem pAdd_scr (ns : List Int) (ys : List D) : pAdd [.scr ns, .lst ys] = if ns.length + ys.length ≤ sizeLine then .ok (.own (ns.map .int ++ ys)) else .bad := (rfl)
@[simp] theorem isi_ev (t : BT) (d : D) : pIsi t [d] = match isB t d with | some b => .ok (.sh (.bl b)) | none => .bad := (rfl)
end Wm
end
section
namespace Wm
open PySem PySem.Spec PyProof.Rows L2
variable {α : Type}
theorem cut_lo (xs : List α) (i : Int) (h : 0 ≤ i) : cutL xs (some i) none = xs.drop i.toNat := by
  unfold cutL HT.sIx
  dsimp only
  rw [if_neg (by omega)]
  apply List.ext_getElem?
  intro k
  rw [List.getElem?_take]
  split
  · rename_i hk
    rw [List.getElem?_drop, List.getElem?_drop]
    by_cases h2 : i.toNat ≤ xs.length
    · rw [Nat.min_eq_left h2]
    · rw [Nat.min_eq_right (by omega)] at hk ⊢
      omega
  · rename_i hk
    rw [List.getElem?_drop]
    symm
    apply List.getElem?_eq_none
    by_cases h2 : i.toNat ≤ xs.length
    · rw [Nat.min_eq_left h2] at hk; omega
    · omega
theorem cut_hi (xs : List α) (i : Int) (h : 0 ≤ i) : cutL xs none (some i) = xs.take i.toNat := by
  unfold cutL HT.sIx
  dsimp only
  rw [if_neg (by omega), List.drop_zero, Nat.sub_zero]
  by_cases h2 : i.toNat ≤ xs.length
  · rw [Nat.min_eq_left h2]
  · rw [Nat.min_eq_right (by omega), List.take_of_length_le (Nat.le_refl _), List.take_of_length_le (by omega)]
theorem slLo_lst (xs : List D) (i : Int) (h : 0 ≤ i) : pSlLo [.lst xs, .int i] = .ok (.own (xs.drop i.toNat)) := by
  show Rs.ok (SD.own (cutL xs (some i) none)) = _
  rw [cut_lo xs i h]
theorem slLo_tup (xs : List D) (i : Int) (h : 0 ≤ i) : pSlLo [.tup xs, .int i] = .ok (.sh (.tup (xs.drop i.toNat))) := by
  show Rs.ok (SD.sh (.tup (cutL xs (some i) none))) = _
  rw [cut_lo xs i h]
theorem slHi_lst (xs : List D) (i : Int) (h : 0 ≤ i) : pSlHi [.lst xs, .int i] = .ok (.own (xs.take i.toNat)) := by
  show Rs.ok (SD.own (cutL xs none (some i))) = _
  rw [cut_hi xs i h]
theorem slHi_tup (xs : List D) (i : Int) (h : 0 ≤ i) : pSlHi [.tup xs, .int i] = .ok (.sh (.tup (xs.take i.toNat))) := by
  show Rs.ok (SD.sh (.tup (cutL xs none (some i)))) = _
  rw [cut_hi xs i h]
@[simp] theorem rangeD_0 (n : Nat) : rangeD 0 n = (List.range n).map fun (k : Nat) => D.int k := by
  unfold rangeD
  exact List.map_congr_left fun k _ => by rw [Int.zero_add]
section
variable {S : Type} {m : Itm} {st : Tg} {test : Sb} {elt : Sx} {vs : List Nat}
end
def rw (m : Nat) (f : Nat → Int) : D := .tup ((List.range m).map fun j => .int (f j))
def gr (m : Nat) (A : Nat → Nat → Int) : List D := (List.range m).map fun i => rw m (A i)
theorem gr_len (m : Nat) (A : Nat → Nat → Int) : (gr m A).length = m := by simp [gr]
theorem rg_get {α : Type} {m j : Nat} {f : Nat → α} (h : j < m) : ((List.range m).map f)[j]? = some (f j) := by
  rw [List.getElem?_map, List.getElem?_range h]
  rfl
theorem rg_of {α : Type} {m : Nat} {xs : List α} {f : Nat → α} (hl : xs.length = m) (h : ∀ i, i < m → xs[i]? = some (f i)) : xs = (List.range m).map f := by
  apply List.ext_getElem?
  intro i
  by_cases hi : i < m
  · rw [h i hi, rg_get hi]
  · rw [List.getElem?_eq_none (by omega), List.getElem?_eq_none (by simp; omega)]
def RowOk (m b : Nat) (d : D) : Prop := ∃ f : Nat → Int, d = rw m f ∧ ∀ j, j < m → (f j).natAbs ≤ b
def GrOk (m b : Nat) (xs : List D) : Prop := xs.length = m ∧ ∀ x ∈ xs, RowOk m b x
theorem GrOk.ex {m b : Nat} {xs : List D} (h : GrOk m b xs) : ∃ A, xs = gr m A ∧ ∀ i j, i < m → j < m → (A i j).natAbs ≤ b := by
  obtain ⟨hl, hr⟩ := h
  have : ∀ i, ∃ f : Nat → Int, i < m → xs[i]? = some (rw m f) ∧ ∀ j, j < m → (f j).natAbs ≤ b := fun i => by
    by_cases hi : i < m
    · have hi' : i < xs.length := by omega
      obtain ⟨f, e, hf⟩ := hr xs[i] (List.getElem_mem hi')
      exact ⟨f, fun _ => ⟨by rw [List.getElem?_eq_getElem hi', e], hf⟩⟩
    · exact ⟨fun _ => 0, fun z => absurd z hi⟩
  refine ⟨fun i => Classical.choose (this i), rg_of hl fun i hi => (Classical.choose_spec (this i) hi).1, fun i j hi hj => (Classical.choose_spec (this i) hi).2 j hj⟩
theorem GrOk.of {m b : Nat} {A : Nat → Nat → Int} (h : ∀ i j, i < m → j < m → (A i j).natAbs ≤ b) : GrOk m b (gr m A) := by
  refine ⟨gr_len m A, fun x hx => ?_⟩
  unfold gr at hx
  obtain ⟨i, hi, rfl⟩ := List.mem_map.mp hx
  exact ⟨A i, rfl, fun j hj => h i j (List.mem_range.mp hi) hj⟩
theorem GrOk.mono {m b c : Nat} {xs : List D} (h : GrOk m b xs) (hb : b ≤ c) : GrOk m c xs :=
  ⟨h.1, fun x hx => by obtain ⟨f, e, hf⟩ := h.2 x hx; exact ⟨f, e, fun j hj => Nat.le_trans (hf j hj) hb⟩⟩
theorem GrOk.set {m b i : Nat} {xs : List D} {x : D} (h : GrOk m b xs) (hx : RowOk m b x) : GrOk m b (xs.set i x) :=
  ⟨by rw [List.length_set]; exact h.1, fun y hy => by
    rcases List.mem_or_eq_of_mem_set hy with z | z
    · exact h.2 y z
    · rw [z]; exact hx⟩
theorem GrOk.get {m b i : Nat} {xs : List D} (h : GrOk m b xs) (hi : i < m) : ∃ x, xs[i]? = some x ∧ RowOk m b x := by
  have hi' : i < xs.length := by rw [h.1]; exact hi
  exact ⟨xs[i], List.getElem?_eq_getElem hi', h.2 _ (List.getElem_mem hi')⟩
end Wm
namespace Wm
open PySem PySem.Spec PyProof.Rows L2
theorem atI_nth {xs : List D} {k : Nat} {d : D} (h : xs[k]? = some d) : atI xs (k : Int) = some d := atI_at _ _ _ (by omega) (by simpa using h)
theorem setAt_nth {xs : List D} {k : Nat} (d : D) (h : k < xs.length) : setAt xs (k : Int) d = some (xs.set k d) := by
  rw [setAt_at _ _ _ (by omega) (by simpa using h)]
  simp
theorem szl : sizeLine = 16777216 := by decide
end Wm
namespace Wm
open PySem PySem.Spec PyProof.Rows L2
theorem for_rg {st : Tg} {body : Ss} {n : Nat} {g : Nat → D} {ρ : List SD} {L : Rs Fl} (hL : forL st body ((List.range n).map g) ρ = L) (I : Nat → List SD → Prop) (h0 : I 0 ρ) (h : ∀ i ρ, i < n → I i ρ → ∃ ρ', I (i + 1) ρ' ∧ ∀ k, forT body k (st (g i) ρ) = k ρ') : ∃ ρ', I n ρ' ∧ L = .ok (.nx ρ') := by
  have key : ∀ (m i : Nat) (ρ : List SD), i + m = n → I i ρ → ∃ ρ', I n ρ' ∧ forL st body (((List.range n).map g).drop i) ρ = .ok (.nx ρ') := by
    intro m
    induction m with
    | zero =>
      intro i ρ e hi
      have : ((List.range n).map g).drop i = [] := List.drop_eq_nil_of_le (by simp; omega)
      rw [this]
      have e2 : i = n := by omega
      subst e2
      exact ⟨ρ, hi, rfl⟩
    | succ m ih =>
      intro i ρ e hi
      have hin : i < n := by omega
      obtain ⟨ρ1, h1, e1⟩ := h i ρ hin hi
      obtain ⟨ρ2, h2, e2⟩ := ih (i + 1) ρ1 (by omega) h1
      refine ⟨ρ2, h2, ?_⟩
      have hd : ((List.range n).map g).drop i = g i :: ((List.range n).map g).drop (i + 1) := by
        rw [List.drop_eq_getElem_cons (by simpa using hin)]
        simp
      rw [hd, forL_cons, e1, e2]
  obtain ⟨ρ', h1, h2⟩ := key n 0 ρ (by omega) h0
  exact ⟨ρ', h1, hL.symm.trans h2⟩
theorem enum_rg {m : Nat} {g : Nat → D} : enumD ((List.range m).map g) = (List.range m).map fun i => D.tup [.int (i : Nat), g i] := by
  unfold enumD
  refine rg_of (by simp) fun i hi => ?_
  rw [List.getElem?_mapIdx, rg_get hi]
  rfl
end Wm
namespace Wm
open PySem PySem.Spec PyProof.Rows L2
end Wm
end
section
namespace Wm
open PySem PySem.Spec PyProof.Rows L2
section
variable {X : Cx} {e : Expr} {es : List Expr} {ta : TA} {p1 p2 pos : Pos}
theorem pe_winit {x : Str} {CW : Addr} {mc : Value} {pl : Sem Bool} (hg : Gl X x) (hm : X.mg x = some (.ref CW)) (hga : PySem.W.specialIn X.K (.ref CW) "__getattribute__" = some (some (.builtin "type.__getattribute__"))) (hrd : PySem.W.readsIn X.K CW mc = true)
    (vV : PySem.W.findCls X.K (.ref CW) mc "__init__" = some (.val (.builtin "ValueError.__init__"))) (ha : PA X (e :: es) ta) (hdb : (x == ("__debug__" : Str)) = false := by decide)
    (hc : eval (.Call (.Attribute (.Name x p1) "__init__" p2) (e :: es) [] pos) X.env = (do
      let ov ← eval (.Name x p1) X.env
      standAt p2.atName
      let (f, first) ← holding [ov] (getMethod ov "__init__" pl)
      callWith pos f first (backTo pos (starEach (e :: es) X.env)) (backToKw pos (keywordEach [] X.env))) := by rfl)
    (he : starEach (e :: es) X.env = (false, eval e X.env) :: starEach es X.env := by rfl) (hpl : (backTo pos (starEach es X.env)).any (·.1) = false := by rfl) :
    PE X (.Call (.Attribute (.Name x p1) "__init__" p2) (e :: es) [] pos) (tVeI X.K ta) := by
  refine ⟨fun pins s σ H Q I h => ?_⟩
  refine PySem.W.methodCall_KW (ld_glob I hg hm ?_ hdb) hc
  refine PySem.W.method_cls I.kIn hga (PySem.W.cls_value I.kIn hrd vV (by decide +kernel) ?_)
  refine PyProof.Rows.callWith_method1 (thn (ha.run pos pins _ σ H _ (I.tok _) h) fun us s1 ⟨vs, H1, I1, r1, a, C, ws, ev, hl, T, ea, q⟩ => ?_) he hpl
  subst ev
  cases r1 with
  | @cons _ u0 _ ur ra rw' =>
    obtain rfl : u0 = Value.ref a := ra
    have hlen : ur.length ≤ sizeLine := by
      rw [← Paired.length rw', sizeLine_eq]
      omega
    exact oinit_ok T I1 ea hlen fun s' J => ⟨.non, H1, J, rfl, q⟩
end
end Wm
end
section
namespace Wm
open PySem PySem.Spec PyProof.Rows L2
def spI1 (K : PySem.W.Frag) (C : Addr) (f : Str) : Sp := fun vs H Q E => ∃ (a : Addr) (w : V), vs = [.ref a, w] ∧ OexC K C ∧ PySem.W.findIn K (.ref C) f = some none ∧ H a = some (exo a C none) ∧ ∀ dx, H dx = none → dx ≠ a → Q .non (upd (upd H dx (exd dx [(f, w)])) a (exo a C (some dx)))
theorem init1_sound {K : PySem.W.Frag} {C : Addr} {f : Str} {m : Str} {vs : List V} {H : Hp} {Q : VK} {E : XK} (h : spI1 K C f vs H Q E) :
    tSeq (tDrop (tVeI K (tCons (tVar 0) (tCons (tC (.str m)) tNil)))) (tOst K f (tVar 0) (tVar 1)) { nx := fun _ H' => Q .non H', rt := Q } (vs.map some) H := by
  obtain ⟨a, w, rfl, T, hf, ha, q⟩ := h
  refine ⟨_, rfl, a, C, _, rfl, by show 1 ≤ 1000; decide, T, ha, ?_⟩
  exact ⟨_, rfl, _, rfl, a, C, rfl, T, hf, .inl ⟨ha, fun dx n ne => q dx n ne⟩⟩
end Wm
end
section
namespace Wm
open PySem PySem.Spec PyProof.Rows L2
def excOne (c f : Str) (ρ : List SD) : List D → Rs Fl
  | [d] => .exc c [(f, d)] ρ
  | _ => .bad
def sRaise1 (c f : Str) (fx : Sx) : Ss := fun ρ => (mops [fx] ρ).bind fun q => excOne c f q.2 q.1
section
variable {X : Cx} {cl : Cl} {vs0 : List V} {Wx : WX} {e : Expr} {p pos pos' : Pos} {fx : Sx}
theorem sj_raise1 {CX : CXT} {x c f : Str} {fI : Addr} {k : Nat} {fd : FuncData} {ps : List Str} (hc : X.calm = true) (tk : Takes X Wx) (T : OexC X.K (cl.at' c)) (hf : PySem.W.findIn X.K (.ref (cl.at' c)) f = some none) (iC : PySem.W.findIn X.K (.ref (cl.at' c)) "__init__" = some (some (.ref fI))) (tI : PySem.W.typeIn X.K (.ref fI) = some (.type "function"))
    (F1 : FnOk X.prog X.w X.K X.mg X.base CX k fI fd ps (spI1 X.K (cl.at' c) f)) (hr : Room (k + 1) X.A) (hb : Binds X.K fd ps []) (hx : Passes CX X (fun _ _ _ => False)) (hg : Gl X x) (hm : X.mg x = some (.ref (cl.at' c))) (h : MJ X cl vs0 Wx [e] [fx])
    (hdb : (x == ("__debug__" : Str)) = false := by decide) (he : starEach [e] X.env = (false, eval e X.env) :: starEach [] X.env := by rfl) (hpl : (backTo pos' (starEach [] X.env)).any (·.1) = false := by rfl) :
    SJ X cl vs0 Wx (.Raise (some (.Call (.Name x p) [e] [] pos')) none pos) (sRaise1 c f fx) := by
  obtain ⟨t, pt, q⟩ := h.ex
  refine ⟨⟨_, ps_raise hc tk (pmk_oex T iC tI F1 hr hb .nil hx hg hm pt hdb he hpl), fun O W σ H ρ D sr hw => q O W σ H ρ _ sr ?_⟩⟩
  unfold sRaise1 at hw
  cases em : mops [fx] ρ with
  | bad => rw [em] at hw; exact hw
  | exc c' fs ρ' => rw [em] at hw; exact hw σ
  | ok w =>
    obtain ⟨ds, ρ1⟩ := w
    rw [em] at hw
    intro vs O' W' H1 st sr' ra
    match ds, ra, hw with
    | [], _, hw => exact (show False from hw).elim
    | [d], ra, hw =>
      simp only [RpA] at ra
      obtain ⟨v, r, ev, h1, er⟩ := ra
      subst er ev
      refine ⟨by show 1 ≤ 1000; decide, fun a na => ⟨a, v, rfl, T, hf, upd_same, fun dx nd ne => ⟨rfl, dx, [(f, v)], upd_same, ?_, ?_, ?_⟩⟩⟩
      · rw [upd_ne ne, upd_same]
      · rw [upd_ne ne] at nd; exact nd
      · have nd1 : H1 dx = none := by rw [upd_ne ne] at nd; exact nd
        have eH : upd (del (upd (upd (upd H1 a (exo a (cl.at' c) none)) dx (exd dx [(f, v)])) a (exo a (cl.at' c) (some dx))) a) dx (.xd [(f, v)]) = upd H1 dx (.xd [(f, v)]) := by
          funext b
          by_cases e1 : b = dx
          · subst e1; rw [upd_same, upd_same]
          · rw [upd_ne e1, upd_ne e1]
            by_cases e2 : b = a
            · subst e2; rw [del_same, na]
            · rw [del_ne e2, upd_ne e2, upd_ne e1, upd_ne e2]
        rw [eH]
        have sm : Same H1 (upd H1 dx (.xd [(f, v)])) := same_upd nd1
        refine hw σ dx [(f, v)] O' W' _ (st.trans sr.wf (Stp.same sm)) (sr'.same sm) ⟨upd_same, fun z => sr'.wf.trk dx z (noD_none nd1)⟩ ?_
        simp only [RpF]
        exact ⟨v, [], rfl, h1.step sr'.wf (Stp.same sm), rfl⟩
    | _ :: _ :: _, _, hw => exact (show False from hw).elim
end
end Wm
end
section
namespace Wm
open PySem PySem.Spec PyProof.Rows L2
abbrev Cts := Addr → Value → Option Addr → TS
section
variable {X : Cx} {body : List Stmt} {h0 : ExceptHandler} {hs : List ExceptHandler} {l : List (Value × Option Nat × Cts)} {pos : Pos} {tb : WX → TS} {Wo : WX}
end
end Wm
end
section
namespace Wm
open PySem PySem.Spec PyProof.Rows L2
section
variable {G G' : Gx} {O W : List Addr} {H : Hp}
theorem TO.re {a : Addr} {vs : List V} (hK : G.K = G'.K) (h : TO G.K O H a vs) : TO G'.K O H a vs := hK ▸ h
mutual
theorem Rp.re (hK : G.K = G'.K) (hc : G.cls = G'.cls) : ∀ {d : D} {v : V}, Rp G O H d v → Rp G' O H d v
  | .non, v, h => by simpa only [Rp] using h
  | .bl b, v, h => by simpa only [Rp] using h
  | .int i, v, h => by simpa only [Rp] using h
  | .str x, v, h => by simpa only [Rp] using h
  | .tup ds, v, h => by
    simp only [Rp] at h ⊢
    obtain ⟨a, vs, e, t, r⟩ := h
    exact ⟨a, vs, e, hK ▸ t, RpA.re hK hc r⟩
  | .lst ds, v, h => by
    simp only [Rp] at h ⊢
    obtain ⟨a, vs, e, t, r⟩ := h
    exact ⟨a, vs, e, hK ▸ t, RpA.re hK hc r⟩
  | .ins c fs, v, h => by
    simp only [Rp] at h ⊢
    obtain ⟨a, dx, gs, e, t, n, r⟩ := h
    exact ⟨a, dx, gs, e, hc ▸ t, n, RpF.re hK hc r⟩
  | .scr ns, v, h => by
    simp only [Rp] at h ⊢
    obtain ⟨a, e, t⟩ := h
    exact ⟨a, e, hK ▸ t⟩
  | .dct kvs, v, h => by
    simp only [Rp] at h ⊢
    obtain ⟨a, gs, e, t, n, r⟩ := h
    exact ⟨a, gs, e, t, n, RpD.re hK hc r⟩
theorem RpA.re (hK : G.K = G'.K) (hc : G.cls = G'.cls) : ∀ {ds : List D} {vs : List V}, RpA G O H ds vs → RpA G' O H ds vs
  | [], vs, h => by simpa only [RpA] using h
  | d :: ds, vs, h => by
    simp only [RpA] at h ⊢
    obtain ⟨v, r, e, h1, h2⟩ := h
    exact ⟨v, r, e, Rp.re hK hc h1, RpA.re hK hc h2⟩
theorem RpF.re (hK : G.K = G'.K) (hc : G.cls = G'.cls) : ∀ {ds : List (Str × D)} {vs : List (Str × V)}, RpF G O H ds vs → RpF G' O H ds vs
  | [], vs, h => by simpa only [RpF] using h
  | (n, d) :: ds, vs, h => by
    simp only [RpF] at h ⊢
    obtain ⟨v, r, e, h1, h2⟩ := h
    exact ⟨v, r, e, Rp.re hK hc h1, RpF.re hK hc h2⟩
theorem RpD.re (hK : G.K = G'.K) (hc : G.cls = G'.cls) : ∀ {ds : List (Int × D)} {vs : List (Key × V)}, RpD G O H ds vs → RpD G' O H ds vs
  | [], vs, h => by simpa only [RpD] using h
  | (n, d) :: ds, vs, h => by
    simp only [RpD] at h ⊢
    obtain ⟨v, r, e, h1, h2⟩ := h
    exact ⟨v, r, e, Rp.re hK hc h1, RpD.re hK hc h2⟩
end
theorem OwnAt.re (hK : G.K = G'.K) (hc : G.cls = G'.cls) {a : Addr} {xs : List D} (h : OwnAt G O W H a xs) : OwnAt G' O W H a xs := by
  obtain ⟨h1, vs, h2, h3, h4⟩ := h
  exact ⟨h1, vs, h2, h3, h4.re hK hc⟩
def noXn : List SD → Bool
  | [] => true
  | .xn _ _ :: _ => false
  | _ :: r => noXn r
theorem noXn_get : ∀ {ρ : List SD} {i : Nat} {s : SD}, noXn ρ = true → ρ[i]? = some s → ∀ c fs, s ≠ .xn c fs
  | [], i, s, _, e => by cases e
  | t :: r, 0, s, h, e => by
    cases e
    intro c fs z
    subst z
    cases h
  | t :: r, i + 1, s, h, e => by
    have : noXn r = true := by
      cases t with
      | xn c fs => cases h
      | no => exact h
      | gv => exact h
      | od _ => exact h
      | ow _ => exact h
      | sh d => exact h
      | own xs => exact h
      | byr xs => exact h
    exact noXn_get this e
mutual
theorem OwT.re (hK : G.K = G'.K) (hc : G.cls = G'.cls) : ∀ {t : OT} {v : V} {fp : List Addr}, OwT G O W H t v fp → OwT G' O W H t v fp
  | .dat d, v, fp, h => by
    simp only [OwT] at h ⊢
    exact ⟨h.1, h.2.re hK hc⟩
  | .lst ts, v, fp, h => by
    simp only [OwT] at h ⊢
    obtain ⟨a, vs, fs, e, ef, h1, h2, h3, h4, h5⟩ := h
    exact ⟨a, vs, fs, e, ef, h1, h2, h3, h4, OwTs.re hK hc h5⟩
  | .tup ts, v, fp, h => by
    simp only [OwT] at h ⊢
    obtain ⟨a, vs, e, h3, h1, h4, h5⟩ := h
    exact ⟨a, vs, e, h3, h1, h4, OwTs.re hK hc h5⟩
theorem OwTs.re (hK : G.K = G'.K) (hc : G.cls = G'.cls) : ∀ {ts : List OT} {vs : List V} {fp : List Addr}, OwTs G O W H ts vs fp → OwTs G' O W H ts vs fp
  | [], vs, fp, h => by simpa only [OwTs] using h
  | t :: ts, vs, fp, h => by
    simp only [OwTs] at h ⊢
    obtain ⟨v, r, f, g, e, ef, h1, h2, h3⟩ := h
    exact ⟨v, r, f, g, e, ef, h1, OwT.re hK hc h2, OwTs.re hK hc h3⟩
end
theorem OwS.re (hK : G.K = G'.K) (hc : G.cls = G'.cls) {σ : L2.St} {ρ : List SD} (h : OwS G O W σ H ρ) : OwS G' O W σ H ρ := by
  obtain ⟨φ, h1, h2, h3⟩ := h
  refine ⟨φ, fun i t e => ?_, h2, h3⟩
  obtain ⟨v, ev, o⟩ := h1 i t e
  exact ⟨v, ev, o.re hK hc⟩
theorem Fre.re (hK : G.K = G'.K) (hc : G.cls = G'.cls) {σ : L2.St} {ρ : List SD} {a : Addr} (h : Fre G O W σ H ρ a) : Fre G' O W σ H ρ a := ⟨h.m, fun i u v fp e ev o => h.t i u v fp e ev (o.re hK.symm hc.symm)⟩
theorem SlotR.re (hK : G.K = G'.K) (hc : G.cls = G'.cls) {ov ov0 : Option V} {s : SD} (hx : (∀ a q, G.xof a = some q → G'.xof a = some q) ∨ ∀ c fs, s ≠ .xn c fs) (h : SlotR G O W H ov ov0 s) : SlotR G' O W H ov ov0 s := by
  cases s with
  | no => trivial
  | gv => exact h
  | od kvs => obtain ⟨a, e, h1, gs, h2, h4⟩ := h; exact ⟨a, e, h1, gs, h2, h4.re hK hc⟩
  | ow _ => trivial
  | sh d => obtain ⟨v, e, r⟩ := h; exact ⟨v, e, r.re hK hc⟩
  | own xs => obtain ⟨a, e, r⟩ := h; exact ⟨a, e, r.re hK hc⟩
  | byr xs => obtain ⟨a, e, e0, r⟩ := h; exact ⟨a, e, e0, r.re hK hc⟩
  | xn c fs =>
    obtain ⟨a, p, gs, e, x, t, n, r⟩ := h
    rcases hx with hx | hx
    · exact ⟨a, p, gs, e, hx _ _ x, t, n, r.re hK hc⟩
    · exact absurd rfl (hx c fs)
theorem SR.re (hK : G.K = G'.K) (hc : G.cls = G'.cls) (ht : G.tabs = G'.tabs) {vs0 : List V} {σ : L2.St} {ρ : List SD} (hx : (∀ a q, G.xof a = some q → G'.xof a = some q) ∨ noXn ρ = true) (r : SR G vs0 O W σ H ρ) : SR G' vs0 O W σ H ρ :=
  ⟨r.wf, r.len, fun i s e => (r.slot i s e).re hK hc (hx.imp id fun z => noXn_get z e), r.apart, ⟨ht ▸ r.tabs.tc, fun q hq => (r.tabs.k q (ht ▸ hq)).re hK hc⟩, r.ows.re hK hc⟩
theorem ResR.re (hK : G.K = G'.K) (hc : G.cls = G'.cls) {σ : L2.St} {ρ : List SD} {v : V} {s : SD} (h : ResR G O W σ H ρ v s) : ResR G' O W σ H ρ v s := by
  cases s with
  | no => exact h
  | byr xs => exact h
  | xn _ _ => exact h
  | gv => exact h
  | sh d => exact Rp.re hK hc h
  | own xs =>
    obtain ⟨a, e, o, n⟩ := h
    exact ⟨a, e, o.re hK hc, n.re hK hc⟩
  | od kvs =>
    obtain ⟨a, e, ⟨h1, gs, h2, h4⟩, n⟩ := h
    exact ⟨a, e, ⟨h1, gs, h2, h4.re hK hc⟩, n.re hK hc⟩
  | ow t =>
    obtain ⟨fp, o, n⟩ := h
    exact ⟨fp, o.re hK hc, fun a ha => (n a ha).re hK hc⟩
theorem SR.gone {vs0 : List V} {σ : L2.St} {ρ : List SD} (i : Nat) (r : SR G vs0 O W σ H ρ) : SR G vs0 O W (σ.set i none) H (ρ.set i .no) := by
  refine ⟨r.wf, by rw [List.length_set, List.length_set, r.len], fun j s e => ?_, fun j k s t b e1 e2 m1 m2 s1 s2 => ?_, r.tabs, r.ows.gone⟩
  · by_cases hj : i = j
    · subst hj
      by_cases hl : i < ρ.length
      · rw [List.getElem?_set_self hl] at e; cases e
        trivial
      · rw [List.getElem?_eq_none (by rw [List.length_set]; omega)] at e; cases e
    · rw [List.getElem?_set_ne hj] at e
      rw [List.getElem?_set_ne hj]
      exact r.slot j s e
  · have nn : ∀ {j : Nat} {s : SD}, (ρ.set i .no)[j]? = some s → s.mine = true → i ≠ j := fun {j s} e m z => by
      subst z
      by_cases hl : i < ρ.length
      · rw [List.getElem?_set_self hl] at e; cases e; cases m
      · rw [List.getElem?_eq_none (by rw [List.length_set]; omega)] at e; cases e
    have nj := nn e1 m1
    have nk := nn e2 m2
    rw [List.getElem?_set_ne nj] at e1 s1
    rw [List.getElem?_set_ne nk] at e2 s2
    exact r.apart j k s t b e1 e2 m1 m2 s1 s2
end
structure Hd where
  cn : Str
  sl : Option Nat
  g : Ss
def Hd.into (h : Hd) (c : Str) (fs : List (Str × D)) (ρ : List SD) : List SD := match h.sl with
  | none => ρ
  | some i => ρ.set i (.xn c fs)
def Hd.off (h : Hd) (ρ : List SD) : List SD := match h.sl with
  | none => ρ
  | some i => ρ.set i .no
def flX (o : List SD → List SD) : Rs Fl → Rs Fl
  | .ok (.nx ρ) => if noXn (o ρ) then .ok (.nx (o ρ)) else .bad
  | .ok (.rt r ρ) => if noXn (o ρ) then .ok (.rt r (o ρ)) else .bad
  | .ok (.bk ρ) => if noXn (o ρ) then .ok (.bk (o ρ)) else .bad
  | .ok (.ct ρ) => if noXn (o ρ) then .ok (.ct (o ρ)) else .bad
  | _ => .bad
def catchS (E : Str → Str → Option Bool) : List Hd → Str → List (Str × D) → List SD → Rs Fl
  | [], c, fs, ρ => .exc c fs ρ
  | h :: r, c, fs, ρ => match E c h.cn with
    | some true => flX h.off (h.g (h.into c fs ρ))
    | some false => catchS E r c fs ρ
    | none => .bad
def sTry (E : Str → Str → Option Bool) (gb : Ss) (hs : List Hd) : Ss := fun ρ => match gb ρ with
  | .exc c fs ρ' => catchS E hs c fs ρ'
  | r => r
section
variable {X : Cx} {cl : Cl} {vs0 : List V} {Wx : WX}
theorem Fre.gone {G : Gx} {O W : List Addr} {σ : L2.St} {H : Hp} {ρ : List SD} {i : Nat} {a : Addr} (n : Fre G O W σ H ρ a) : Fre G O W (σ.set i none) H (ρ.set i .no) a := by
  have inb : ∀ {k : Nat} {t : SD}, (ρ.set i .no)[k]? = some t → k < ρ.length := fun {k t} e => by
    have := (List.getElem?_eq_some_iff.mp e).1
    rw [List.length_set] at this
    exact this
  refine ⟨fun j t q m z => ?_, fun j u v fp q ev o => ?_⟩
  · by_cases hj : i = j
    · subst hj
      rw [List.getElem?_set_self (inb q)] at q; cases q; cases m
    · rw [List.getElem?_set_ne hj] at q z
      exact n.m j t q m z
  · by_cases hj : i = j
    · subst hj
      rw [List.getElem?_set_self (inb q)] at q; cases q
    · rw [List.getElem?_set_ne hj] at q ev
      exact n.t j u v fp q ev o
def xFld (i : Nat) (cs : List Str) (f : Str) : Sx := fun ρ => match ρ[i]? with
  | some (.xn c fs) => if c ∈ cs then match fs.lookup f with
    | some d => .ok (.sh d, ρ)
    | none => .bad
    else .bad
  | _ => .bad
end
end Wm
end
section
namespace Wm
open PySem PySem.Spec PyProof.Rows L2
inductive SelI where
  | arg (j : Nat) | dfI (i : Int) | dfN
def pickA (as : List SD) : SelI → SD
  | .arg j => as[j]?.getD .no
  | .dfI i => .sh (.int i)
  | .dfN => .sh .non
def pickV (vs : List V) : SelI → V
  | .arg j => vs[j]?.getD .non
  | .dfI i => .int i
  | .dfN => .non
def unperm (inv : List Nat) (outs : List SD) : List SD := inv.map fun i => outs[i]?.getD .no
def permR (inv : List Nat) : Rs (SD × List SD) → Rs (SD × List SD)
  | .ok (r, outs) => .ok (r, unperm inv outs)
  | .exc c fs outs => .exc c fs (unperm inv outs)
  | .bad => .bad
def permF (sel : List SelI) (inv : List Nat) (F : Fn) : Fn := fun as => permR inv (F (sel.map (pickA as)))
def selB (m : Nat) (sel : List SelI) (inv : List Nat) : Bool :=
  inv.length == m && (List.range m).all (fun j => match inv[j]? with
    | some i => (match sel[i]? with
      | some (.arg k) => k == j
      | _ => false)
    | none => false) && (List.range sel.length).all (fun i => match sel[i]? with
    | some (.arg j) => inv[j]? == some i
    | _ => true)
theorem selB_len {m : Nat} {sel : List SelI} {inv : List Nat} (h : selB m sel inv = true) : inv.length = m := by
  unfold selB at h
  simp only [Bool.and_eq_true, beq_iff_eq] at h
  exact h.1.1
theorem selB_inv {m : Nat} {sel : List SelI} {inv : List Nat} (h : selB m sel inv = true) {i j : Nat} (e : inv[j]? = some i) : sel[i]? = some (.arg j) := by
  have hl := selB_len h
  unfold selB at h
  simp only [Bool.and_eq_true, beq_iff_eq, List.all_eq_true, List.mem_range] at h
  have hj : j < m := by have := (List.getElem?_eq_some_iff.mp e).1; omega
  have q := h.1.2 j hj
  rw [e] at q
  dsimp only at q
  cases es : sel[i]? with
  | none => rw [es] at q; cases q
  | some s =>
    rw [es] at q
    cases s with
    | arg k => have q : (k == j) = true := q; rw [beq_iff_eq] at q; rw [q]
    | dfI i => cases q
    | dfN => cases q
theorem selB_sel {m : Nat} {sel : List SelI} {inv : List Nat} (h : selB m sel inv = true) {i j : Nat} (e : sel[i]? = some (.arg j)) : inv[j]? = some i := by
  unfold selB at h
  simp only [Bool.and_eq_true, beq_iff_eq, List.all_eq_true, List.mem_range] at h
  have hi : i < sel.length := (List.getElem?_eq_some_iff.mp e).1
  have q := h.2 i hi
  rw [e] at q
  have q : (inv[j]? == some i) = true := q
  simpa using q
section
variable {G : Gx} {O W : List Addr} {H : Hp} {vs : List V}
theorem pickV_get {sel : List SelI} {i : Nat} {q : SelI} (e : sel[i]? = some q) : (sel.map (pickV vs))[i]? = some (pickV vs q) := by rw [List.getElem?_map, e]; rfl
theorem pv_join {sel : List SelI} {i : Nat} {q : SelI} (e : sel[i]? = some q) : (((sel.map (pickV vs)).map some)[i]?).join = some (pickV vs q) := by rw [List.getElem?_map, pickV_get e]; rfl
theorem vs_join {j : Nat} (h : j < vs.length) : ((vs.map some)[j]?).join = some (pickV vs (.arg j)) ∧ vs[j]? = some (pickV vs (.arg j)) := by
  have e : vs[j]? = some vs[j] := List.getElem?_eq_getElem h
  have p : pickV vs (.arg j) = vs[j] := by show vs[j]?.getD .non = _; rw [e]; rfl
  rw [List.getElem?_map, e, p]
  exact ⟨rfl, rfl⟩
theorem SR.perm {sel : List SelI} {inv : List Nat} {as : List SD} (ok : selB vs.length sel inv = true) (r : SR G vs O W (vs.map some) H as) : SR G (sel.map (pickV vs)) O W ((sel.map (pickV vs)).map some) H (sel.map (pickA as)) := by
  have la : as.length = vs.length := by have := r.len; rw [List.length_map] at this; exact this.symm
  have key : ∀ {i : Nat} {s : SD}, (sel.map (pickA as))[i]? = some s → ∃ q, sel[i]? = some q ∧ s = pickA as q := fun {i s} e => by
    rw [List.getElem?_map] at e
    obtain ⟨q, h1, h2⟩ := Option.map_eq_some_iff.mp e
    exact ⟨q, h1, h2.symm⟩
  have arg : ∀ {i j : Nat}, sel[i]? = some (.arg j) → j < vs.length ∧ as[j]? = some (pickA as (.arg j)) := fun {i j} e => by
    have hj : j < vs.length := by have := (List.getElem?_eq_some_iff.mp (selB_sel ok e)).1; rw [selB_len ok] at this; exact this
    refine ⟨hj, ?_⟩
    have e2 : as[j]? = some as[j] := List.getElem?_eq_getElem (by omega)
    show _ = some (as[j]?.getD .no)
    rw [e2]; rfl
  refine ⟨r.wf, by simp, fun i s e => ?_, fun i1 i2 s t a e1 e2 m1 m2 s1 s2 => ?_, r.tabs, r.ows.reix (fun i j => sel[i]? = some (.arg j)) (fun i i' j h1 h2 => Option.some.inj ((selB_sel ok h1).symm.trans (selB_sel ok h2))) fun i s e hs => ?_⟩
  · obtain ⟨q, h1, rfl⟩ := key e
    rw [pv_join h1, pickV_get h1]
    cases q with
    | arg j =>
      obtain ⟨hj, h2⟩ := arg h1
      have := r.slot j _ h2
      rw [(vs_join hj).1, (vs_join hj).2] at this
      exact this
    | dfI n => exact ⟨.int n, rfl, by simp only [Rp]⟩
    | dfN => exact ⟨.non, rfl, by simp only [Rp]⟩
  · obtain ⟨q1, h1, rfl⟩ := key e1
    obtain ⟨q2, h2, rfl⟩ := key e2
    have v1 := pv_join (vs := vs) h1
    have v2 := pv_join (vs := vs) h2
    rw [s1] at v1
    rw [s2] at v2
    cases q1 with
    | dfI n => cases m1
    | dfN => cases m1
    | arg j1 =>
      cases q2 with
      | dfI n => cases m2
      | dfN => cases m2
      | arg j2 =>
        obtain ⟨hj1, g1⟩ := arg h1
        obtain ⟨hj2, g2⟩ := arg h2
        have z := r.apart j1 j2 _ _ a g1 g2 m1 m2 (join_some (by rw [(vs_join hj1).1]; exact v1.symm)) (join_some (by rw [(vs_join hj2).1]; exact v2.symm))
        subst z
        have := (selB_sel ok h1).symm.trans (selB_sel ok h2)
        exact Option.some.inj this
  · obtain ⟨q, h1, rfl⟩ := key e
    cases q with
    | arg j =>
      obtain ⟨hj, h2⟩ := arg h1
      refine ⟨j, h1, h2, ?_⟩
      have v1 := pv_join (vs := vs) h1
      have v2 := (vs_join hj).1
      rw [join_some v1, join_some v2]
    | dfI n => rcases hs with z | ⟨_, z⟩ <;> cases z
    | dfN => rcases hs with z | ⟨_, z⟩ <;> cases z
theorem perm_back {sel : List SelI} {inv : List Nat} {outs : List SD} {j : Nat} {s : SD} (ok : selB vs.length sel inv = true) (lo : outs.length = sel.length) (e : (unperm inv outs)[j]? = some s) :
    ∃ i : Nat, sel[i]? = some (SelI.arg j) ∧ outs[i]? = some s ∧ j < vs.length := by
  unfold unperm at e
  rw [List.getElem?_map] at e
  obtain ⟨i, h1, h2⟩ := Option.map_eq_some_iff.mp e
  have h3 := selB_inv ok h1
  have hi : i < outs.length := by rw [lo]; exact (List.getElem?_eq_some_iff.mp h3).1
  have e2 : outs[i]? = some outs[i] := List.getElem?_eq_getElem hi
  rw [e2] at h2
  refine ⟨i, h3, e2.trans (congrArg some h2), ?_⟩
  have := (List.getElem?_eq_some_iff.mp h1).1
  rw [selB_len ok] at this
  exact this
theorem SR.unperm {sel : List SelI} {inv : List Nat} {outs : List SD} (ok : selB vs.length sel inv = true) (r : SR G (sel.map (pickV vs)) O W ((sel.map (pickV vs)).map some) H outs) : SR G vs O W (vs.map some) H (unperm inv outs) := by
  have lo : outs.length = sel.length := by have := r.len; simp at this; exact this.symm
  refine ⟨r.wf, by unfold Wm.unperm; rw [List.length_map, List.length_map, selB_len ok], fun j s e => ?_, fun j1 j2 s t a e1 e2 m1 m2 s1 s2 => ?_, r.tabs, r.ows.reix (fun j i => sel[i]? = some (SelI.arg j)) (fun j j' i h1 h2 => by
    have := h1.symm.trans h2
    cases this; rfl) fun j s e _ => ?_⟩
  · obtain ⟨i, h1, h2, hj⟩ := perm_back ok lo e
    have q := r.slot i s h2
    rw [pv_join h1, pickV_get h1] at q
    rw [(vs_join hj).1, (vs_join hj).2]
    exact q
  · obtain ⟨i1, h1, h2, hj1⟩ := perm_back ok lo e1
    obtain ⟨i2, g1, g2, hj2⟩ := perm_back ok lo e2
    have v1 := (vs_join hj1).1
    have v2 := (vs_join hj2).1
    rw [s1] at v1
    rw [s2] at v2
    have z := r.apart i1 i2 s t a h2 g2 m1 m2 (join_some (by rw [pv_join h1]; exact v1.symm)) (join_some (by rw [pv_join g1]; exact v2.symm))
    subst z
    have := h1.symm.trans g1
    cases this
    rfl
  · obtain ⟨i, h1, h2, hj⟩ := perm_back ok lo e
    refine ⟨i, h1, h2, ?_⟩
    have v1 := pv_join (vs := vs) h1
    have v2 := (vs_join hj).1
    rw [join_some v1, join_some v2]
theorem ResR.unperm {sel : List SelI} {inv : List Nat} {outs : List SD} {v : V} {s : SD} (ok : selB vs.length sel inv = true) (r : SR G (sel.map (pickV vs)) O W ((sel.map (pickV vs)).map some) H outs) (h : ResR G O W ((sel.map (pickV vs)).map some) H outs v s) : ResR G O W (vs.map some) H (unperm inv outs) v s := by
  have lo : outs.length = sel.length := by have := r.len; simp at this; exact this.symm
  have fr : ∀ {a : Addr}, Fre G O W ((sel.map (pickV vs)).map some) H outs a → Fre G O W (vs.map some) H (Wm.unperm inv outs) a := fun {a} n => ⟨fun j t q m z => by
    obtain ⟨i, h1, h2, hj⟩ := perm_back ok lo q
    have v1 := (vs_join hj).1
    rw [z] at v1
    exact n.m i t h2 m (join_some (by rw [pv_join h1]; exact v1.symm)), fun j u w fp q ev o => by
    obtain ⟨i, h1, h2, hj⟩ := perm_back ok lo q
    have v1 := (vs_join hj).1
    rw [ev] at v1
    exact n.t i u w fp h2 (join_some (by rw [pv_join h1]; exact v1.symm)) o⟩
  cases s with
  | no => exact h
  | byr xs => exact h
  | xn _ _ => exact h
  | gv => exact h
  | sh d => exact h
  | own xs =>
    obtain ⟨a, e, o, n⟩ := h
    exact ⟨a, e, o, fr n⟩
  | od kvs =>
    obtain ⟨a, e, o, n⟩ := h
    exact ⟨a, e, o, fr n⟩
  | ow t =>
    obtain ⟨fp, o, n⟩ := h
    exact ⟨fp, o, fun a ha => fr (n a ha)⟩
theorem spF_perm {sel : List SelI} {inv : List Nat} {F : Fn} {m : Nat} {Q : VK} {E : XK} (ok : selB m sel inv = true) (h : spF G m (permF sel inv F) vs H Q E) : spF G sel.length F (sel.map (pickV vs)) H Q E := by
  obtain ⟨hl, O, W, as, sr, hw⟩ := h
  subst hl
  refine ⟨by simp, O, W, _, sr.perm ok, ?_⟩
  unfold permF at hw
  cases e : F (sel.map (pickA as)) with
  | bad => rw [e] at hw; exact hw
  | exc c fs outs =>
    rw [e] at hw
    exact fun p gs O' W' H' st sr' hp hf => hw p gs O' W' H' st (sr'.unperm ok) hp hf
  | ok q =>
    obtain ⟨r, outs⟩ := q
    rw [e] at hw
    exact fun v O' W' H' st sr' rr => hw v O' W' H' st (sr'.unperm ok) (rr.unperm ok sr')
end
structure KBs (K : PySem.W.Frag) (fd : FuncData) (ps : List Str) (n : Nat) (ks : List Str) (sel : List SelI) : Prop where
  ex : ∃ g, KBn K fd ps n ks g (fun vs zs => sel.map (pickV (vs ++ zs)))
def pickU (us : List Value) : Sum Nat Value → Value
  | .inl j => us[j]?.getD .none
  | .inr u => u
def selRel : List SelI → List (Sum Nat Value) → Prop
  | [], [] => True
  | .arg j :: r, .inl k :: t => j = k ∧ selRel r t
  | .dfI i :: r, .inr u :: t => (∃ k, u = .int i k) ∧ selRel r t
  | .dfN :: r, .inr u :: t => u = .none ∧ selRel r t
  | _, _ => False
theorem vals_get {vs : List V} {us : List Value} (h : Vals vs us) : ∀ j : Nat, RelV (vs[j]?.getD .non) (us[j]?.getD .none) := by
  induction h with
  | nil => intro j; exact rfl
  | cons h1 h2 ih =>
    intro j
    cases j with
    | zero => exact h1
    | succ j => exact ih j
theorem selRel_vals {vs : List V} {us : List Value} (h : Vals vs us) : ∀ {sel : List SelI} {su : List (Sum Nat Value)}, selRel sel su → Vals (sel.map (pickV vs)) (su.map (pickU us))
  | [], [], _ => .nil
  | .arg j :: r, .inl k :: t, q => by
    obtain ⟨rfl, q⟩ := q
    exact .cons (vals_get h j) (selRel_vals h q)
  | .dfI i :: r, .inr u :: t, q => by
    obtain ⟨⟨k, rfl⟩, q⟩ := q
    exact .cons ⟨k, rfl⟩ (selRel_vals h q)
  | .dfN :: r, .inr u :: t, q => by
    obtain ⟨rfl, q⟩ := q
    exact .cons rfl (selRel_vals h q)
theorem kbs_mk {K : PySem.W.Frag} {fd : FuncData} {ps : List Str} {n : Nat} {ks : List Str} {sel : List SelI} (su : List (Sum Nat Value)) (Dd : Addr) (dv : List (Str × Value)) (hr : selRel sel su) (hd : ∀ q ∈ dv, PySem.W.nsIn K Dd q.1 = some (some q.2))
    (h : ∀ us ws : List Value, us.length = n → ws.length = ks.length → KwChain Dd dv (bindArgs fd ⟨us, ks.zip ws⟩) (ps.zip (su.map (pickU (us ++ ws))))) : KBs K fd ps n ks sel :=
  ⟨fun us ws => su.map (pickU (us ++ ws)), ⟨fun s us ws X h1 h2 => BindsTo.of_looks fun M => KwChain.looks X hd (h us ws h1 h2), fun r1 r2 => selRel_vals (r1.append r2) hr⟩⟩
section
variable {X : Cx} {cl : Cl} {vs0 : List V} {Wx : WX} {k n : Nat} {f : Addr} {fd : FuncData} {ps ks : List Str} {x : Str} {p pos : Pos} {e : Expr} {es : List Expr} {kws : List Keyword} {fl : List LOp} {F : Fn} {sel : List SelI} {inv : List Nat} {m : Nat}
def tCallM (sp : Sp) (gV : List V → List V → List V) (E : L2.St → XK) (n m : Nat) (t tk : TA) : TE := fun σ H Q => t σ H fun vs H1 => tk σ H1 fun zs H2 => vs.length = n ∧ zs.length = m ∧ sp (gV vs zs) H2 Q (E σ)
theorem run_fnM {sp : Sp} {CX : CXT} {g : List Value → List Value → List Value} {gV : List V → List V → List V} {E : L2.St → XK} {pins : List (Addr × Obj)} {σ : L2.St} {H : Hp} {s : Shared} {Q : VK} {us ws : List Value} {vs zs : List V} (F : FnOk X.prog X.w X.K X.mg X.base CX k f fd ps sp) (hr : Room k X.A) (hb : KBn X.K fd ps n ks g gV) (hx : PassesAt CX X σ (E σ))
    (I : Inv X pins σ H s) (r : Vals vs us) (rz : Vals zs ws) (l1 : vs.length = n) (l2 : zs.length = ks.length) (h : sp (gV vs zs) H Q (E σ)) : wpAny (model X.prog X.w) X.A (call (.ref f) us (ks.zip ws)) (EP X pins σ Q) X.xe s := by
  refine wpAny_call (codeAny_mono (F.run X.A X.stack s H ⟨us, ks.zip ws⟩ (g us ws) (gV vs zs) Q (E σ) hr I.env0 (hb.to s us ws I.kIn (r.length.symm.trans l1) (rz.length.symm.trans l2)) (hb.rel r rz) h) fun q s' hq => ?_)
  match q, hq with
  | .error e, hq => exact hx pins H s e s' I hq
  | .ok (.ret u), hq => exact I.after hq
theorem pe_callM {sp : Sp} {CX : CXT} {g : List Value → List Value → List Value} {gV : List V → List V → List V} {E : L2.St → XK} {t tk : TA} (F : FnOk X.prog X.w X.K X.mg X.base CX k f fd ps sp) (hr : Room k X.A) (hg : Gl X x) (hm : X.mg x = some (.ref f)) (hk : PySem.W.keepIn X.K (.ref f) = true) (hb : KBn X.K fd ps n ks g gV) (hx : ∀ σ, PassesAt CX X σ (E σ))
    (ha : PA X (e :: es) t) (hkw : PK X kws tk) (hall : (backToKw pos (keywordEach kws X.env)).all (·.1.isSome) = true := by rfl) (hks : (backToKw pos (keywordEach kws X.env)).filterMap (·.1) = ks := by rfl)
    (hdb : (x == ("__debug__" : Str)) = false := by decide) (he : starEach (e :: es) X.env = (false, eval e X.env) :: starEach es X.env := by rfl)
    (hpl : ((backTo pos (starEach (e :: es) X.env)).any (·.1) || (backToKw pos (keywordEach kws X.env)).any (·.1.isNone)) = false := by rfl) :
    PE X (.Call (.Name x p) (e :: es) kws pos) (tCallM sp gV E n ks.length t tk) := by
  refine ⟨fun pins s σ H Q I h => wpAny_Call_Name_kw (ld_glob I hg hm ?_ hdb)⟩
  refine PySem.W.callWith_KW (h₀ := X.base) I.ok.mod.kin hk hall (thn (ha.run pos pins s σ H _ I h) fun us s1 q => ?_) hpl he
  obtain ⟨vs, H1, I1, r, q⟩ := q
  refine thn (hkw.run pos pins s1 σ H1 _ I1 q) fun ws s2 q2 => ?_
  obtain ⟨zs, H2, I2, rz, l1, l2, q2⟩ := q2
  refine ⟨I2.kIn, ?_⟩
  rw [hks]
  exact run_fnM F hr hb (hx σ) I2 r rz l1 l2 q2
theorem tAll_len : ∀ {ts : List TE} {σ : L2.St} {H : Hp} {R : List V → Hp → Prop}, tAll ts σ H R = tAll ts σ H fun vs H' => vs.length = ts.length ∧ R vs H'
  | [], σ, H, R => propext ⟨fun h => ⟨rfl, h⟩, fun h => h.2⟩
  | t :: ts, σ, H, R => by
    show t σ H (fun v H1 => tAll ts σ H1 fun vs H2 => R (v :: vs) H2) = t σ H fun v H1 => tAll ts σ H1 fun vs H2 => (v :: vs).length = (t :: ts).length ∧ R (v :: vs) H2
    congr 1
    funext v H1
    rw [tAll_len]
    congr 1
    funext vs H2
    simp only [List.length_cons, Nat.add_right_cancel_iff]
theorem tAll_app : ∀ {ts us : List TE} {σ : L2.St} {H : Hp} {R : List V → Hp → Prop}, tAll (ts ++ us) σ H R = tAll ts σ H fun vs H1 => tAll us σ H1 fun zs H2 => R (vs ++ zs) H2
  | [], us, σ, H, R => rfl
  | t :: ts, us, σ, H, R => by
    show t σ H (fun v H1 => tAll (ts ++ us) σ H1 fun vs H2 => R (v :: vs) H2) = t σ H fun v H1 => tAll ts σ H1 fun vs H2 => tAll us σ H2 fun zs H3 => R (v :: vs ++ zs) H3
    congr 1
    funext v H1
    exact tAll_app
inductive Stars (X : Cx) : List Expr → Prop
  | nil : Stars X []
  | cons {e : Expr} {es : List Expr} (h : starEach (e :: es) X.env = (false, eval e X.env) :: starEach es X.env) (r : Stars X es) : Stars X (e :: es)
theorem pes_split : ∀ {es fs : List Expr} {ts : List TE}, PEs X (es ++ fs) ts → ∃ t1 t2, ts = t1 ++ t2 ∧ PEs X es t1 ∧ PEs X fs t2
  | [], fs, ts, h => ⟨[], ts, rfl, .nil, h⟩
  | e :: es, fs, _, .cons h r => by
    obtain ⟨t1, t2, rfl, h1, h2⟩ := pes_split r
    exact ⟨_ :: t1, t2, rfl, .cons h h1, h2⟩
theorem pes_len : ∀ {es : List Expr} {ts : List TE}, PEs X es ts → ts.length = es.length
  | _, _, .nil => rfl
  | _, _, .cons _ r => congrArg (· + 1) (pes_len r)
theorem pes_pa : ∀ {es : List Expr} {ts : List TE}, PEs X es ts → Stars X es → PA X es (tAll ts)
  | _, _, .nil, _ => pa_nil
  | _, _, .cons h r, .cons q s => pa_cons h (pes_pa r s) q
theorem pes_pk : ∀ {kws : List Keyword} {ts : List TE}, PEs X (kws.map (·.value)) ts → PK X kws (tAll ts)
  | [], _, .nil => pk_nil
  | ⟨_, _, _⟩ :: kws, _, .cons h r => pk_cons h (pes_pk r)
theorem ej_callK (hF : FnOk X.prog X.w X.K X.mg X.base (L2.CX X.prog X.w) k f fd ps (spF (gx X cl) sel.length F)) (hr : Room k X.A) (hg : Gl X x) (hm : X.mg x = some (.ref f)) (hk : PySem.W.keepIn X.K (.ref f) = true) (hb : KBs X.K fd ps (es.length + 1) ks sel) (tk : Takes X Wx)
    (hst : Stars X (e :: es)) (h : KJ X cl vs0 Wx (e :: es ++ kws.map (·.value)) fl) (ok : selB fl.length sel inv = true) (hall : (backToKw pos (keywordEach kws X.env)).all (·.1.isSome) = true := by rfl) (hks : (backToKw pos (keywordEach kws X.env)).filterMap (·.1) = ks := by rfl) (hkl : kws.length = ks.length := by rfl)
    (hdb : (x == ("__debug__" : Str)) = false := by decide) (he : starEach (e :: es) X.env = (false, eval e X.env) :: starEach es X.env := by rfl)
    (hpl : ((backTo pos (starEach (e :: es) X.env)).any (·.1) || (backToKw pos (keywordEach kws X.env)).any (·.1.isNone)) = false := by rfl) :
    EJ X cl vs0 Wx (.Call (.Name x p) (e :: es) kws pos) (xCall (permF sel inv F) fl) := by
  obtain ⟨ts, pe, _, q⟩ := h.ex
  obtain ⟨g, kb⟩ := hb.ex
  obtain ⟨t1, t2, rfl, h1, h2⟩ := pes_split pe
  refine ⟨⟨_, pe_callM (E := fun σ c d H => Wx c d σ H) hF hr hg hm hk kb (fun σ => passAt tk σ) (pes_pa h1 hst) (pes_pk h2) hall hks hdb he hpl, fun O W σ H ρ Q sr hw => ?_⟩⟩
  have z := call_core (F := permF sel inv F) rfl q O W σ H ρ Q (fun vs H1 => spF (gx X cl) sel.length F (sel.map (pickV vs)) H1 Q fun c d H' => Wx c d σ H') sr hw fun vs H1 h => spF_perm ok h
  have e1 : t1.length = es.length + 1 := pes_len h1
  have e2 : t2.length = ks.length := by rw [pes_len h2, List.length_map, hkl]
  rw [tAll_app, tAll_len] at z
  unfold tCallM
  rw [tAll_len]
  refine cast ?_ z
  congr 1
  funext vs H1
  refine propext (and_congr_right fun hl => ?_)
  rw [tAll_len]
  refine iff_of_eq ?_
  congr 1
  funext zs H2
  refine propext ⟨fun h => ⟨hl.trans e1, h.1.trans e2, h.2⟩, fun h => ⟨h.2.1.trans e2.symm, h.2.2⟩⟩
end
end Wm
end
section
namespace Wm
open PySem PySem.Spec PyProof.Rows L2
section
variable {X : Cx} {cl : Cl} {vs0 : List V} {Wx : WX} {a b c e : Expr} {pos p2 : Pos} {fl : List LOp}
def isrt (ns : List Int) : List Int := ns.mergeSort fun x y => decide (x ≤ y)
theorem isrt_perm (ns : List Int) : (isrt ns).Perm ns := List.mergeSort_perm ns _
theorem isrt_sorted (ns : List Int) : (isrt ns).Pairwise (· ≤ ·) := by
  have h := List.pairwise_mergeSort (le := fun (x y : Int) => decide (x ≤ y)) (fun x y z h1 h2 => by simp only [decide_eq_true_eq] at *; omega) (fun x y => by simp only [Bool.or_eq_true, decide_eq_true_eq]; omega) ns
  exact h.imp fun h => of_decide_eq_true h
theorem same_sorted {a b : List Int} (hp : a.Perm b) (ha : a.Pairwise (· ≤ ·)) (hb : b.Pairwise (· ≤ ·)) : a = b :=
  hp.eq_of_pairwise (fun x y _ _ h1 h2 => Int.le_antisymm h1 h2) ha hb
theorem isrt_of {ns ms : List Int} (h1 : ms.Perm ns) (h2 : ms.Pairwise (· ≤ ·)) : ms = isrt ns := same_sorted (h1.trans (isrt_perm ns).symm) h2 (isrt_sorted ns)
theorem isrt_self {ns : List Int} (h : ns.Pairwise (· ≤ ·)) : isrt ns = ns := (isrt_of (List.Perm.refl _) h).symm
def pIn (neg : Bool) : List D → Rs SD
  | [x, .lst ys] => if okN 60 x = true ∧ okN 60 (.lst ys) = true then .ok (.sh (.bl (neg ^^ ys.any fun y => eqD y x))) else .bad
  | _ => .bad
theorem any_py {x : D} (hx : okN 60 x = true) : ∀ {ys : List D}, okNs 59 ys = true → ((pys ys).any fun z => PyData.eqv z x.py) = ys.any fun y => eqD y x
  | [], _ => rfl
  | y :: ys, h => by
    simp only [okNs, Bool.and_eq_true] at h
    simp only [pys, List.any_cons, eqD_py h.1 hx, any_py hx h.2]
def pNotInR : List D → Rs SD
  | [.int i, .int n] => .ok (.sh (.bl (!decide (0 ≤ i ∧ i < n))))
  | _ => .bad
end
end Wm
end
section
namespace Wm
open PySem PySem.Spec PyProof.Rows L2
def clsBody : Stmt → List Stmt
  | .ClassDef _ _ _ b _ _ _ _ _ _ _ => b
  | _ => []
def inS (st : Stmt) (i : Nat) : Stmt := (clsBody st).getD i (.Pass ⟨0, 0, 0, 0⟩)
structure WayC (K : PySem.W.Frag) (mg : Str → Option Value) (x : Str) where
  C : Addr
  mc : Value
  m : mg x = some (.ref C)
  ga : PySem.W.specialIn K (.ref C) "__getattribute__" = some (some (.builtin "type.__getattribute__"))
  rd : PySem.W.readsIn K C mc = true
  vV : PySem.W.findCls K (.ref C) mc "__init__" = some (.val (.builtin "ValueError.__init__"))
structure ExcC (K : PySem.W.Frag) (mg : Str → Option Value) (cl : Cl) (c : Str) (fs : List Str) (qual : Str) (st : Stmt) where
  fI : Addr
  fd : FuncData
  m : mg c = some (.ref (cl.at' c))
  oex : OexC K (cl.at' c)
  nf : ∀ f ∈ fs, PySem.W.findIn K (.ref (cl.at' c)) f = some none
  iC : PySem.W.findIn K (.ref (cl.at' c)) "__init__" = some (some (.ref fI))
  tI : PySem.W.typeIn K (.ref fI) = some (.type "function")
  F : Fun K "__init__" qual st fI fd
  xf : XfC K (cl.at' c)
def AllM {α : Type} (P : α → Prop) : List α → Prop
  | [] => True
  | q :: r => P q ∧ AllM P r
theorem AllM.mem {α : Type} {P : α → Prop} : ∀ {l : List α}, AllM P l → ∀ q ∈ l, P q
  | q :: r, h, p, hp => by
    rcases List.mem_cons.mp hp with rfl | hp
    · exact h.1
    · exact AllM.mem h.2 p hp
abbrev Exm := List ((Str × Str) × Bool)
def exmL (t : Exm) (c h : Str) : Option Bool := match t with
  | [] => none
  | ((a, b), v) :: r => if a = c ∧ b = h then some v else exmL r c h
theorem exmL_mem : ∀ {t : Exm} {c h : Str} {b : Bool}, exmL t c h = some b → ((c, h), b) ∈ t
  | ((a, b'), v) :: r, c, h, b, e => by
    unfold exmL at e
    split at e
    · rename_i q
      obtain ⟨rfl, rfl⟩ := q
      cases e
      exact List.mem_cons_self
    · exact List.mem_cons_of_mem _ (exmL_mem e)
def ExmOk (K : PySem.W.Frag) (cl : Cl) (t : Exm) : Prop := AllM (fun q => PySem.W.exmOne K (.ref (cl.at' q.1.1)) (.ref (cl.at' q.1.2)) = some q.2) t
theorem ExmOk.get {K : PySem.W.Frag} {cl : Cl} {t : Exm} (h : ExmOk K cl t) : ∀ c x b, exmL t c x = some b → PySem.W.exmOne K (.ref (cl.at' c)) (.ref (cl.at' x)) = some b := fun c x b e => AllM.mem h ((c, x), b) (exmL_mem e)
def clOf (l : List (Str × Addr)) (ts : TC := {}) : Cl := ⟨fun c => (l.lookup c).getD 0, fun _ => none, ts⟩
theorem passF {X : Cx} {Wx : WX} (tk : Takes X Wx) : Passes (L2.CX X.prog X.w) X (fun _ _ _ => False) := fun pins σ H s e s' I h => by
  obtain ⟨_, _, _, _, _, _, _, _, _, _, _, _, z⟩ := h
  exact z.elim
theorem spI1_len {K : PySem.W.Frag} {C : Addr} {f : Str} : ∀ vs H Q E, spI1 K C f vs H Q E → vs.length = 2 := fun vs H Q E h => by
  obtain ⟨a, w, rfl, _⟩ := h
  rfl
end Wm
end
section
namespace Wm
open PySem PySem.Spec PyProof.Rows L2
theorem walkK {prog : Program} {w : World} {A : Around} (k : Kd) (hh : A.handled = none) (it a : Addr) (hne : a ≠ it) (its : Array Value) : Walks prog w A it [it, a] [it] its.size (fun i v => its[i]? = some v) (fun i h => ItK h it a i k ∧ IsK h a its k) := by
  cases k
  · exact Walks.list hh it a hne its
  · exact Walks.tuple hh it a hne its
theorem IsK.push {h : Heap} {a : Addr} {its : Array Value} {k : Kd} (x : IsK h a its k) (o : Obj) : IsK (h.push o) a its k := by
  cases k
  · exact Heap.IsList.push x o
  · exact Heap.IsTuple.push x o
theorem iterK {prog : Program} {w : World} {A : Around} {E : Value → Shared → Prop} {s : Shared} {a : Addr} {its : Array Value} {k : Kd} {Q : Value → Shared → Prop} (h : IsK s.heap a its k) (q : Q (.ref s.heap.objs.size) { s with heap := s.heap.push (obK a k) }) : wpAny (model prog w) A (pyIter (.ref a)) Q E s := by
  cases k
  · exact wpAny_pyIter_list h q
  · exact wpAny_pyIter_tuple h q
def truV : V → Option Bool
  | .int i => some (i != 0)
  | .bl b => some b
  | _ => none
theorem truth_flat {prog : Program} {w : World} {A : Around} {xs : List V} {its : List Value} (r : Vals xs its) (tr : Nat → Bool) (h : ∀ (i : Nat) (x : V), xs[i]? = some x → truV x = some (tr i)) : TruthOf prog w A (fun i v => its.toArray[i]? = some v) tr := fun i v s Q E hv hq => by
  have hv' : its[i]? = some v := by simpa using hv
  have key : ∀ {xs : List V} {its : List Value} {i : Nat} {v : Value}, Vals xs its → its[i]? = some v → ∃ x, xs[i]? = some x ∧ RelV x v := by
    intro xs its i v r
    induction r generalizing i with
    | nil => intro e; cases e
    | cons h1 h2 ih =>
      intro e
      cases i with
      | zero => cases e; exact ⟨_, rfl, h1⟩
      | succ i => exact ih e
  obtain ⟨x, e, rx⟩ := key r hv'
  have ht := h i x e
  cases x with
  | int n =>
    obtain ⟨t, rfl⟩ := rx
    injection ht with ht
    rw [← ht] at hq
    exact truthy_int hq
  | bl b =>
    obtain rfl : v = .bool b := rx
    injection ht with ht
    rw [← ht] at hq
    exact wpAny_truthy_bool hq
  | _ => cases ht
section
variable {X : Cx} {cl : Cl} {vs0 : List V} {Wx : WX} {a b c e : Expr} {pos p2 : Pos} {fl : List LOp}
def rAnyK (K : PySem.W.Frag) (f : List Bool → Bool) : List V → Hp → VK → Prop := fun vs H Q => ∃ (a : Addr) (k : Kd) (xs : List V) (bs : List Bool), vs = [V.ref a] ∧ SqK K H a xs k ∧ xs.length = bs.length ∧ (∀ (i : Nat) (x : V), xs[i]? = some x → truV x = some (bs.getD i false)) ∧ Q (.bl (f bs)) H
theorem cr_anyK (hc : X.calm = true) : CallR X (.builtin "any") (rAnyK X.K fun bs => bs.any id) := by
  intro pins s σ H vs us Q I r h
  obtain ⟨a, k, xs, bs, rfl, hs, hl, ht, q⟩ := h
  obtain ⟨its, rv, hk⟩ := seqK I hs
  rw [Vals.ref1 r]
  refine call_any_walk (iterK hk ⟨_, _, _, _, _, _, _, rfl, walkK (A := X.A.in1) k (I.ok.hd hc) _ a (Nat.ne_of_lt hk.lt) its.toArray, ⟨obK_it (Heap.get?_push_size _ (by cases k <;> rfl)), hk.push _⟩, truth_flat rv _ ht, fun h' tk hkp => ?_⟩)
  refine ⟨.bl _, H, I.kept fun b o eo => hkp b o (fun hm => ?_) (Heap.get?_push_of_some _ eo), ?_, q⟩
  · rcases List.mem_cons.mp hm with e1 | hm
    · exact absurd (e1 ▸ Heap.lt_size eo) (Nat.lt_irrefl _)
    · cases hm
  · show Value.bool _ = Value.bool _
    dsimp only
    rw [← L2.any_range, List.size_toArray, ← rv.length, hl]
theorem cr_allK (hc : X.calm = true) : CallR X (.builtin "all") (rAnyK X.K fun bs => bs.all id) := by
  intro pins s σ H vs us Q I r h
  obtain ⟨a, k, xs, bs, rfl, hs, hl, ht, q⟩ := h
  obtain ⟨its, rv, hk⟩ := seqK I hs
  rw [Vals.ref1 r]
  refine call_all_walk (iterK hk ⟨_, _, _, _, _, _, _, rfl, walkK (A := X.A.in1) k (I.ok.hd hc) _ a (Nat.ne_of_lt hk.lt) its.toArray, ⟨obK_it (Heap.get?_push_size _ (by cases k <;> rfl)), hk.push _⟩, truth_flat rv _ ht, fun h' tk hkp => ?_⟩)
  refine ⟨.bl _, H, I.kept fun b o eo => hkp b o (fun hm => ?_) (Heap.get?_push_of_some _ eo), ?_, q⟩
  · rcases List.mem_cons.mp hm with e1 | hm
    · exact absurd (e1 ▸ Heap.lt_size eo) (Nat.lt_irrefl _)
    · cases hm
  · show Value.bool _ = Value.bool _
    dsimp only
    rw [← L2.all_range, List.size_toArray, ← rv.length, hl]
def trB : D → Bool
  | .int i => i != 0
  | .bl b => b
  | _ => false
def okB : D → Bool
  | .int _ => true
  | .bl _ => true
  | _ => false
def pAnyK (f : List Bool → Bool) : List D → Rs SD
  | [.tup xs] => if xs.all okB then .ok (.sh (.bl (f (xs.map trB)))) else .bad
  | [.lst xs] => if xs.all okB then .ok (.sh (.bl (f (xs.map trB)))) else .bad
  | _ => .bad
abbrev pAny := pAnyK fun bs => bs.any id
abbrev pAll := pAnyK fun bs => bs.all id
theorem okB_tr {G : Gx} {O : List Addr} {H : Hp} {ds : List D} {vs : List V} (r : RpA G O H ds vs) (h : ds.all okB = true) : ∀ (i : Nat) (x : V), vs[i]? = some x → truV x = some ((ds.map trB).getD i false) := fun i x e => by
  obtain ⟨d, ed, rd⟩ := r.getV e
  have ho : okB d = true := List.all_eq_true.mp h d (List.mem_of_getElem? ed)
  rw [List.getD_eq_getElem?_getD, List.getElem?_map, ed]
  cases d with
  | int i => simp only [Rp] at rd; subst rd; rfl
  | bl b => simp only [Rp] at rd; subst rd; rfl
  | _ => cases ho
theorem pr_anyK (f : List Bool → Bool) : PrimR X cl (rAnyK X.K f) (pAnyK f) := by
  intro O W H ds vs Q w ho hp
  unfold pAnyK at hp
  split at hp
  · split at hp
    · rename_i xs hk
      obtain ⟨v, rfl, h1⟩ := ho.one
      obtain ⟨a, us, rfl, t, r⟩ := h1.tup
      exact ⟨a, .t, us, _, rfl, t.sq, by rw [List.length_map, r.length], okB_tr r hk, hp _ H (Same.refl H) (by simp only [Rp])⟩
    · exact hp.elim
  · split at hp
    · rename_i xs hk
      obtain ⟨v, rfl, h1⟩ := ho.one
      obtain ⟨a, us, rfl, t, _, r⟩ := h1.lst
      exact ⟨a, .l, us, _, rfl, SqL.of t, by rw [List.length_map, r.length], okB_tr r hk, hp _ H (Same.refl H) (by simp only [Rp])⟩
    · exact hp.elim
  · exact hp.elim
def maxL : List Int → Int
  | [] => 0
  | [x] => x
  | x :: y :: r => let m := maxL (y :: r); if x < m then m else x
def minL : List Int → Int
  | [] => 0
  | [x] => x
  | x :: y :: r => let m := minL (y :: r); if m < x then m else x
theorem maxL_spec : ∀ (ns : List Int), 0 < ns.length → maxL ns ∈ ns ∧ ∀ y ∈ ns, y ≤ maxL ns
  | [x], _ => by simp [maxL]
  | x :: y :: r, _ => by
    have ih := maxL_spec (y :: r) (by simp)
    simp only [maxL]
    split
    · refine ⟨List.mem_cons_of_mem _ ih.1, fun z hz => ?_⟩
      rcases List.mem_cons.mp hz with rfl | hz
      · omega
      · exact ih.2 z hz
    · refine ⟨List.mem_cons_self, fun z hz => ?_⟩
      rcases List.mem_cons.mp hz with rfl | hz
      · omega
      · have := ih.2 z hz; omega
theorem minL_spec : ∀ (ns : List Int), 0 < ns.length → minL ns ∈ ns ∧ ∀ y ∈ ns, minL ns ≤ y
  | [x], _ => by simp [minL]
  | x :: y :: r, _ => by
    have ih := minL_spec (y :: r) (by simp)
    simp only [minL]
    split
    · refine ⟨List.mem_cons_of_mem _ ih.1, fun z hz => ?_⟩
      rcases List.mem_cons.mp hz with rfl | hz
      · omega
      · exact ih.2 z hz
    · refine ⟨List.mem_cons_self, fun z hz => ?_⟩
      rcases List.mem_cons.mp hz with rfl | hz
      · omega
      · have := ih.2 z hz; omega
def pMax : List D → Rs SD
  | [.int i, .int j] => .ok (.sh (.int (if i < j then j else i)))
  | [.lst ds] => match asInts ds with
    | some ns => if 0 < ns.length then .ok (.sh (.int (maxL ns))) else .bad
    | none => .bad
  | _ => .bad
def pMin : List D → Rs SD
  | [.int i, .int j] => .ok (.sh (.int (if j < i then j else i)))
  | [.lst ds] => match asInts ds with
    | some ns => if 0 < ns.length then .ok (.sh (.int (minL ns))) else .bad
    | none => .bad
  | _ => .bad
theorem call_maxD (hc : X.calm = true) : CallR X (.builtin "max") (fun xs H Q => (∃ i j, xs = [.int i, .int j] ∧ Q (.int (if j > i then j else i)) H) ∨ rMax X.K xs H Q) := (call_max2 hc).or (cr_max hc)
theorem call_minD (hc : X.calm = true) : CallR X (.builtin "min") (fun xs H Q => (∃ i j, xs = [.int i, .int j] ∧ Q (.int (if j < i then j else i)) H) ∨ rMin X.K xs H Q) := (call_min2 hc).or (cr_min hc)
theorem pr_max : PrimR X cl (fun xs H Q => (∃ i j, xs = [.int i, .int j] ∧ Q (.int (if j > i then j else i)) H) ∨ rMax X.K xs H Q) pMax := by
  intro O W H ds vs Q w ho hp
  unfold pMax at hp
  split at hp
  · obtain ⟨v, u, rfl, h1, h2⟩ := ho.two
    exact .inl ⟨_, _, by rw [h1.int, h2.int], hp _ H (Same.refl H) (by simp only [Rp])⟩
  · split at hp
    · split at hp
      · rename_i ns e hl
        obtain ⟨v, rfl, h1⟩ := ho.one
        rw [asInts_eq e] at h1
        obtain ⟨a, us, rfl, t, _, r⟩ := h1.lst
        rw [r.ints] at t
        refine .inr ⟨a, ns, rfl, SqL.of t, hl, fun m h1 h2 => ?_⟩
        have sp := maxL_spec ns hl
        rw [show m = maxL ns from Int.le_antisymm (sp.2 m h1) (h2 _ sp.1)]
        exact hp _ H (Same.refl H) (by simp only [Rp])
      · exact hp.elim
    · exact hp.elim
  · exact hp.elim
theorem pr_min : PrimR X cl (fun xs H Q => (∃ i j, xs = [.int i, .int j] ∧ Q (.int (if j < i then j else i)) H) ∨ rMin X.K xs H Q) pMin := by
  intro O W H ds vs Q w ho hp
  unfold pMin at hp
  split at hp
  · obtain ⟨v, u, rfl, h1, h2⟩ := ho.two
    exact .inl ⟨_, _, by rw [h1.int, h2.int], hp _ H (Same.refl H) (by simp only [Rp])⟩
  · split at hp
    · split at hp
      · rename_i ns e hl
        obtain ⟨v, rfl, h1⟩ := ho.one
        rw [asInts_eq e] at h1
        obtain ⟨a, us, rfl, t, _, r⟩ := h1.lst
        rw [r.ints] at t
        refine .inr ⟨a, ns, rfl, SqL.of t, hl, fun m h1 h2 => ?_⟩
        have sp := minL_spec ns hl
        rw [show m = minL ns from Int.le_antisymm (h2 _ sp.1) (sp.2 m h1)]
        exact hp _ H (Same.refl H) (by simp only [Rp])
      · exact hp.elim
    · exact hp.elim
  · exact hp.elim
end
end Wm
end
section
namespace Wm
open PySem PySem.Spec PyProof.Rows L2
@[simp] theorem permF_ap (sel : List SelI) (inv : List Nat) (F : Fn) (as : List SD) : permF sel inv F as = permR inv (F (sel.map (pickA as))) := (rfl)
@[simp] theorem permR_ok (inv : List Nat) (r : SD) (outs : List SD) : permR inv (.ok (r, outs)) = .ok (r, inv.map fun i => outs[i]?.getD .no) := (rfl)
@[simp] theorem permR_exc (inv : List Nat) (c : Str) (fs : List (Str × D)) (outs : List SD) : permR inv (.exc c fs outs) = .exc c fs (inv.map fun i => outs[i]?.getD .no) := (rfl)
@[simp] theorem pickA_arg (as : List SD) (j : Nat) : pickA as (.arg j) = as[j]?.getD .no := (rfl)
@[simp] theorem pickA_dfI (as : List SD) (j : Int) : pickA as (.dfI j) = .sh (.int j) := (rfl)
@[simp] theorem pickA_dfN (as : List SD) : pickA as .dfN = .sh .non := (rfl)
@[simp] theorem sRaise1_ap (c f : Str) (fx : Sx) (ρ : List SD) : sRaise1 c f fx ρ = (mops [fx] ρ).bind fun q => excOne c f q.2 q.1 := (rfl)
@[simp] theorem excOne_ev (c f : Str) (ρ : List SD) (d : D) : excOne c f ρ [d] = .exc c [(f, d)] ρ := (rfl)
@[simp] theorem leave_exc (n : Nat) (c : Str) (fs : List (Str × D)) (ρ : List SD) : Rs.leave n (.exc c fs ρ) = .exc c fs (trim n ρ) := (rfl)
@[simp] theorem home_exc (ps : List (SD × Option Nat)) (ρ : List SD) (c : Str) (fs : List (Str × D)) (as : List SD) : Rs.home ps ρ (.exc c fs as) = .exc c fs (backAll ps as ρ) := (rfl)
@[simp] theorem homeT_exc (ρ : List SD) (c : Str) (fs : List (Str × D)) (as : List SD) : Rs.homeT ρ (.exc c fs as) = .exc c fs ρ := (rfl)
def tryR (E : Str → Str → Option Bool) (hs : List Hd) : Rs Fl → Rs Fl
  | .exc c fs ρ => catchS E hs c fs ρ
  | r => r
@[simp] theorem sTry_ap (E : Str → Str → Option Bool) (gb : Ss) (hs : List Hd) (ρ : List SD) : sTry E gb hs ρ = tryR E hs (gb ρ) := by
  unfold sTry tryR
  rfl
@[simp] theorem tryR_ok (E : Str → Str → Option Bool) (hs : List Hd) (fl : Fl) : tryR E hs (.ok fl) = .ok fl := (rfl)
@[simp] theorem tryR_exc (E : Str → Str → Option Bool) (hs : List Hd) (c : Str) (fs : List (Str × D)) (ρ : List SD) : tryR E hs (.exc c fs ρ) = catchS E hs c fs ρ := (rfl)
@[simp] theorem catch_nil (E : Str → Str → Option Bool) (c : Str) (fs : List (Str × D)) (ρ : List SD) : catchS E [] c fs ρ = .exc c fs ρ := (rfl)
def catchO (E : Str → Str → Option Bool) (h : Hd) (r : List Hd) (c : Str) (fs : List (Str × D)) (ρ : List SD) : Option Bool → Rs Fl
  | some true => flX h.off (h.g (h.into c fs ρ))
  | some false => catchS E r c fs ρ
  | none => .bad
@[simp] theorem catch_cons (E : Str → Str → Option Bool) (h : Hd) (r : List Hd) (c : Str) (fs : List (Str × D)) (ρ : List SD) : catchS E (h :: r) c fs ρ = catchO E h r c fs ρ (E c h.cn) := by
  unfold catchO
  rw [catchS]
  try (rcases E c h.cn with _ | b <;> first | rfl | (cases b <;> rfl))
@[simp] theorem catchO_true (E : Str → Str → Option Bool) (h : Hd) (r : List Hd) (c : Str) (fs : List (Str × D)) (ρ : List SD) : catchO E h r c fs ρ (some true) = flX h.off (h.g (h.into c fs ρ)) := (rfl)
@[simp] theorem catchO_false (E : Str → Str → Option Bool) (h : Hd) (r : List Hd) (c : Str) (fs : List (Str × D)) (ρ : List SD) : catchO E h r c fs ρ (some false) = catchS E r c fs ρ := (rfl)
@[simp] theorem into_none (cn : Str) (g : Ss) (c : Str) (fs : List (Str × D)) (ρ : List SD) : Hd.into ⟨cn, none, g⟩ c fs ρ = ρ := (rfl)
@[simp] theorem into_some (cn : Str) (i : Nat) (g : Ss) (c : Str) (fs : List (Str × D)) (ρ : List SD) : Hd.into ⟨cn, some i, g⟩ c fs ρ = ρ.set i (.xn c fs) := (rfl)
@[simp] theorem off_none (cn : Str) (g : Ss) (ρ : List SD) : Hd.off ⟨cn, none, g⟩ ρ = ρ := (rfl)
@[simp] theorem off_some (cn : Str) (i : Nat) (g : Ss) (ρ : List SD) : Hd.off ⟨cn, some i, g⟩ ρ = ρ.set i .no := (rfl)
@[simp] theorem flX_nx (o : List SD → List SD) (ρ : List SD) : flX o (.ok (.nx ρ)) = if noXn (o ρ) then .ok (.nx (o ρ)) else .bad := (rfl)
@[simp] theorem flX_rt (o : List SD → List SD) (r : SD) (ρ : List SD) : flX o (.ok (.rt r ρ)) = if noXn (o ρ) then .ok (.rt r (o ρ)) else .bad := (rfl)
@[simp] theorem noXn_nil : noXn [] = true := (rfl)
@[simp] theorem noXn_no (r : List SD) : noXn (.no :: r) = noXn r := (rfl)
@[simp] theorem noXn_sh (d : D) (r : List SD) : noXn (.sh d :: r) = noXn r := (rfl)
@[simp] theorem noXn_own (d : List D) (r : List SD) : noXn (.own d :: r) = noXn r := (rfl)
@[simp] theorem noXn_byr (d : List D) (r : List SD) : noXn (.byr d :: r) = noXn r := (rfl)
def fldO (cs : List Str) (f : Str) (ρ : List SD) : Option SD → Rs (SD × List SD)
  | some (.xn c fs) => if c ∈ cs then (match fs.lookup f with
    | some d => .ok (.sh d, ρ)
    | none => .bad) else .bad
  | _ => .bad
@[simp] theorem xFld_ap (i : Nat) (cs : List Str) (f : Str) (ρ : List SD) : xFld i cs f ρ = fldO cs f ρ ρ[i]? := by
  unfold xFld fldO
  cases ρ[i]? with
  | none => rfl
  | some s =>
    cases s with
    | xn c fs =>
      first
      | (dsimp only; done)
      | (dsimp only
         by_cases h : c ∈ cs
         · rw [if_pos h, if_pos h]
           try (cases fs.lookup f <;> rfl)
         · rw [if_neg h, if_neg h])
    | _ => rfl
@[simp] theorem fldO_one (c f : Str) (d : D) (ρ : List SD) : fldO [c] f ρ (some (.xn c [(f, d)])) = .ok (.sh d, ρ) := by
  unfold fldO
  simp
@[simp] theorem pAnyK_tup (f : List Bool → Bool) (xs : List D) : pAnyK f [.tup xs] = if xs.all okB then .ok (.sh (.bl (f (xs.map trB)))) else .bad := (rfl)
@[simp] theorem pAnyK_lst (f : List Bool → Bool) (xs : List D) : pAnyK f [.lst xs] = if xs.all okB then .ok (.sh (.bl (f (xs.map trB)))) else .bad := (rfl)
@[simp] theorem pMax_two (i j : Int) : pMax [.int i, .int j] = .ok (.sh (.int (if i < j then j else i))) := (rfl)
@[simp] theorem pMin_two (i j : Int) : pMin [.int i, .int j] = .ok (.sh (.int (if j < i then j else i))) := (rfl)
@[simp] theorem pNotInR_ev (i n : Int) : pNotInR [.int i, .int n] = .ok (.sh (.bl (!decide (0 ≤ i ∧ i < n)))) := (rfl)
@[simp] theorem pIn_ev (neg : Bool) (x : D) (ys : List D) : pIn neg [x, .lst ys] = if okN 60 x = true ∧ okN 60 (.lst ys) = true then .ok (.sh (.bl (neg ^^ ys.any fun y => eqD y x))) else .bad := (rfl)
@[simp] theorem varV_none (i : Nat) (ρ : List SD) : varV i ρ (some .no) = .bad := (rfl)
@[simp] theorem truL_one (ρ : List SD) (d : D) : truL ρ [d] = match truD d with | some b => .ok (b, ρ) | none => .bad := (rfl)
@[simp] theorem truD_bl (b : Bool) : truD (.bl b) = some b := (rfl)
@[simp] theorem truD_int (i : Int) : truD (.int i) = some (i != 0) := (rfl)
@[simp] theorem truD_non : truD .non = some false := (rfl)
@[simp] theorem truD_tup (xs : List D) : truD (.tup xs) = some (!xs.isEmpty) := (rfl)
@[simp] theorem truD_lst (xs : List D) : truD (.lst xs) = some (!xs.isEmpty) := (rfl)
@[simp] theorem eqD_bl (a b : Bool) : eqD (.bl a) (.bl b) = (a == b) := (rfl)
@[simp] theorem eqD_str (a b : Str) : eqD (.str a) (.str b) = (a == b) := (rfl)
@[simp] theorem eqD_non : eqD .non .non = true := (rfl)
@[simp] theorem okN_str (n : Nat) (x : Str) : okN n (.str x) = PyData.strOk x := by cases n <;> rfl
@[simp] theorem kept_byr (xs : List D) : keptSD (some (.byr xs)) = .no := (rfl)
@[simp] theorem tst_exc (c : Str) (fs : List (Str × D)) (ρ : List SD) : Rs.tst (.exc c fs ρ) = .exc c fs ρ := (rfl)
section
variable {S α : Type} {m : Itm} {st : Tg} {test : Sb} {elt : Sx} {vs : List Nat}
theorem lc_mapL {g f : α → D} {ρ : List SD} : ∀ {xs : List α}, (∀ x ∈ xs, ∀ k, lcTg m test elt vs k (st (g x) ρ) = (k ρ).bind fun q => .ok (f x :: q.1, q.2)) → lcL m st test elt vs (xs.map g) ρ = .ok (xs.map f, ρ)
  | [], _ => rfl
  | x :: xs, h => by
    rw [List.map_cons, lcL_cons, h x (by simp), lc_mapL fun y hy => h y (List.mem_cons_of_mem _ hy)]
    rfl
theorem lc_filterL {g f : α → D} {p : α → Bool} {ρ : List SD} : ∀ {xs : List α}, (∀ x ∈ xs, ∀ k, lcTg m test elt vs k (st (g x) ρ) = if p x then (k ρ).bind fun q => .ok (f x :: q.1, q.2) else k ρ) → lcL m st test elt vs (xs.map g) ρ = .ok ((xs.filter p).map f, ρ)
  | [], _ => rfl
  | x :: xs, h => by
    rw [List.map_cons, lcL_cons, h x (by simp), lc_filterL fun y hy => h y (List.mem_cons_of_mem _ hy)]
    cases hp : p x with
    | true => simp [hp]
    | false => simp [hp]
theorem zip_ints (xs ys : List Int) : zipD (xs.map D.int) (ys.map D.int) = (xs.zip ys).map fun p => D.tup [.int p.1, .int p.2] := by
  unfold zipD
  induction xs generalizing ys with
  | nil => rfl
  | cons x xs ih =>
    cases ys with
    | nil => rfl
    | cons y ys => simp [ih]
theorem enum_map {g : α → D} (xs : List α) : enumD (xs.map g) = xs.zipIdx.map fun p => D.tup [.int (p.2 : Nat), g p.1] := by
  unfold enumD
  refine List.ext_getElem? fun i => ?_
  simp only [List.getElem?_mapIdx, List.getElem?_map, List.getElem?_zipIdx]
  cases xs[i]? <;> simp
end
theorem whl_succ (t : Sb) (body : Ss) (n : Nat) (ρ : List SD) : whl t body (n + 1) ρ = (t ρ).bind fun p => if p.1 then (body p.2).bind (Fl.turn (whl t body n)) else .ok (.nx p.2) := by
  rw [whl]
  refine congrArg _ (funext fun p => ?_)
  split
  · refine congrArg _ (funext fun fl => ?_)
    cases fl <;> rfl
  · rfl
@[simp] theorem sWhile_ap (fuel : List SD → Nat) (t : Sb) (body : Ss) (ρ : List SD) : sWhile fuel t body ρ = whl t body (fuel ρ) ρ := (rfl)
end Wm
end
section
namespace Wm
open PySem PySem.Spec PyProof.Rows L2
section
variable {X : Cx} {cl : Cl} {vs0 : List V} {Wx : WX}
section
variable {G : Gx} {O W O' W' : List Addr} {H H' : Hp} {σ : L2.St} {ρ : List SD}
theorem Stp.quiet (s : Stp O [] H O' W' H') : Stp O W H O' W H' :=
  ⟨fun b o e _ ht => s.keep b o e (by simp) ht, fun b h => .inl h, s.onew, s.trk, fun b h _ => s.ofz b h (by simp)⟩
theorem quiet_obj (w : Wf O W H) (s : Stp O [] H O' W' H') {b : Addr} {o : HO} (hb : b ∈ W) (e : H b = some o) : H' b = some o :=
  s.keep b o e (by simp) fun ps z => w.trk b (w.sub b hb) fun o' e' => ⟨ps, by rw [e] at e'; cases e'; exact z⟩
theorem SR.quiet (r : SR G vs0 O W σ H ρ) (s : Stp O [] H O' W' H') (w' : Wf O' W' H') (tb : KT0 G.tabs H') : SR G vs0 O' W σ H' ρ :=
  r.step ⟨fun b hb => s.ofz b (r.wf.sub b hb) (by simp), w'.trk⟩ s.quiet (fun _ h => h) (fun b o hb e => quiet_obj r.wf s hb e) tb
theorem KT0.quiet {T T' : TC} (k : KT0 T H) (h : KT0 T' H') (e : T'.tabs = T.tabs) (s : Stp O [] H O' W' H') : KT0 T H' :=
  ⟨e ▸ h.t, fun p hp => s.keep _ _ (k.c p hp) (by simp) LamX.codeO_ne⟩
theorem Stp.extN (e : LamX.ExtN H H') : Stp O W H O W H' :=
  ⟨fun b o h _ ht => e b o h ht, fun b h => .inl h, fun b h => .inl h, fun b h z => h fun o ho => by
    by_cases q : ∃ ps, o = .tbl ps
    · exact q
    · exact z o (e b o ho fun ps y => q ⟨ps, y⟩), fun b h _ => h⟩
theorem SR.extN (r : SR G vs0 O W σ H ρ) (e : LamX.ExtN H H') (t : LamX.Tabs G.tabs.tabs H') : SR G vs0 O W σ H' ρ :=
  r.step ⟨r.wf.sub, fun b hb => (Stp.extN (O := O) (W := W) e).trk b (r.wf.trk b hb)⟩ (Stp.extN e) (fun _ h => h)
    (fun b o hb h => e b o h fun ps z => r.wf.trk b (r.wf.sub b hb) fun o' e' => ⟨ps, by rw [h] at e'; cases e'; exact z⟩)
    ⟨t, fun p hp => e _ _ (r.tabs.tc.c p hp) LamX.codeO_ne⟩
def frz1 (ρ : List SD) (i : Nat) : List SD := match ρ[i]? with
  | some (.own xs) => ρ.set i (.sh (.lst xs))
  | some (.byr xs) => ρ.set i (.sh (.lst xs))
  | _ => ρ
def frzAt : List Nat → List SD → List SD
  | [], ρ => ρ
  | i :: r, ρ => frzAt r (frz1 ρ i)
theorem SR.frz1 (r : SR G vs0 O W σ H ρ) (i : Nat) : ∃ O' W', Stp O W H O' W' H ∧ SR G vs0 O' W' σ H (frz1 ρ i) := by
  unfold Wm.frz1
  split
  · rename_i xs e
    obtain ⟨a, O', W', _, st, sr, _⟩ := r.demote e (.inl rfl)
    exact ⟨O', W', st, sr⟩
  · rename_i xs e
    obtain ⟨a, O', W', _, st, sr, _⟩ := r.demote e (.inr rfl)
    exact ⟨O', W', st, sr⟩
  · exact ⟨O, W, Stp.refl, r⟩
theorem SR.frzAt : ∀ (is : List Nat) {O W : List Addr} {ρ : List SD}, SR G vs0 O W σ H ρ → ∃ O' W', Stp O W H O' W' H ∧ SR G vs0 O' W' σ H (frzAt is ρ)
  | [], O, W, ρ, r => ⟨O, W, Stp.refl, r⟩
  | i :: is, O, W, ρ, r => by
    obtain ⟨O1, W1, s1, r1⟩ := r.frz1 i
    obtain ⟨O2, W2, s2, r2⟩ := SR.frzAt is r1
    exact ⟨O2, W2, s1.trans r.wf s2, r2⟩
def keep1 : SD → SD
  | .sh d => .sh d
  | _ => .no
def viewN (is : List Nat) : Nat → List SD → List SD
  | _, [] => []
  | k, s :: r => (if k ∈ is then keep1 s else .no) :: viewN is (k + 1) r
end
def SD.kt : SD → SD
  | .ow t => .ow t
  | s => .sh s.frz
def askO : Rs (SD × List SD) → List SD → Rs (SD × List SD)
  | .ok (r, _), ρ => .ok (r.kt, ρ)
  | .exc c fs _, ρ => .exc c fs ρ
  | .bad, _ => .bad
def xAsk (out : Rs (SD × List SD)) : Sx := fun ρ => match (ρ[(0 : Nat)]? : Option SD) with
  | some SD.gv => askO out ρ
  | _ => .bad
def lamR (ρ : List SD) : Rs Fl → Rs (SD × List SD)
  | .ok (.rt r _) => .ok (r.kt, ρ)
  | .ok (.nx _) => .ok (.sh .non, ρ)
  | _ => .bad
def xLam (is : List Nat) (n : Nat) (gA : Sx → Ss) (fl : Sx) : Sx := fun ρ =>
  lamR (frzAt is ρ) (gA (xAsk (fl (viewN is 0 (frzAt is ρ)))) (.gv :: List.replicate (n - 1) .no))
abbrev askC (cl : Cl) (tb : TC) : Cl := ⟨cl.at', fun _ => none, tb⟩
theorem u65 {k : Nat} {A : Around} (r : Room k A) : A.units + 65 < cLine := by have := r.un; omega
structure FunC (K : PySem.W.Frag) (x qual : Str) (st : Stmt) (f : Addr) (fd : FuncData) (c : Addr) : Prop where
  ex : ∃ (oc : Value) (od : Option Addr) (kV doc pm : Value) (an : Option Addr) (ct : Value) (osl : Array (Option Value)),
    fd = PySem.W.fnOf x qual (defArgs st) (defBody st) (defScope st) .none kV doc pm an (.ref c) ct ∧ K.lookup f = some ⟨oc, od, .func fd, osl⟩ ∧ PySem.W.codeIn K (.ref c) qual = true
theorem funC_mk {K : PySem.W.Frag} {x qual : Str} {st : Stmt} {f c : Addr} {oc kV doc pm ct : Value} {od an : Option Addr} {osl : Array (Option Value)}
    (l : K.lookup f = some ⟨oc, od, .func (PySem.W.fnOf x qual (defArgs st) (defBody st) (defScope st) .none kV doc pm an (.ref c) ct), osl⟩) (h : PySem.W.codeIn K (.ref c) qual = true) :
    FunC K x qual st f (PySem.W.fnOf x qual (defArgs st) (defBody st) (defScope st) .none kV doc pm an (.ref c) ct) c := ⟨_, _, _, _, _, _, _, _, rfl, l, h⟩
theorem fn_okC {P : Program} {w : World} {K : PySem.W.Frag} {mg : Str → Option Value} {base : Heap} {x qual : Str} {st : Stmt} {f c : Addr} {fd : FuncData} {N ps : List Str} {k : Nat} {cl : Cl} {g : Ss} (F : FunC K x qual st f fd c) (S : FnScope N ps (defScope st))
    (hb : ∀ (A : Around) (outer : List Env) (s : Shared) (H : Hp) (vs : List V) (E : XK), Room k (A.deeper (envOfC qual (defScope st) s.heap.objs.size f (.ref c))) →
      BJ (cxOf (L2.CX P w) P w K mg base N qual (defScope st) f (.ref c) A outer s H E) cl vs (wxE E) (defBody st) g) : FnOk P w K mg base (L2.CX P w) (k + 1) f fd ps (spF (gk K cl) ps.length (bodyF N.length g)) := by
  obtain ⟨oc, od, kV, doc, pm, an, ct, osl, rfl, lk, hcd⟩ := F.ex
  exact fn_of lk hcd S (fun vs H Q E h => h.1) fun A outer s H vs Q E hr h => fn_sound S h.1 (hb A outer s H vs E hr) h
def sBad : Ss := fun _ => .bad
@[simp] theorem sBad_ap (ρ : List SD) : sBad ρ = .bad := (rfl)
def ExcC.re {K : PySem.W.Frag} {mg : Str → Option Value} {c : Str} {fs : List Str} {qual : Str} {st : Stmt} {tb : TC} (e : ExcC K mg cl c fs qual st) : ExcC K mg (askC cl tb) c fs qual st := ⟨e.fI, e.fd, e.m, e.oex, e.nf, e.iC, e.tI, e.F, e.xf⟩
theorem spT_sp {K : PySem.W.Frag} {cl : Cl} {F : Fn} {H : Hp} {a : Addr} {ns : List Int} (hl : ns.length ≤ 63) (hc : cl.tabs.codes = []) (hk : cl.tabs.know = []) (ht : ∀ p ∈ cl.tabs.tabs, H p.1 = some (.tbl #[])) (hS : SqL K H a (ns.map V.int)) (hF : ∃ ρ, F [.sh (.scr ns)] = .ok (.sh (.bl true), ρ)) :
    spF (gk K cl) 1 F [.ref a] H (fun v _ => v = .bl true) fun _ _ _ => False :=
  law_sp hl hS ⟨⟨fun p hp => LamX.TabS.nil (ht p hp), fun p hp => absurd (show p ∈ cl.tabs.codes from hp) (by rw [hc]; simp)⟩, fun p hp => absurd (show p ∈ cl.tabs.know from hp) (by rw [hk]; simp)⟩ hF
@[simp] theorem xLam_ap (is : List Nat) (n : Nat) (gA : Sx → Ss) (fl : Sx) (ρ : List SD) : xLam is n gA fl ρ = lamR (frzAt is ρ) (gA (xAsk (fl (viewN is 0 (frzAt is ρ)))) (.gv :: List.replicate (n - 1) .no)) := (rfl)
@[simp] theorem lamR_rt (ρ : List SD) (r : SD) (ρ' : List SD) : lamR ρ (.ok (.rt r ρ')) = .ok (r.kt, ρ) := (rfl)
@[simp] theorem kt_sh (d : D) : (SD.sh d).kt = .sh d := (rfl)
@[simp] theorem kt_own (xs : List D) : (SD.own xs).kt = .sh (.lst xs) := (rfl)
@[simp] theorem kt_ow (t : OT) : (SD.ow t).kt = .ow t := (rfl)
@[simp] theorem kt_od (kvs : List (Int × D)) : (SD.od kvs).kt = .sh (.dct kvs) := (rfl)
@[simp] theorem lamR_nx (ρ : List SD) (ρ' : List SD) : lamR ρ (.ok (.nx ρ')) = .ok (.sh .non, ρ) := (rfl)
@[simp] theorem xAsk_gv (out : Rs (SD × List SD)) (r : List SD) : xAsk out (.gv :: r) = askO out (.gv :: r) := (rfl)
@[simp] theorem askO_ok (r : SD) (ρ' ρ : List SD) : askO (.ok (r, ρ')) ρ = .ok (r.kt, ρ) := (rfl)
@[simp] theorem askO_exc (c : Str) (fs : List (Str × D)) (ρ' ρ : List SD) : askO (.exc c fs ρ') ρ = .exc c fs ρ := (rfl)
@[simp] theorem noXn_gv (r : List SD) : noXn (.gv :: r) = noXn r := (rfl)
@[simp] theorem viewN_nil (is : List Nat) (k : Nat) : viewN is k [] = [] := (rfl)
@[simp] theorem viewN_cons (is : List Nat) (k : Nat) (s : SD) (r : List SD) : viewN is k (s :: r) = (if k ∈ is then keep1 s else .no) :: viewN is (k + 1) r := (rfl)
@[simp] theorem keep1_sh (d : D) : keep1 (.sh d) = .sh d := (rfl)
@[simp] theorem frzAt_nil (ρ : List SD) : frzAt [] ρ = ρ := (rfl)
@[simp] theorem frzAt_cons (i : Nat) (r : List Nat) (ρ : List SD) : frzAt (i :: r) ρ = frzAt r (frz1 ρ i) := (rfl)
def frzO (ρ : List SD) (i : Nat) : Option SD → List SD
  | some (.own xs) => ρ.set i (.sh (.lst xs))
  | some (.byr xs) => ρ.set i (.sh (.lst xs))
  | _ => ρ
@[simp] theorem frz1_ap (ρ : List SD) (i : Nat) : frz1 ρ i = frzO ρ i ρ[i]? := by
  unfold frz1 frzO
  rcases ρ[i]? with _ | s
  · rfl
  · cases s <;> rfl
@[simp] theorem frzO_sh (ρ : List SD) (i : Nat) (d : D) : frzO ρ i (some (.sh d)) = ρ := (rfl)
@[simp] theorem frzO_own (ρ : List SD) (i : Nat) (xs : List D) : frzO ρ i (some (.own xs)) = ρ.set i (.sh (.lst xs)) := (rfl)
@[simp] theorem frzO_byr (ρ : List SD) (i : Nat) (xs : List D) : frzO ρ i (some (.byr xs)) = ρ.set i (.sh (.lst xs)) := (rfl)
end
end Wm
end
section
namespace Wm
open PySem PySem.Spec PyProof.Rows L2
structure HeldI (x C dx : Addr) (gs : List (Str × V)) (O W : List Addr) (H : Hp) : Prop where
  o : x ∈ O
  w : x ∉ W
  h : H x = some (.ins C dx gs)
section
variable {G : Gx} {x C dx : Addr} {gs : List (Str × V)} {O W O' W' O1 W1 : List Addr} {H H' H1 : Hp} {vs0 : List V} {σ : L2.St} {ρ : List SD}
theorem HeldI.step (h : HeldI x C dx gs O W H) (s : Stp O W H O' W' H') : HeldI x C dx gs O' W' H' :=
  ⟨s.ofz x h.o h.w, (fun z => by
    rcases s.wnew x z with q | q
    · exact h.w q
    · exact noD_not h.h (by intro _ z; cases z) q), s.keep x _ h.h h.w (fun _ z => by cases z)⟩
theorem RpF.grow {p : Addr} {o' : HO} (gr : ∀ {d v}, Rp G O H d v → Rp G O (upd H p o') d v) : ∀ {fs : List (Str × D)} {gs : List (Str × V)}, RpF G O H fs gs → RpF G O (upd H p o') fs gs
  | [], gs, h => by simp only [RpF] at h ⊢; exact h
  | (n, d) :: fs, gs, h => by
    simp only [RpF] at h ⊢
    obtain ⟨v, r, e, h1, h2⟩ := h
    exact ⟨v, r, e, gr h1, RpF.grow gr h2⟩
def putD (f : Str) (d : D) : List (Str × D) → List (Str × D)
  | [] => [(f, d)]
  | (g, e) :: r => if g = f then (f, d) :: r else (g, e) :: putD f d r
end
abbrev Sn := List (Str × D) → List SD → Rs (List (Str × D) × List SD)
section
variable {X : Cx} {cl : Cl} {vs0 : List V} {Wx : WX} {c : Str}
def nNil : Sn := fun fs ρ => .ok (fs, ρ)
def nSeqR (f : Sn) (fs : List (Str × D)) : Rs Fl → Rs (List (Str × D) × List SD)
  | .ok (.nx ρ') => f fs ρ'
  | .exc ce es ρ' => .exc ce es ρ'
  | _ => .bad
def nSeq (g : Ss) (f : Sn) : Sn := fun fs ρ => nSeqR f fs (g ρ)
theorem RpF.len {G : Gx} {O : List Addr} {H : Hp} : ∀ {fs : List (Str × D)} {gs : List (Str × V)}, RpF G O H fs gs → fs.length = gs.length
  | [], gs, h => by simp only [RpF] at h; rw [h]; rfl
  | (n, d) :: fs, gs, h => by
    simp only [RpF] at h
    obtain ⟨v, r, e, _, h2⟩ := h
    rw [e]
    exact congrArg (· + 1) (RpF.len h2)
theorem RpF.put {G : Gx} {O : List Addr} {H : Hp} {f : Str} {d : D} {v : V} (hv : Rp G O H d v) : ∀ {fs : List (Str × D)} {gs : List (Str × V)}, RpF G O H fs gs → RpF G O H (putD f d fs) (putF f v gs)
  | [], gs, h => by
    simp only [RpF] at h
    subst h
    simp only [putD, putF, RpF]
    exact ⟨v, [], rfl, hv, rfl⟩
  | (n, e) :: fs, gs, h => by
    simp only [RpF] at h
    obtain ⟨u, r, rfl, h1, h2⟩ := h
    unfold putD putF
    by_cases q : n = f
    · rw [if_pos q, if_pos q]
      simp only [RpF]
      exact ⟨v, r, by rw [q], hv, h2⟩
    · rw [if_neg q, if_neg q]
      simp only [RpF]
      exact ⟨u, _, rfl, h1, RpF.put hv h2⟩
def isGv : List SD → Bool
  | .gv :: _ => true
  | _ => false
def nStoR (f : Str) (h : Sn) (fs : List (Str × D)) : Rs (SD × List SD) → Rs (List (Str × D) × List SD)
  | .ok (r, ρ') => if isGv ρ' = true ∧ fs.length < 1000 then h (putD f r.frz fs) ρ' else .bad
  | .exc ce es ρ' => .exc ce es ρ'
  | .bad => .bad
def nSto (f : Str) (g : Sx) (h : Sn) : Sn := fun fs ρ => nStoR f h fs (g ρ)
abbrev Fi := List D → Rs (List (Str × D) × List SD)
def bodyN (N : Nat) (f : Sn) : Fi := fun ds => f [] (.gv :: (ds.map SD.sh ++ List.replicate (N - 1 - ds.length) .no))
theorem RpA.at' {G : Gx} {O : List Addr} {H : Hp} : ∀ {ds : List D} {vs : List V} {i : Nat} {d : D}, RpA G O H ds vs → ds[i]? = some d → ∃ v, vs[i]? = some v ∧ Rp G O H d v
  | [], vs, i, d, _, h => by cases h
  | e :: ds, vs, 0, d, r, h => by
    simp only [RpA] at r
    obtain ⟨v, rest, rfl, h1, _⟩ := r
    cases h
    exact ⟨v, rfl, h1⟩
  | e :: ds, vs, i + 1, d, r, h => by
    simp only [RpA] at r
    obtain ⟨v, rest, rfl, _, h2⟩ := r
    exact RpA.at' (i := i) h2 h
end
end Wm
end
section
namespace Wm
open PySem PySem.Spec PyProof.Rows L2
section
variable {X : Cx} {cl : Cl} {vs0 : List V} {Wx : WX} {k n : Nat} {f : Addr} {fd : FuncData} {ps ks : List Str} {x c : Str} {p pos : Pos} {e : Expr} {es : List Expr} {kws : List Keyword} {fl : List LOp} {F : Fi} {sel : List SelI}
def pickD (ds : List D) : SelI → D
  | .arg j => ds[j]?.getD .non
  | .dfI i => .int i
  | .dfN => .non
def shs : List (SD × Option Nat) → Option (List D)
  | [] => some []
  | (.sh d, _) :: r => (shs r).map (d :: ·)
  | _ => none
def makeR (c : Str) (ρ : List SD) : Rs (List (Str × D) × List SD) → Rs (SD × List SD)
  | .ok (fs, _) => .ok (.sh (.ins c fs), ρ)
  | .exc ce es _ => .exc ce es ρ
  | .bad => .bad
def makeO (c : Str) (F : Fi) (sel : List SelI) (ρ : List SD) : Option (List D) → Rs (SD × List SD)
  | some ds => makeR c ρ (F (sel.map (pickD (.non :: ds))))
  | none => .bad
def xMake (c : Str) (F : Fi) (sel : List SelI) (fl : List LOp) : Sx := fun ρ => (cargs fl ρ).bind fun p => makeO c F sel p.2 (shs p.1)
end
end Wm
end
section
namespace Wm
open PySem PySem.Spec PyProof.Rows L2
section
variable {X : Cx} {cl : Cl} {vs0 : List V} {Wx : WX}
def pFld (c f : Str) : List D → Rs SD
  | [.ins c' fs] => if c' = c then (match fs.lookup f with
    | some d => .ok (.sh d)
    | none => .bad) else .bad
  | _ => .bad
variable {k n : Nat} {f C : Addr} {fd : FuncData} {ps ks : List Str} {x c m : Str} {p pos apos : Pos} {o e : Expr} {es : List Expr} {kws : List Keyword} {fl : List LOp} {F : Fn} {sel : List SelI} {inv : List Nat} {i : Nat} {pl : Sem Bool}
def methO (c m : Str) (k : Rs (SD × List SD)) : Option SD → Rs (SD × List SD)
  | some (.sh (.ins c' fs)) => if c' = c ∧ fs.lookup m = none then k else .bad
  | _ => .bad
def xMeth (c m : Str) (i : Nat) (F : Fn) (fl : List LOp) : Sx := fun ρ => methO c m (xCall F (.va i :: fl) ρ) ρ[i]?
end
end Wm
end
section
namespace Wm
open PySem PySem.Spec PyProof.Rows L2
section
variable {X : Cx} {cl : Cl} {vs0 : List V} {Wx : WX}
def chain2 (g : Int → Int → Bool) (j : Int) (ρ : List SD) : List D → Rs (SD × List SD)
  | [.int k] => .ok (.sh (.bl (g j k)), ρ)
  | _ => .bad
def chain1 (g1 g2 : Int → Int → Bool) (fl2 : List LOp) (ρ : List SD) : List D → Rs (SD × List SD)
  | [.int i, .int j] => if g1 i j then (ops fl2 ρ).bind fun q => chain2 g2 j q.2 q.1 else .ok (.sh (.bl false), ρ)
  | _ => .bad
def xChain (g1 g2 : Int → Int → Bool) (fl fl2 : List LOp) : Sx := fun ρ => (ops fl ρ).bind fun q => chain1 g1 g2 fl2 q.2 q.1
theorem chain_core {g1 g2 : Int → Int → Bool} {fl fl2 : List LOp} {ta tb tc : TE}
    (q1 : ∀ O W σ H ρ R, SR (gx X cl) vs0 O W σ H ρ → AftO (gx X cl) vs0 Wx O W σ H R (ops fl ρ) → tAll [ta, tb] σ H R)
    (q2 : ∀ O W σ H ρ R, SR (gx X cl) vs0 O W σ H ρ → AftO (gx X cl) vs0 Wx O W σ H R (ops fl2 ρ) → tAll [tc] σ H R) :
    ∀ O W σ H ρ Q, SR (gx X cl) vs0 O W σ H ρ → AftE (gx X cl) vs0 Wx O W σ H Q (xChain g1 g2 fl fl2 ρ) → tChain (rI0 fun i j => .bl (g1 i j)) (rI0 fun i j => .bl (g2 i j)) ta tb tc σ H Q := by
  intro O W σ H ρ Q sr hw
  refine q1 O W σ H ρ (fun vs H2 => match vs with
    | [x, y] => rI0 (fun i j => .bl (g1 i j)) x y H2 fun z H3 => ∃ k, z = .bl k ∧ (if k = true then tc σ H3 fun w' H4 => rI0 (fun i j => .bl (g2 i j)) y w' H4 Q else Q (.bl false) H3)
    | _ => False) sr ?_
  unfold xChain at hw
  cases e : ops fl ρ with
  | bad => rw [e] at hw; exact hw
  | exc c fs ρ' => rw [e] at hw; exact hw
  | ok p =>
    obtain ⟨ds, ρ1⟩ := p
    rw [e] at hw
    replace hw : AftE (gx X cl) vs0 Wx O W σ H Q (chain1 g1 g2 fl2 ρ1 ds) := hw
    intro vs O1 W1 H1 st1 sr1 ho
    unfold chain1 at hw
    split at hw
    · rename_i i j
      obtain ⟨x, y, rfl, h1, h2⟩ := ho.two
      refine ⟨i, j, h1.int, h2.int, g1 i j, rfl, ?_⟩
      cases hg : g1 i j with
      | false =>
        rw [hg] at hw
        exact hw (.bl false) O1 W1 H1 st1 sr1 (show Rp (gx X cl) O1 H1 (.bl false) (.bl false) by simp only [Rp])
      | true =>
        rw [hg] at hw
        replace hw : AftE (gx X cl) vs0 Wx O W σ H Q ((ops fl2 ρ1).bind fun q => chain2 g2 j q.2 q.1) := hw
        refine q2 O1 W1 σ H1 ρ1 (fun vs H4 => match vs with
          | [w'] => rI0 (fun i j => .bl (g2 i j)) y w' H4 Q
          | _ => False) sr1 ?_
        cases e2 : ops fl2 ρ1 with
        | bad => rw [e2] at hw; exact hw
        | exc c fs ρ' =>
          rw [e2] at hw
          exact ExcA.back sr.wf st1 hw
        | ok p2 =>
          obtain ⟨ds2, ρ2⟩ := p2
          rw [e2] at hw
          replace hw : AftE (gx X cl) vs0 Wx O W σ H Q (chain2 g2 j ρ2 ds2) := hw
          intro vs2 O2 W2 H2 st2 sr2 ho2
          unfold chain2 at hw
          split at hw
          · rename_i k
            obtain ⟨z, rfl, h3⟩ := ho2.one
            exact ⟨j, k, h2.int, h3.int, hw _ O2 W2 H2 (st1.trans sr.wf st2) sr2 (show Rp (gx X cl) O2 H2 (.bl (g2 j k)) (.bl (g2 j k)) by simp only [Rp])⟩
          · exact hw.elim
    · exact hw.elim
variable {op op' : CmpOp} {g1 g2 : Int → Int → Bool} {fl fl2 : List LOp} {a b c : Expr} {pos : Pos}
theorem ej_chain (ho : OpR X (compareOp op) (rI0 fun i j => .bl (g1 i j))) (ho' : OpR X (compareOp op') (rI0 fun i j => .bl (g2 i j))) (h : OJ X cl vs0 Wx [a, b] fl) (h2 : OJ X cl vs0 Wx [c] fl2) (hm : lastMarks [op, op'] [b, c] = false := by with_unfolding_all rfl) :
    EJ X cl vs0 Wx (.Compare a [op, op'] [b, c] pos) (xChain g1 g2 fl fl2) := by
  obtain ⟨ta, tb, ha, hb, q⟩ := two_of h
  obtain ⟨tc, hc, q2⟩ := one_of h2
  exact ⟨⟨_, pe_chain ho ho' ha hb hc hm, chain_core q q2⟩⟩
theorem tj_notN (h : OJ X cl vs0 Wx [a, b] fl) : TJ X cl vs0 Wx (.Compare a [.IsNot] [b] pos) (bT (xPrim fl pNotN)) := tj_cmp op_notN (fun O W H ds vs Q w ho hp => by
  unfold pNotN at hp
  split at hp
  · obtain ⟨x, y, rfl, h1, h2⟩ := ho.two
    refine ⟨h2.non, ?_⟩
    rw [h1.non]
    exact hp _ H (Same.refl H) (by simp [Rp])
  · rename_i d hd
    obtain ⟨x, y, rfl, h1, h2⟩ := ho.two
    refine ⟨h2.non, ?_⟩
    rw [decide_eq_false (h1.notNon fun z => hd z)]
    exact hp _ H (Same.refl H) (by simp [Rp])
  · exact hp.elim) h (nomark _)
end
end Wm
end
section
namespace Wm
open PySem PySem.Spec PyProof.Rows L2
@[simp] theorem nNil_ap (fs : List (Str × D)) (ρ : List SD) : nNil fs ρ = .ok (fs, ρ) := (rfl)
@[simp] theorem nSeq_ap (g : Ss) (f : Sn) (fs : List (Str × D)) (ρ : List SD) : nSeq g f fs ρ = nSeqR f fs (g ρ) := (rfl)
@[simp] theorem nSeqR_nx (f : Sn) (fs : List (Str × D)) (ρ : List SD) : nSeqR f fs (.ok (.nx ρ)) = f fs ρ := (rfl)
@[simp] theorem nSeqR_exc (f : Sn) (fs : List (Str × D)) (c : Str) (es : List (Str × D)) (ρ : List SD) : nSeqR f fs (.exc c es ρ) = .exc c es ρ := (rfl)
@[simp] theorem nSto_ap (n : Str) (g : Sx) (h : Sn) (fs : List (Str × D)) (ρ : List SD) : nSto n g h fs ρ = nStoR n h fs (g ρ) := (rfl)
@[simp] theorem nStoR_ok (n : Str) (h : Sn) (fs : List (Str × D)) (r : SD) (ρ : List SD) : nStoR n h fs (.ok (r, .gv :: ρ)) = if fs.length < 1000 then h (putD n r.frz fs) (.gv :: ρ) else .bad := by
  show (if isGv (.gv :: ρ) = true ∧ fs.length < 1000 then h (putD n r.frz fs) (.gv :: ρ) else .bad) = _
  by_cases q : fs.length < 1000
  · rw [if_pos ⟨rfl, q⟩, if_pos q]
  · rw [if_neg (fun z => q z.2), if_neg q]
@[simp] theorem putD_nil (n : Str) (d : D) : putD n d [] = [(n, d)] := (rfl)
@[simp] theorem putD_cons (n m : Str) (d e : D) (r : List (Str × D)) : putD n d ((m, e) :: r) = if m = n then (n, d) :: r else (m, e) :: putD n d r := (rfl)
@[simp] theorem bodyN_ap (N : Nat) (f : Sn) (ds : List D) : bodyN N f ds = f [] (.gv :: (ds.map SD.sh ++ List.replicate (N - 1 - ds.length) .no)) := (rfl)
@[simp] theorem xMake_ap (c : Str) (F : Fi) (sel : List SelI) (fl : List LOp) (ρ : List SD) : xMake c F sel fl ρ = (cargs fl ρ).bind fun p => makeO c F sel p.2 (shs p.1) := (rfl)
@[simp] theorem shs_nil : shs [] = some [] := (rfl)
@[simp] theorem shs_cons (d : D) (o : Option Nat) (r : List (SD × Option Nat)) : shs ((.sh d, o) :: r) = (shs r).map (d :: ·) := (rfl)
@[simp] theorem makeO_some (c : Str) (F : Fi) (sel : List SelI) (ρ : List SD) (ds : List D) : makeO c F sel ρ (some ds) = makeR c ρ (F (sel.map (pickD (.non :: ds)))) := (rfl)
@[simp] theorem makeR_ok (c : Str) (ρ ρ' : List SD) (fs : List (Str × D)) : makeR c ρ (.ok (fs, ρ')) = .ok (.sh (.ins c fs), ρ) := (rfl)
@[simp] theorem makeR_exc (c ce : Str) (ρ ρ' : List SD) (fs : List (Str × D)) : makeR c ρ (.exc ce fs ρ') = .exc ce fs ρ := (rfl)
@[simp] theorem pickD_arg (ds : List D) (j : Nat) : pickD ds (.arg j) = ds[j]?.getD .non := (rfl)
@[simp] theorem pickD_dfI (ds : List D) (j : Int) : pickD ds (.dfI j) = .int j := (rfl)
@[simp] theorem pickD_dfN (ds : List D) : pickD ds .dfN = .non := (rfl)
@[simp] theorem xMeth_ap (c m : Str) (i : Nat) (F : Fn) (fl : List LOp) (ρ : List SD) : xMeth c m i F fl ρ = methO c m (xCall F (.va i :: fl) ρ) ρ[i]? := (rfl)
@[simp] theorem methO_ins (c m : Str) (k : Rs (SD × List SD)) (fs : List (Str × D)) : methO c m k (some (.sh (.ins c fs))) = if fs.lookup m = none then k else .bad := by
  show (if c = c ∧ fs.lookup m = none then k else .bad) = _
  by_cases q : fs.lookup m = none
  · rw [if_pos ⟨rfl, q⟩, if_pos q]
  · rw [if_neg (fun z => q z.2), if_neg q]
def fldR : Option D → Rs SD
  | some d => .ok (.sh d)
  | none => .bad
@[simp] theorem pFld_ins (c f : Str) (fs : List (Str × D)) : pFld c f [.ins c fs] = fldR (fs.lookup f) := by
  show (if c = c then (match fs.lookup f with | some d => Rs.ok (SD.sh d) | none => Rs.bad) else .bad) = _
  rw [if_pos rfl]
  cases fs.lookup f <;> rfl
@[simp] theorem fldR_some (d : D) : fldR (some d) = .ok (.sh d) := (rfl)
@[simp] theorem xChain_ap (g1 g2 : Int → Int → Bool) (fl fl2 : List LOp) (ρ : List SD) : xChain g1 g2 fl fl2 ρ = (ops fl ρ).bind fun q => chain1 g1 g2 fl2 q.2 q.1 := (rfl)
@[simp] theorem chain1_ev (g1 g2 : Int → Int → Bool) (fl2 : List LOp) (ρ : List SD) (i j : Int) : chain1 g1 g2 fl2 ρ [.int i, .int j] = if g1 i j then (ops fl2 ρ).bind fun q => chain2 g2 j q.2 q.1 else .ok (.sh (.bl false), ρ) := (rfl)
@[simp] theorem chain2_ev (g : Int → Int → Bool) (j : Int) (ρ : List SD) (k : Int) : chain2 g j ρ [.int k] = .ok (.sh (.bl (g j k)), ρ) := (rfl)
@[simp] theorem trim_ap4 (ρ : List SD) : trim 4 ρ = [trim1 (ρ[0]?.getD .no), trim1 (ρ[1]?.getD .no), trim1 (ρ[2]?.getD .no), trim1 (ρ[3]?.getD .no)] := (rfl)
@[simp] theorem trim_ap5 (ρ : List SD) : trim 5 ρ = [trim1 (ρ[0]?.getD .no), trim1 (ρ[1]?.getD .no), trim1 (ρ[2]?.getD .no), trim1 (ρ[3]?.getD .no), trim1 (ρ[4]?.getD .no)] := (rfl)
@[simp] theorem trim_ap6 (ρ : List SD) : trim 6 ρ = [trim1 (ρ[0]?.getD .no), trim1 (ρ[1]?.getD .no), trim1 (ρ[2]?.getD .no), trim1 (ρ[3]?.getD .no), trim1 (ρ[4]?.getD .no), trim1 (ρ[5]?.getD .no)] := (rfl)
@[simp] theorem trim_ap7 (ρ : List SD) : trim 7 ρ = [trim1 (ρ[0]?.getD .no), trim1 (ρ[1]?.getD .no), trim1 (ρ[2]?.getD .no), trim1 (ρ[3]?.getD .no), trim1 (ρ[4]?.getD .no), trim1 (ρ[5]?.getD .no), trim1 (ρ[6]?.getD .no)] := (rfl)
@[simp] theorem trim_ap8 (ρ : List SD) : trim 8 ρ = [trim1 (ρ[0]?.getD .no), trim1 (ρ[1]?.getD .no), trim1 (ρ[2]?.getD .no), trim1 (ρ[3]?.getD .no), trim1 (ρ[4]?.getD .no), trim1 (ρ[5]?.getD .no), trim1 (ρ[6]?.getD .no), trim1 (ρ[7]?.getD .no)] := (rfl)
end Wm
end
section
namespace Wm
open PySem PySem.Spec PyProof.Rows L2
theorem ofString_inj {a b : String} (h : Str.ofString a = Str.ofString b) : a = b := by
  rw [Str.ofString_eq_toList, Str.ofString_eq_toList] at h
  have h := congrArg Str.cps h
  have h : a.toList.map Char.toNat = b.toList.map Char.toNat := by simpa using h
  have := (List.map_inj_right (f := Char.toNat) (fun x y e => by
    apply Char.ext
    apply UInt32.toNat_inj.mp
    exact e)).mp h
  exact String.toList_inj.mp this
@[simp] theorem str_eq (a b : String) : (Str.ofString a = Str.ofString b) ↔ a = b := ⟨ofString_inj, fun e => by rw [e]⟩
@[simp] theorem str_beq (a b : String) : (Str.ofString a == Str.ofString b) = (a == b) := by
  by_cases h : a = b
  · subst h; simp
  · have : ¬ Str.ofString a = Str.ofString b := fun e => h (ofString_inj e)
    rw [beq_eq_false_iff_ne.mpr this, beq_eq_false_iff_ne.mpr h]
@[simp] theorem look_nil (n : Str) : List.lookup n ([] : List (Str × D)) = none := (rfl)
@[simp] theorem look_cons (n m : Str) (d : D) (r : List (Str × D)) : List.lookup n ((m, d) :: r) = if n == m then some d else List.lookup n r := by
  rw [List.lookup]
  cases n == m <;> rfl
end Wm
end
section
namespace Wm
open PySem PySem.Spec PyProof.Rows L2
section
variable {X : Cx} {cl : Cl} {vs0 : List V} {Wx : WX}
def MutOk (X : Cx) (cl : Cl) (r : V → List V → Hp → VK → Prop) (m : List D → D → Rs (D × List D)) : Prop :=
  ∀ (O : List Addr) (H : Hp) (a : Addr) (xs : List D) (us : List V) (d : D) (v : V) (dr : D) (ys : List D), H a = some (.lst us) → us.length ≤ sizeLine → RpA (gx X cl) O H xs us → Rp (gx X cl) O H d v → m xs d = .ok (dr, ys) →
    ∃ rv vs, vs.length ≤ sizeLine ∧ RpA (gx X cl) O H ys vs ∧ Rp (gx X cl) O H dr rv ∧ ∀ Q : VK, Q rv (upd H a (.lst vs)) → r (.ref a) [v] H Q
def xMut1 (x : Nat) (m : List D → D → Rs (D × List D)) (f : Sx) : Sx := fun ρ => (ownGet ρ x).bind fun _ => (f ρ).bind fun p => (ownGet p.2 x).bind fun xs => (m xs p.1.frz).bind fun q => .ok (.sh q.1, ownSet p.2 x q.2)
def noExc {α : Type} : Rs α → Prop
  | .exc _ _ _ => False
  | _ => True
theorem ee_core {G : Gx} {O W : List Addr} {σ : L2.St} {H : Hp} {R : VK} {k : SD × List SD → Rs (SD × List SD)} {Q : VK} {r : Rs (SD × List SD)} (w : Wf O W H)
    (hw : AftE G vs0 Wx O W σ H Q (r.bind k)) (h : ∀ v s ρ' O' W' H', SR G vs0 O' W' σ H' ρ' → ResR G O' W' σ H' ρ' v s → AftE G vs0 Wx O' W' σ H' Q (k (s, ρ')) → R v H') : AftE G vs0 Wx O W σ H R r := by
  cases r with
  | bad => exact hw
  | exc c fs ρ => exact hw
  | ok p => exact fun v O' W' H' st sr rr => h v p.1 p.2 O' W' H' sr rr (AftE.back w st hw)
theorem ej_mut1 {x : Nat} {ex e : Expr} {f : Sx} {r : V → List V → Hp → VK → Prop} {m : List D → D → Rs (D × List D)} {apos cpos : Pos} {name : Str} {id : String}
    (slot : Slot "list" name id) (hty : typeOf (.builtin id) = pure (.type "method_descriptor")) (hm : MtR X id r) (hM : MutOk X cl r m) (hne : ∀ xs d, noExc (m xs d)) (hx : PE X ex (tVar x)) (h : EJ X cl vs0 Wx e f)
    (hbase : attributeBase ex name X.env (eval ex X.env) = eval ex X.env := by rfl)
    (hfew : ((backTo cpos (starEach [e] X.env)).all (fun x => !x.1) && (backToKw cpos (keywordEach [] X.env)).all (fun x => x.1.isSome)
      && decide ([e].length + ([] : List Keyword).length + (if ([] : List Keyword).isEmpty then 0 else 1) < 30)) = true := by rfl)
    (hline : (apos.endLine == cpos.line) = true := by rfl) (hs : starEach [e] X.env = (false, eval e X.env) :: starEach [] X.env := by rfl) (hplain : (backTo cpos (starEach [] X.env)).any (·.1) = false := by rfl) :
    EJ X cl vs0 Wx (.Call (.Attribute ex name apos) [e] [] cpos) (xMut1 x m f) := by
  obtain ⟨t, p, q⟩ := h.ex
  refine ⟨⟨_, pe_bm PySem.F.plainAttrs_list slot hty hm hx (pa_cons p pa_nil hs) hbase hfew hline hs hplain, fun O W σ H ρ E sr hw => ?_⟩⟩
  unfold xMut1 at hw
  cases eg : ownGet ρ x with
  | bad => rw [eg] at hw; exact hw.elim
  | exc c fs ρ' => exact absurd eg ownGet_noexc
  | ok xs0 =>
    rw [eg] at hw
    obtain ⟨a, ea, oa⟩ := ownGet_at sr eg
    obtain ⟨_, us0, h20, _⟩ := oa
    refine ⟨.ref a, ea, .inl ⟨rfl, _, SqL.of h20⟩, q O W σ H ρ _ sr (ee_core sr.wf hw fun v s ρ1 O1 W1 H1 sr1 rr hk => ?_)⟩
    obtain ⟨O2, W2, st2, sr2, rp⟩ := rr.frz sr1
    have hk := AftE.back sr1.wf st2 hk
    have hk : AftE (gx X cl) vs0 Wx O2 W2 σ H1 E ((ownGet ρ1 x).bind fun xs => (m xs s.frz).bind fun q => .ok (.sh q.1, ownSet ρ1 x q.2)) := hk
    cases eg2 : ownGet ρ1 x with
    | bad => rw [eg2] at hk; exact hk.elim
    | exc c fs ρ' => exact absurd eg2 ownGet_noexc
    | ok xs =>
      rw [eg2] at hk
      have hk : AftE (gx X cl) vs0 Wx O2 W2 σ H1 E ((m xs s.frz).bind fun q => .ok (.sh q.1, ownSet ρ1 x q.2)) := hk
      obtain ⟨b, eb, oW, us, h2, h3, h4⟩ := ownGet_at sr2 eg2
      rw [ea] at eb; cases eb
      have hn := hne xs s.frz
      cases em : m xs s.frz with
      | bad => rw [em] at hk; exact hk.elim
      | exc c fs ρ' => rw [em] at hn; exact hn.elim
      | ok pr =>
        obtain ⟨dr, ys⟩ := pr
        rw [em] at hk
        obtain ⟨rv, vs, hl, hr, hrv, hq⟩ := hM O2 H1 a xs us s.frz v dr ys h2 h3 h4 rp em
        obtain ⟨st4, sr4⟩ := sr2.write (vs := vs) eg2 ea hl hr
        exact hq _ (hk rv O2 W2 _ st4 sr4 (hrv.step sr2.wf st4))
def xMut0 (x : Nat) (m : List D → Rs (D × List D)) : Sx := fun ρ => (ownGet ρ x).bind fun xs => (m xs).bind fun q => .ok (.sh q.1, ownSet ρ x q.2)
def mExt (xs : List D) : D → Rs (D × List D)
  | .lst zs => if xs.length + zs.length ≤ sizeLine then .ok (.non, xs ++ zs) else .bad
  | _ => .bad
theorem mut_ext : MutOk X cl rExtend mExt := by
  intro O H a xs us d v dr ys h2 h3 h4 rp em
  cases d with
  | lst zs =>
    unfold mExt at em
    dsimp only at em
    split at em
    · rename_i hz
      cases em
      simp only [Rp] at rp
      obtain ⟨b, ws, rfl, lo, ra⟩ := rp
      have e1 := h4.length
      have e2 := ra.length
      have hz' : us.length + ws.length ≤ sizeLine := by omega
      exact ⟨.non, us ++ ws, by rw [List.length_append]; exact hz', h4.append ra, by simp only [Rp], fun Q hQ => ⟨a, b, us, ws, rfl, rfl, h2, lo.2.1, hz', hQ⟩⟩
    · cases em
  | _ => cases em
theorem ne_ext (xs : List D) (d : D) : noExc (mExt xs d) := by
  cases d <;> first | trivial | skip
  unfold mExt
  dsimp only
  split <;> trivial
theorem RpA.erase {G : Gx} {O : List Addr} {H : Hp} : ∀ {ds : List D} {vs : List V} (j : Nat), RpA G O H ds vs → RpA G O H (ds.eraseIdx j) (vs.eraseIdx j)
  | [], vs, j, h => by simp only [RpA] at h; subst h; simp [RpA]
  | d :: ds, vs, 0, h => by
    simp only [RpA] at h
    obtain ⟨v, r, rfl, h1, h2⟩ := h
    simpa using h2
  | d :: ds, vs, j + 1, h => by
    simp only [RpA] at h
    obtain ⟨v, r, rfl, h1, h2⟩ := h
    simp only [List.eraseIdx_cons_succ, RpA]
    exact ⟨v, _, rfl, h1, h2.erase j⟩
def rRemD (K : PySem.W.Frag) : V → List V → Hp → VK → Prop := fun x xs H Q => ∃ (l : Addr) (us : List V) (y : V) (d : PyData) (ds : List PyData) (j : Nat) (z : PyData), x = .ref l ∧ xs = [y] ∧ H l = some (.lst us) ∧ DpAll K H us ds ∧ Dp K H y d ∧
  SeqAt.shaped (.list ds) = true ∧ SeqAt.shaped d = true ∧ ds[j]? = some z ∧ PyData.eqv z d = true ∧ (∀ (m : Nat) (z' : PyData), m < j → ds[m]? = some z' → PyData.eqv z' d = false) ∧ Q .non (upd H l (.lst (us.eraseIdx j)))
theorem mt_removeD (hu : X.A.units + 65 < cLine) : MtR X "list.remove" (rRemD X.K) := by
  intro pins s σ H x xs v us Q I rx rxs h
  obtain ⟨l, ws, y, d, ds, j, z, rfl, rfl, hH, ha, hy, sl, sd, hz, hzj, hno, q⟩ := h
  cases rx
  obtain ⟨uy, rfl, ry⟩ := rxs.one
  obtain ⟨bs, r1⟩ := Dp.reads I d y uy hy ry
  have hxs : PyData.canLayAll0 ds = true := SeqAt.canLay_of_shaped sl
  have hroom : X.A.units + 1 + min (PyData.depthAll ds) d.depth < cLine := room_in_shaped sd hu
  obtain ⟨zz, its, n, r, hl, e⟩ := I.lstM hH
  obtain ⟨as, h4⟩ := Dp.readsAll I ds _ its ha r
  have hn : its.length = ds.length := SeqAt.ReadsAll.length ds its as h4
  have hmap : its.map (SeqAt.readOf s.heap) = ds := SeqAt.readsAll_map ds its as hxs h4
  have hsl := sizeLine_eq
  obtain ⟨hjd, _⟩ := List.getElem?_eq_some_iff.mp hz
  have hjl : j < its.length := by omega
  have hj : j < its.toArray.size := by simpa using hjl
  have at_ : ∀ (m : Nat) (hm : m < its.toArray.size) (z' : PyData), ds[m]? = some z' → SeqAt.readOf s.heap its.toArray[m] = z' := by
    intro m hm z' hz'
    have hml : m < its.length := by simpa using hm
    rw [← hmap, List.getElem?_map, List.getElem?_eq_getElem hml] at hz'
    have e1 : SeqAt.readOf s.heap its[m] = z' := Option.some.inj (show some (SeqAt.readOf s.heap its[m]) = some z' from hz')
    simpa using e1
  refine call_meets PySem.F.slot_list_remove ⟨_, e, rfl⟩ PySem.F.entry_list_remove (PySem.F.args_list_remove_2 _ _)
    (SeqAt.list_removeAt l its.toArray n none #[] uy (fun u => PyData.eqv (SeqAt.readOf s.heap u) d) j hj ?_ ?_ (by rw [List.size_toArray]; omega)) ⟨e, SeqAt.items_eqAt (vs := its.toArray) (show ReadsAll s.heap its.toArray.toList ds as from h4) r1 hxs (SeqAt.canLay_of_shaped sd) hroom, ?_⟩
  · show PyData.eqv (SeqAt.readOf s.heap its.toArray[j]) d = true
    rw [at_ j hj z hz]
    exact hzj
  · intro m hm hmj
    have hmd : m < ds.length := by omega
    have hz' : ds[m]? = some ds[m] := List.getElem?_eq_getElem hmd
    show PyData.eqv (SeqAt.readOf s.heap its.toArray[m]) d = false
    rw [at_ m hm _ hz']
    exact hno m _ hmj hz'
  · refine ⟨.non, _, I.lset (its' := its.eraseIdx j) hH e ?_ (r.eraseIdx j) ?_, rfl, q⟩
    · show its.toArray.eraseIdxIfInBounds j = (its.eraseIdx j).toArray
      rw [List.eraseIdxIfInBounds_toArray]
    · have := len_erase ws j
      omega
def remK (xs : List D) : Option Nat → Rs (D × List D)
  | some j => .ok (.non, xs.eraseIdx j)
  | none => .bad
noncomputable def mRem (xs : List D) (d : D) : Rs (D × List D) := if okN 60 d = true ∧ okN 60 (.lst xs) = true then remK xs (xs.findIdx? fun y => eqD y d) else .bad
theorem pys_get : ∀ {ds : List D} {j : Nat}, (pys ds)[j]? = ds[j]?.map D.py
  | [], j => by simp [pys]
  | d :: ds, 0 => by simp [pys]
  | d :: ds, j + 1 => by simp [pys, pys_get (ds := ds) (j := j)]
theorem okNs_at {n : Nat} : ∀ {ds : List D}, okNs n ds = true → ∀ {d}, d ∈ ds → okN n d = true
  | [], _, d, hd => by cases hd
  | e :: ds, h, d, hd => by
    simp only [okNs, Bool.and_eq_true] at h
    rcases List.mem_cons.mp hd with rfl | hd
    · exact h.1
    · exact okNs_at h.2 hd
theorem mut_rem : MutOk X cl (rRemD X.K) mRem := by
  intro O H a xs us d v dr ys h2 h3 h4 rp em
  unfold mRem at em
  split at em
  · rename_i hk
    cases ej : xs.findIdx? fun y => eqD y d with
    | none => rw [ej] at em; cases em
    | some j =>
      rw [ej] at em
      cases em
      have hy : okNs 59 xs = true := by have := hk.2; simpa only [okN] using this
      obtain ⟨hj, h5, h6⟩ := List.findIdx?_eq_some_iff_getElem.mp ej
      have ha : DpAll X.K H us (pys xs) := RpA.dp hy h4
      refine ⟨.non, us.eraseIdx j, Nat.le_trans (len_erase us j) h3, h4.erase j, by simp only [Rp], fun Q hQ => ⟨a, us, v, d.py, pys xs, j, xs[j].py, rfl, rfl, h2, ha, Rp.dp hk.1 rp, okD_shaped hk.2, okD_shaped hk.1, ?_, ?_, ?_, hQ⟩⟩
      · rw [pys_get, List.getElem?_eq_getElem hj]
        rfl
      · rw [eqD_py (okNs_at hy (List.getElem_mem hj)) hk.1]
        exact h5
      · intro m z' hm hz'
        have hm' : m < xs.length := by omega
        rw [pys_get, List.getElem?_eq_getElem hm'] at hz'
        cases hz'
        rw [eqD_py (okNs_at hy (List.getElem_mem hm')) hk.1]
        have := h6 m hm
        simpa using this
  · cases em
theorem ne_rem (xs : List D) (d : D) : noExc (mRem xs d) := by
  unfold mRem
  split
  · cases xs.findIdx? fun y => eqD y d <;> trivial
  · trivial
end
end Wm
end
section
namespace Wm
open PySem PySem.Spec PyProof.Rows L2
section
variable {X : Cx} {cl : Cl} {vs0 : List V} {Wx : WX} {a b c e : Expr} {pos p2 : Pos} {fl : List LOp}
def rgI (a b : Int) : List Int := (List.range (b - a).toNat).map fun i => a + (i : Nat)
noncomputable instance (a b : Int) : Decidable (RgOk a b) := Classical.propDecidable _
noncomputable def rgLst (a b : Int) : Rs SD := if RgOk a b then .ok (.own ((rgI a b).map D.int)) else .bad
noncomputable def rgTup (a b : Int) : Rs SD := if RgOk a b then .ok (.sh (.tup ((rgI a b).map D.int))) else .bad
noncomputable def pLrg1 : List D → Rs SD
  | [.int j] => rgLst 0 j
  | _ => .bad
noncomputable def pTrg1 : List D → Rs SD
  | [.int j] => rgTup 0 j
  | _ => .bad
noncomputable def pLrg2 : List D → Rs SD
  | [.int i, .int j] => rgLst i j
  | _ => .bad
noncomputable def pTrg2 : List D → Rs SD
  | [.int i, .int j] => rgTup i j
  | _ => .bad
theorem RpA.rev {G : Gx} {O : List Addr} {H : Hp} : ∀ {ds : List D} {vs : List V}, RpA G O H ds vs → RpA G O H ds.reverse vs.reverse
  | [], vs, h => by simp only [RpA] at h; subst h; simp [RpA]
  | d :: ds, vs, h => by
    simp only [RpA] at h
    obtain ⟨v, r, rfl, h1, h2⟩ := h
    rw [List.reverse_cons, List.reverse_cons]
    exact h2.rev.snoc h1
def pRev : List D → Rs SD
  | [.lst xs] => .ok (.own xs.reverse)
  | _ => .bad
def pIsBl (neg : Bool) : List D → Rs SD
  | [.bl x, .bl y] => .ok (.sh (.bl (neg ^^ decide (x = y))))
  | _ => .bad
end
end Wm
end
section
namespace Wm
open PySem PySem.Spec PyProof.Rows L2
section
variable {X : Cx} {cl : Cl} {vs0 : List V} {Wx : WX} {a b c e : Expr} {pos p2 : Pos} {fl : List LOp}
def pIsO (c : Str) : List D → Rs SD
  | [.ins c' _] => if c' = c then .ok (.sh (.bl true)) else .bad
  | [.tup _] => .ok (.sh (.bl false))
  | _ => .bad
def eqR : Rs (SD × List SD) → Rs (SD × List SD)
  | .ok (.sh (.bl b), ρ) => .ok (.sh (.bl b), ρ)
  | _ => .bad
def eqF (c : Str) (F : Fn) : Fn := fun as => match as with
  | [.sh (.ins c1 f1), .sh (.ins c2 f2)] => if c1 = c ∧ c2 = c then eqR (F [.sh (.ins c1 f1), .sh (.ins c2 f2)]) else .bad
  | _ => .bad
end
section
variable {X : Cx} {cl : Cl} {vs0 : List V} {Wx : WX} {k n : Nat} {f : Addr} {fd : FuncData} {ps ks : List Str} {x : Str} {p pos : Pos} {kws : List Keyword} {fl : List LOp} {F : Fn} {sel : List SelI} {inv : List Nat} {m : Nat}
end
@[simp] theorem pIsO_ins (c : Str) (fs : List (Str × D)) : pIsO c [.ins c fs] = .ok (.sh (.bl true)) := by
  show (if c = c then _ else _) = _
  rw [if_pos rfl]
@[simp] theorem pIsO_tup (c : Str) (ds : List D) : pIsO c [.tup ds] = .ok (.sh (.bl false)) := (rfl)
@[simp] theorem eqF_ins (c : Str) (F : Fn) (f1 f2 : List (Str × D)) : eqF c F [.sh (.ins c f1), .sh (.ins c f2)] = eqR (F [.sh (.ins c f1), .sh (.ins c f2)]) := by
  show (if c = c ∧ c = c then _ else _) = _
  rw [if_pos ⟨rfl, rfl⟩]
@[simp] theorem eqR_bl (b : Bool) (ρ : List SD) : eqR (.ok (.sh (.bl b), ρ)) = .ok (.sh (.bl b), ρ) := (rfl)
@[simp] theorem xMut1_ap (x : Nat) (m : List D → D → Rs (D × List D)) (f : Sx) (ρ : List SD) : xMut1 x m f ρ = (ownGet ρ x).bind fun _ => (f ρ).bind fun p => (ownGet p.2 x).bind fun xs => (m xs p.1.frz).bind fun q => .ok (.sh q.1, ownSet p.2 x q.2) := (rfl)
@[simp] theorem xMut0_ap (x : Nat) (m : List D → Rs (D × List D)) (ρ : List SD) : xMut0 x m ρ = (ownGet ρ x).bind fun xs => (m xs).bind fun q => .ok (.sh q.1, ownSet ρ x q.2) := (rfl)
@[simp] theorem mExt_ap (xs zs : List D) : mExt xs (.lst zs) = if xs.length + zs.length ≤ sizeLine then .ok (.non, xs ++ zs) else .bad := (rfl)
@[simp] theorem pLrg1_ap (j : Int) : pLrg1 [.int j] = rgLst 0 j := (rfl)
@[simp] theorem pTrg1_ap (j : Int) : pTrg1 [.int j] = rgTup 0 j := (rfl)
@[simp] theorem pLrg2_ap (i j : Int) : pLrg2 [.int i, .int j] = rgLst i j := (rfl)
@[simp] theorem pTrg2_ap (i j : Int) : pTrg2 [.int i, .int j] = rgTup i j := (rfl)
@[simp] theorem pRev_lst (xs : List D) : pRev [.lst xs] = .ok (.own xs.reverse) := (rfl)
@[simp] theorem pIsBl_ap (n x y : Bool) : pIsBl n [.bl x, .bl y] = .ok (.sh (.bl (n ^^ decide (x = y)))) := (rfl)
end Wm
end
section
namespace Wm
open PySem PySem.Spec PyProof.Rows L2
variable {α S : Type} {m : Itm} {st : Tg} {body : Ss} {g : α → D}
theorem for_thru (I : List SD → Prop) : ∀ {xs : List α}, (∀ x ∈ xs, ∀ ρ, I ρ → ∃ ρ', I ρ' ∧ ∀ k, forT body k (st (g x) ρ) = k ρ') → ∀ {ρ : List SD}, I ρ → ∃ ρ', I ρ' ∧ forL st body (xs.map g) ρ = .ok (.nx ρ')
  | [], _, ρ, hi => ⟨ρ, hi, rfl⟩
  | x :: xs, h, ρ, hi => by
    obtain ⟨ρ1, h1, e1⟩ := h x (by simp) ρ hi
    obtain ⟨ρ2, h2, e2⟩ := for_thru I (xs := xs) (fun y hy => h y (List.mem_cons_of_mem _ hy)) h1
    exact ⟨ρ2, h2, by rw [List.map_cons, forL_cons, e1, e2]⟩
theorem forK_thru (I : List SD → Prop) (hk : ∀ ρ, I ρ → m.keep ρ) : ∀ {xs : List α}, (∀ x ∈ xs, ∀ ρ, I ρ → ∃ ρ', I ρ' ∧ ∀ k, forT body k (st (g x) ρ) = k ρ') → ∀ {ρ : List SD}, I ρ → ∃ ρ', I ρ' ∧ forK m st body (xs.map g) ρ = .ok (.nx ρ')
  | [], _, ρ, hi => ⟨ρ, hi, by rw [List.map_nil, forK_nil, if_pos (hk ρ hi)]⟩
  | x :: xs, h, ρ, hi => by
    obtain ⟨ρ1, h1, e1⟩ := h x (by simp) ρ hi
    obtain ⟨ρ2, h2, e2⟩ := forK_thru I hk (xs := xs) (fun y hy => h y (List.mem_cons_of_mem _ hy)) h1
    exact ⟨ρ2, h2, by rw [List.map_cons, forK_cons, if_pos (hk ρ hi), e1, e2]⟩
theorem forK_fold (I : S → List SD → Prop) (f : S → α → S) (hk : ∀ s ρ, I s ρ → m.keep ρ) : ∀ {xs : List α}, (∀ x ∈ xs, ∀ s ρ, I s ρ → ∃ ρ', I (f s x) ρ' ∧ ∀ k, forT body k (st (g x) ρ) = k ρ') → ∀ {s : S} {ρ : List SD}, I s ρ → ∃ ρ', I (xs.foldl f s) ρ' ∧ forK m st body (xs.map g) ρ = .ok (.nx ρ')
  | [], _, s, ρ, hi => ⟨ρ, hi, by rw [List.map_nil, forK_nil, if_pos (hk s ρ hi)]⟩
  | x :: xs, h, s, ρ, hi => by
    obtain ⟨ρ1, h1, e1⟩ := h x (by simp) s ρ hi
    obtain ⟨ρ2, h2, e2⟩ := forK_fold I f hk (xs := xs) (fun y hy => h y (List.mem_cons_of_mem _ hy)) h1
    exact ⟨ρ2, h2, by rw [List.map_cons, forK_cons, if_pos (hk s ρ hi), e1, e2]⟩
@[simp] theorem pAbs_ev (i : Int) : pAbs [.int i] = .ok (.sh (.int i.natAbs)) := by
  show Rs.ok (SD.sh (D.int (if i < 0 then -i else i))) = _
  congr 3
  split <;> omega
theorem for_rgx {n : Nat} {g : Nat → D} {ρ : List SD} (I : Nat → List SD → Prop) (h : ∀ i ρ, i < n → I i ρ → ∃ ρ', I (i + 1) ρ' ∧ ∀ k, forT body k (st (g i) ρ) = k ρ') (h0 : I 0 ρ) : ∃ ρ', I n ρ' ∧ forL st body ((List.range n).map g) ρ = .ok (.nx ρ') := by
  obtain ⟨ρ', h1, h2⟩ := for_rg (L := forL st body ((List.range n).map g) ρ) rfl I h0 h
  exact ⟨ρ', h1, h2⟩
end Wm
end
section
namespace Wm
open PySem PySem.Spec PyProof.Rows L2
section
variable {X : Cx} {cl : Cl} {vs0 : List V} {Wx : WX}
def dSeq (f : Sx) : So := fun ρ => (f ρ).bind fun p => (itemsOf p.1.frz).bind fun xs => .ok (xs, p.2)
def dRngA (ρ : List SD) : List D → Rs (List D × List SD)
  | [.int j] => if rngOk j ∧ j.toNat ≤ sizeLine then .ok (rangeD 0 j.toNat, ρ) else .bad
  | _ => .bad
def dRngB (ρ : List SD) : List D → Rs (List D × List SD)
  | [.int i, .int j] => if rngOk i ∧ rngOk j ∧ (j - i).toNat ≤ sizeLine then .ok (rangeD i (j - i).toNat, ρ) else .bad
  | _ => .bad
def dRng1 (fl : List LOp) : So := fun ρ => (ops fl ρ).bind fun q => dRngA q.2 q.1
def dRng2 (fl : List LOp) : So := fun ρ => (ops fl ρ).bind fun q => dRngB q.2 q.1
noncomputable def lc2L (m : Itm) (st : Tg) (test : Sb) (s1 : So) (st1 : Tg) (test1 : Sb) (elt : Sx) (vs vs1 : List Nat) : List D → List SD → Rs (List D × List SD)
  | [], ρ => .ok ([], ρ)
  | d :: ds, ρ => match st d ρ with
    | some ρ1 => match test ρ1 with
      | .ok (true, ρ2) => match s1 ρ2 with
        | .ok (xs, ρ3) => match lcL ⟨xs, []⟩ st1 test1 elt vs1 xs (wipeR ρ3 vs1) with
          | .ok (es, ρ4) => if m.keep (wipeR ρ4 vs) then (lc2L m st test s1 st1 test1 elt vs vs1 ds (wipeR ρ4 vs)).bind fun q => .ok (es ++ q.1, q.2) else .bad
          | _ => .bad
        | _ => .bad
      | .ok (false, ρ2) => if m.keep (wipeR ρ2 vs) then lc2L m st test s1 st1 test1 elt vs vs1 ds (wipeR ρ2 vs) else .bad
      | _ => .bad
    | none => .bad
noncomputable def xLc2 (src : Src) (st : Tg) (test : Sb) (s1 : So) (st1 : Tg) (test1 : Sb) (elt : Sx) (vs vs1 : List Nat) : Sx := fun ρ => (src ρ).bind fun p => if p.1.keep (wipeR p.2 vs) ∧ (∀ b ∈ p.1.bor, b.1 ∉ vs) then
  match lc2L p.1 st test s1 st1 test1 elt vs vs1 p.1.xs (wipeR p.2 vs) with
  | .ok (ds, ρ') => if ds.length ≤ sizeLine then .ok (.own ds, backR p.2 ρ' vs) else .bad
  | _ => .bad
  else .bad
variable {elt tg iter tg1 iter1 : Expr} {ifs ifs1 : List Expr} {scope : Scope} {own : List (Str × Nat)} {vs1 : List Nat} {pos : Pos} {src : Src} {s1 : So} {st st1 : Tg} {is is1 : List Nat} {test test1 : Sb} {f : Sx}
end
end Wm
end
section
namespace Wm
open PySem PySem.Spec PyProof.Rows L2
section
variable {X : Cx} {cl : Cl} {vs0 : List V} {Wx : WX}
def isEO (ρ : List SD) (tb : List (Str × Bool)) : Option SD → Rs (SD × List SD)
  | some (.xn c _) => match tb.lookup c with
    | some b => .ok (.sh (.bl b), ρ)
    | none => .bad
  | _ => .bad
def xIsE (i : Nat) (tb : List (Str × Bool)) : Sx := fun ρ => isEO ρ tb ρ[i]?
end
@[simp] theorem xIsE_ap (i : Nat) (tb : List (Str × Bool)) (ρ : List SD) : xIsE i tb ρ = isEO ρ tb ρ[i]? := (rfl)
def isEB (ρ : List SD) : Option Bool → Rs (SD × List SD)
  | some b => .ok (.sh (.bl b), ρ)
  | none => .bad
@[simp] theorem isEO_ap (ρ : List SD) (tb : List (Str × Bool)) (c : Str) (fs : List (Str × D)) : isEO ρ tb (some (.xn c fs)) = isEB ρ (tb.lookup c) := by
  show (match tb.lookup c with | some b => Rs.ok (SD.sh (D.bl b), ρ) | none => Rs.bad) = _
  cases tb.lookup c <;> rfl
@[simp] theorem isEB_ap (ρ : List SD) (b : Bool) : isEB ρ (some b) = .ok (.sh (.bl b), ρ) := (rfl)
@[simp] theorem lookB_nil (n : Str) : List.lookup n ([] : List (Str × Bool)) = none := (rfl)
@[simp] theorem lookB_cons (n m : Str) (d : Bool) (r : List (Str × Bool)) : List.lookup n ((m, d) :: r) = if n == m then some d else List.lookup n r := by
  rw [List.lookup]
  cases n == m <;> rfl
@[simp] theorem dSeq_ap (f : Sx) (ρ : List SD) : dSeq f ρ = (f ρ).bind fun p => (itemsOf p.1.frz).bind fun xs => .ok (xs, p.2) := (rfl)
@[simp] theorem dRng1_ap (fl : List LOp) (ρ : List SD) : dRng1 fl ρ = (ops fl ρ).bind fun q => dRngA q.2 q.1 := (rfl)
@[simp] theorem dRng2_ap (fl : List LOp) (ρ : List SD) : dRng2 fl ρ = (ops fl ρ).bind fun q => dRngB q.2 q.1 := (rfl)
@[simp] theorem dRngA_ap (ρ : List SD) (j : Int) : dRngA ρ [.int j] = if rngOk j ∧ j.toNat ≤ sizeLine then .ok (rangeD 0 j.toNat, ρ) else .bad := (rfl)
@[simp] theorem dRngB_ap (ρ : List SD) (i j : Int) : dRngB ρ [.int i, .int j] = if rngOk i ∧ rngOk j ∧ (j - i).toNat ≤ sizeLine then .ok (rangeD i (j - i).toNat, ρ) else .bad := (rfl)
def lc2Back (vs : List Nat) (ρ : List SD) : Rs (List D × List SD) → Rs (SD × List SD)
  | .ok (ds, ρ') => if ds.length ≤ sizeLine then .ok (.own ds, backR ρ ρ' vs) else .bad
  | _ => .bad
@[simp] theorem lc2Back_ok (vs : List Nat) (ρ : List SD) (ds : List D) (ρ' : List SD) : lc2Back vs ρ (.ok (ds, ρ')) = if ds.length ≤ sizeLine then .ok (.own ds, backR ρ ρ' vs) else .bad := (rfl)
noncomputable def lc2Go (st : Tg) (test : Sb) (s1 : So) (st1 : Tg) (test1 : Sb) (elt : Sx) (vs vs1 : List Nat) (m : Itm) (ρ : List SD) : Rs (SD × List SD) := if m.keep (wipeR ρ vs) ∧ (∀ b ∈ m.bor, b.1 ∉ vs) then lc2Back vs ρ (lc2L m st test s1 st1 test1 elt vs vs1 m.xs (wipeR ρ vs)) else .bad
@[simp] theorem lc2Go_ap (st : Tg) (test : Sb) (s1 : So) (st1 : Tg) (test1 : Sb) (elt : Sx) (vs vs1 : List Nat) (m : Itm) (ρ : List SD) : lc2Go st test s1 st1 test1 elt vs vs1 m ρ = if m.keep (wipeR ρ vs) ∧ (∀ b ∈ m.bor, b.1 ∉ vs) then lc2Back vs ρ (lc2L m st test s1 st1 test1 elt vs vs1 m.xs (wipeR ρ vs)) else .bad := (rfl)
@[simp] theorem xLc2_ap (src : Src) (st : Tg) (test : Sb) (s1 : So) (st1 : Tg) (test1 : Sb) (elt : Sx) (vs vs1 : List Nat) (ρ : List SD) : xLc2 src st test s1 st1 test1 elt vs vs1 ρ = (src ρ).bind fun p => lc2Go st test s1 st1 test1 elt vs vs1 p.1 p.2 := by
  unfold xLc2 lc2Go
  refine congrArg _ (funext fun p => ?_)
  split
  · unfold lc2Back
    rfl
  · rfl
@[simp] theorem lc2L_nil (m : Itm) (st : Tg) (test : Sb) (s1 : So) (st1 : Tg) (test1 : Sb) (elt : Sx) (vs vs1 : List Nat) (ρ : List SD) : lc2L m st test s1 st1 test1 elt vs vs1 [] ρ = .ok ([], ρ) := (rfl)
end Wm
end
section
namespace Wm
open PySem PySem.Spec PyProof.Rows L2
section
variable {prog : Program} {w : World} {A A₀ : Around} {E : Value → Shared → Prop} {s : Shared} {K : PySem.W.Frag} {x C L f : Addr} {h₀ : Heap} {m : Str → Option Value} {ox : Obj} {od : Option Obj} {name : Str} {b tb : Value}
open PySem.W in
open PySem.W in
open PySem.W in
end
section
variable {X : Cx} {cl : Cl} {vs0 : List V} {Wx : WX} {a b c e : Expr} {pos p2 : Pos} {fl : List LOp}
def neR : Rs (SD × List SD) → Rs (SD × List SD)
  | .ok (.sh (.bl b), ρ) => .ok (.sh (.bl (!b)), ρ)
  | _ => .bad
def neF (c : Str) (F : Fn) : Fn := fun as => match as with
  | [.sh (.ins c1 f1), .sh (.ins c2 f2)] => if c1 = c ∧ c2 = c then neR (F [.sh (.ins c1 f1), .sh (.ins c2 f2)]) else .bad
  | [.sh (.ins c1 f1), .sh (.tup ds)] => if c1 = c then neR (F [.sh (.ins c1 f1), .sh (.tup ds)]) else .bad
  | _ => .bad
end
@[simp] theorem neF_ins (c : Str) (F : Fn) (f1 f2 : List (Str × D)) : neF c F [.sh (.ins c f1), .sh (.ins c f2)] = neR (F [.sh (.ins c f1), .sh (.ins c f2)]) := by
  show (if c = c ∧ c = c then _ else _) = _
  rw [if_pos ⟨rfl, rfl⟩]
@[simp] theorem neF_tup (c : Str) (F : Fn) (f1 : List (Str × D)) (ds : List D) : neF c F [.sh (.ins c f1), .sh (.tup ds)] = neR (F [.sh (.ins c f1), .sh (.tup ds)]) := by
  show (if c = c then _ else _) = _
  rw [if_pos rfl]
@[simp] theorem neR_bl (b : Bool) (ρ : List SD) : neR (.ok (.sh (.bl b), ρ)) = .ok (.sh (.bl (!b)), ρ) := (rfl)
end Wm
end
section
namespace Wm
open PySem PySem.Spec PyProof.Rows L2
section
variable {prog : Program} {w : World} {A : Around} {E : Value → Shared → Prop} {s : Shared}
theorem adj_rev (n : Nat) : Builtin.Slice.sliceAdjust none none (-1) (n : Int) = ((n : Int) - 1, -1) := by
  first
  | rfl
  | simp [Builtin.Slice.sliceAdjust]
theorem places_rev (n : Nat) : Builtin.Slice.slicePlaces ((n : Int) - 1) (-1) (-1) = n := by
  unfold Builtin.Slice.slicePlaces
  have h1 : ¬ ((-1 : Int) > 0) := by decide
  by_cases h : (n : Int) - 1 > -1
  · simp only [h1, if_false, h, if_true]
    rw [show (- -1 : Int) = 1 by decide]
    omega
  · have e : n = 0 := by omega
    subst e
    simp
theorem applied_rev {sl : Addr} {vl vu vk : Value} {n : Nat} {Q : Int × Int × Nat → Shared → Prop} (hs : s.heap.IsSliceOf sl vl vu vk) (pl : IsPart vl none) (pu : IsPart vu none) (pk : IsPart vk (some (-1)))
    (h : Q ((n : Int) - 1, -1, n) s) : wpAny (model prog w) A (Builtin.Slice.sliceApplied (.ref sl) (pure (n : Int))) Q E s := by
  obtain ⟨os, hos, hcs, hds⟩ := id hs
  unfold Builtin.Slice.sliceApplied Builtin.Slice.sliceFields
  refine wpAny_bind (wpAny_bind (wpAny_field hos hds (x := vl) rfl (wpAny_bind (wpAny_field hos hds (x := vu) rfl (wpAny_bind (wpAny_field hos hds (x := vk) rfl (wpAny_pure ?_)))))))
  refine wpAny_bind (HT.slicePart_ pk ?_)
  show wpAny _ _ (if ((-1 : Int) == 0) = true then _ else _) _ _ s
  rw [if_neg (by decide)]
  refine wpAny_bind (HT.slicePart_ pl (wpAny_bind (HT.slicePart_ pu (wpAny_bind (wpAny_pure ?_)))))
  show wpAny _ _ (match Builtin.Slice.sliceAdjust none none (-1) (n : Int) with | (lo, hi) => pure (lo, (-1 : Int), Builtin.Slice.slicePlaces lo hi (-1))) _ _ s
  rw [adj_rev n]
  show wpAny _ _ (pure ((n : Int) - 1, (-1 : Int), Builtin.Slice.slicePlaces ((n : Int) - 1) (-1) (-1))) _ _ s
  rw [places_rev]
  exact wpAny_pure h
theorem fm_congr {α β : Type} {f g : α → Option β} : ∀ {l : List α}, (∀ x ∈ l, f x = g x) → l.filterMap f = l.filterMap g
  | [], _ => rfl
  | x :: l, h => by
    rw [List.filterMap_cons, List.filterMap_cons, h x (List.mem_cons_self ..), fm_congr (l := l) fun y m => h y (List.mem_cons_of_mem _ m)]
theorem pick_rev (xs : Array Value) : ((List.range xs.size).filterMap fun (m : Nat) => xs[(((xs.size : Int) - 1) + (m : Int) * -1).toNat]?).toArray = xs.toList.reverse.toArray := by
  congr 1
  rw [← PySem.W.krv_all xs, ← List.filterMap_reverse, ← PySem.W.krv_range, List.filterMap_map]
  refine fm_congr fun m hm => ?_
  have := List.mem_range.mp hm
  simp only [Function.comp]
  rw [show (((xs.size : Int) - 1) + (m : Int) * -1).toNat = xs.size - 1 - m by omega]
theorem getItem_tuple_rev {t sl : Addr} {items : Array Value} {vl vu vk : Value} {Q : Value → Shared → Prop} (ht : IsTup s.heap t items) (hs : s.heap.IsSliceOf sl vl vu vk) (pl : IsPart vl none) (pu : IsPart vu none) (pk : IsPart vk (some (-1)))
    (h : Q (.ref s.heap.objs.size) { s with heap := s.heap.push { cls := .type "tuple", data := .seq items.toList.reverse.toArray } })
    (hsz : items.size ≤ sizeLine) : wpAny (model prog w) A (getItem (.ref t) (.ref sl)) Q E s := by
  have htake : sizeOk (.seq items.toList.reverse.toArray) := by
    show items.toList.reverse.toArray.size ≤ sizeLine
    rw [List.size_toArray, List.length_reverse, Array.length_toList]
    omega
  obtain ⟨os, hos, hcs, hds⟩ := id hs
  have hTs : s.TypeIs (.ref sl) "slice" := ⟨os, hos, hcs⟩
  unfold getItem
  try with_reducible refine wpAny_holding ?_
  first | refine wpAny_bind (wpAny_pure ?_) | skip
  refine wpAny_bind (wpAny_sequenceKey ht.typeIs (by decide) ?_)
  refine wpAny_bind (wpAny_callSpecial?_slot (name := Str.ofString "__getitem__") ht.typeIs PyProof.Rows.slot_tuple_getitem
    (wpAny_call_entry PyProof.Rows.slot_tuple_getitem ht.typeIs entry_tuple_getitem ?_ (args_tuple_getitem _ _)))
  show wpAny _ _ (Builtin.Tuple.tupleItemsOf (.ref t) >>= _) _ _ s
  refine wpAny_bind (tupleItemsOf_ ht ?_)
  refine wpAny_bind (wpAny_typeOf hTs ?_)
  rw [if_pos (by decide)]
  refine wpAny_bind (applied_rev hs pl pu pk ?_)
  have hno : ¬ ((((items.size : Int) - 1) == 0 && (-1 : Int) == 1 && items.size == items.size) = true) := by
    intro q
    rw [Bool.and_eq_true, Bool.and_eq_true] at q
    have := q.1.2
    exact absurd this (by decide)
  show wpAny _ _ (if ((((items.size : Int) - 1) == 0 && (-1 : Int) == 1 && items.size == items.size) = true) then _ else _) _ _ s
  rw [if_neg hno, pick_rev]
  first
    | exact wpAny_bind (m := Builtin.Tuple.tupleExact _) (wpAny_newObj_type (wpAny_pure ⟨_, rfl, wpAny_pure h⟩) htake)
    | exact wpAny_bind (m := Builtin.Tuple.tupleExact _) (wpAny_newObj_type (wpAny_bind (wpAny_pure (wpAny_pure ⟨_, rfl, wpAny_pure h⟩))) htake)
    | exact wpAny_bind (wpAny_bind (m := Builtin.Tuple.tupleExact _) (wpAny_newObj_type (wpAny_pure (wpAny_pure ⟨_, rfl, wpAny_pure h⟩)) htake))
    | exact wpAny_bind (wpAny_bind (m := Builtin.Tuple.tupleExact _) (wpAny_newObj_type (wpAny_pure ⟨_, rfl, wpAny_pure h⟩) htake))
end
section
variable {X : Cx} {cl : Cl} {vs0 : List V} {Wx : WX}
def rRev (K : PySem.W.Frag) (x : V) (H : Hp) (Q : VK) : Prop :=
  (∃ a xs, x = .ref a ∧ SqL K H a xs ∧ ∀ p, H p = none → Q (.ref p) (upd H p (.lst xs.reverse))) ∨ (∃ a xs, x = .ref a ∧ SqT K H a xs ∧ ∀ p, H p = none → Q (.ref p) (upd H p (.tup xs.reverse)))
theorem pe_revA {e : Expr} {te : TE} {k : Nat} {p1 p2 p3 pos : Pos} (he : PE X e te) : PE X (.Subscript e (.Slice none none (some (.UnaryOp .USub (.Constant (.int 1) k p1) p2)) p3) pos) (fun σ H Q => te σ H fun x H1 => rRev X.K x H1 Q) := by
  refine ⟨fun pins s σ H Q I h => ?_⟩
  refine Subscript_ (thn (he.run pins s σ H _ I h) fun v s1 ⟨x, H1, I1, r1, q1⟩ => ?_)
  have ⟨a, ex⟩ : ∃ a, x = .ref a := by
    rcases q1 with ⟨a, _, e, _⟩ | ⟨a, _, e, _⟩
    · exact ⟨a, e⟩
    · exact ⟨a, e⟩
  subst ex
  cases r1
  have hst : PO X (some (.UnaryOp .USub (.Constant (.int 1) k p1) p2)) (tPart (tUn (rU fun i => .int (-i)) (tC (.int 1)))) := po_some (pe_un un_neg pe_int)
  refine wpAny_Slice (thn (po_none.run pins s1 σ H1 (fun o H2 => o = none ∧ H2 = H1) I1 ⟨rfl, rfl⟩) fun vl s2 ⟨l, H2, I2, pl, el, e2⟩ => ?_)
  subst el e2
  refine thn (po_none.run pins s2 σ H2 (fun o H3 => o = none ∧ H3 = H2) I2 ⟨rfl, rfl⟩) fun vu s3 ⟨u, H3, I3, pu, eu, e3⟩ => ?_
  subst eu e3
  refine thn (hst.run pins s3 σ H3 (fun o H4 => o = some (-1) ∧ H4 = H3) I3 ⟨1, rfl, -1, rfl, rfl, rfl⟩) fun vs s4 ⟨o, H4, I4, ps, eo, e4⟩ => ?_
  subst eo e4
  have I5 : Inv X pins σ H4 { s4 with heap := s4.heap.push { cls := .type "slice", data := .fields #[vl, vu, vs] } } := I4.kept (t' := s4.toks) fun b ob q => Heap.get?_push_of_some _ q
  show wpAny (model X.prog X.w) X.A (subscriptTail e (.Slice none none (some (.UnaryOp .USub (.Constant (.int 1) k p1) p2)) p3) (.ref a) (.ref s4.heap.objs.size)) (EP X pins σ Q) X.xe { s4 with heap := s4.heap.push { cls := .type "slice", data := .fields #[vl, vu, vs] } }
  rcases q1 with ⟨a', xs, ea, hx, q⟩ | ⟨a', xs, ea, hx, q⟩
  · cases ea
    obtain ⟨its, r, ht, hz⟩ := I5.list hx
    have hlen := r.length
    refine tail_any (ops := [.ref a, .ref s4.heap.objs.size]) ht.isList.typeIs (PySem.slot_list_getitem.lookup) ?_ (by with_unfolding_all rfl)
    refine wpAny_getItem_list_slice ht.isList (Heap.IsSliceOf.new _ vl vu vs) pl pu ps (by decide) ?_ (by rw [List.size_toArray]; omega)
    rw [PySem.W.krv_pick]
    refine ⟨.ref _, _, I5.laid (t' := s4.toks) (o := .lst xs.reverse) (fun b ob q => Heap.get?_push_of_some _ q) (Nat.le_refl _) ?_, rfl, q _ (I5.hok.fresh (Nat.le_refl _))⟩
    exact ⟨by rw [List.length_reverse]; exact hz, _, 0, r.reverse, Heap.get?_push_size _ rfl⟩
  · cases ea
    obtain ⟨its, r, ht, hz⟩ := I5.tuple hx
    have hlen := r.length
    refine tail_any (ops := [.ref a, .ref s4.heap.objs.size]) ht.typeIs (PyProof.Rows.slot_tuple_getitem.lookup) ?_ (by with_unfolding_all rfl)
    refine getItem_tuple_rev ht (Heap.IsSliceOf.new _ vl vu vs) pl pu ps ?_ (by rw [List.size_toArray]; omega)
    refine ⟨.ref _, _, I5.laid (t' := s4.toks) (o := .tup xs.reverse) (fun b ob q => Heap.get?_push_of_some _ q) (Nat.le_refl _) ?_, rfl, q _ (I5.hok.fresh (Nat.le_refl _))⟩
    exact ⟨by rw [List.length_reverse]; exact hz, _, r.reverse, IsTup.new _ _⟩
def pRevA : List D → Rs SD
  | [.lst xs] => .ok (.own xs.reverse)
  | [.tup xs] => .ok (.sh (.tup xs.reverse))
  | _ => .bad
@[simp] theorem pRevA_lst (xs : List D) : pRevA [.lst xs] = .ok (.own xs.reverse) := (rfl)
@[simp] theorem pRevA_tup (xs : List D) : pRevA [.tup xs] = .ok (.sh (.tup xs.reverse)) := (rfl)
theorem ej_revA {a : Expr} {fl : List LOp} {pos : Pos} {k : Nat} {p1 p2 p3 : Pos} (h : OJ X cl vs0 Wx [a] fl) : EJ X cl vs0 Wx (.Subscript a (.Slice none none (some (.UnaryOp .USub (.Constant (.int 1) k p1) p2)) p3) pos) (xPrim fl pRevA) := by
  obtain ⟨ta, ha, q⟩ := one_of h
  refine ⟨⟨_, pe_revA ha, prim_core (rd := rd1 fun x H Q => rRev X.K x H Q) (fun O W H ds vs Q w ho hp => ?_) q⟩⟩
  unfold pRevA at hp
  split at hp
  · obtain ⟨x, rfl, h1⟩ := ho.one
    obtain ⟨a, vs, rfl, h2, h3, h4⟩ := h1.lst
    exact .inl ⟨a, vs, rfl, SqL.of h2, fun p n => hp p _ _ (same_upd n) n upd_same (by rw [List.length_reverse]; exact h3) h4.rev⟩
  · obtain ⟨x, rfl, h1⟩ := ho.one
    obtain ⟨a, vs, rfl, h2, h4⟩ := h1.tup
    exact .inr ⟨a, vs, rfl, h2.sq, fun p n => hp _ _ (same_upd n) (rp_tup w n (by rw [List.length_reverse]; exact h2.1) h4.rev)⟩
  · exact hp.elim
variable {a b : Expr} {fl : List LOp} {pos : Pos}
end
end Wm
end
section
namespace Wm
open PySem PySem.Spec PyProof.Rows L2
section
variable {G : Gx} {O W : List Addr} {σ : L2.St} {H : Hp} {ρ : List SD} {vs : List V}
theorem SR.tl {v : V} {o : Option V} (r : SR G (v :: vs) O W (o :: σ) H ρ) : SR G vs O W σ H ρ.tail := by
  have hl := r.len
  cases ρ with
  | nil => cases hl
  | cons s0 ρ =>
    refine ⟨r.wf, by simpa using hl, fun i s e => ?_, fun i j s t a e1 e2 m1 m2 s1 s2 => ?_, r.tabs, r.ows.reix (fun i j => j = i + 1) (fun i i' j h1 h2 => by omega) fun i s e _ => ⟨i + 1, rfl, by simpa using e, by simp⟩⟩
    · have q := r.slot (i + 1) s (by simpa using e)
      simpa using q
    · have := r.apart (i + 1) (j + 1) s t a (by simpa using e1) (by simpa using e2) m1 m2 (by simpa using s1) (by simpa using s2)
      omega
end
def mkR (c : Str) (n : Nat) : Rs (List (Str × D) × List SD) → Rs (SD × List SD)
  | .ok (fs, ρ) => .ok (.sh (.ins c fs), (trim (n + 1) ρ).tail)
  | .exc ce es ρ => .exc ce es (trim (n + 1) ρ).tail
  | .bad => .bad
section
end
section
variable {X : Cx} {cl : Cl} {vs0 : List V} {Wx : WX} {k n : Nat} {f : Addr} {fd : FuncData} {ps ks : List Str} {x c : Str} {p pos : Pos} {e : Expr} {es : List Expr} {kws : List Keyword} {fl : List LOp} {F : Fn} {sel : List SelI} {inv : List Nat}
end
@[simp] theorem mkR_ok (c : Str) (n : Nat) (fs : List (Str × D)) (ρ : List SD) : mkR c n (.ok (fs, ρ)) = .ok (.sh (.ins c fs), (trim (n + 1) ρ).tail) := (rfl)
@[simp] theorem mkR_exc (c ce : Str) (n : Nat) (es : List (Str × D)) (ρ : List SD) : mkR c n (.exc ce es ρ) = .exc ce es (trim (n + 1) ρ).tail := (rfl)
end Wm
end
section
namespace Wm
open PySem PySem.Spec PyProof.Rows L2
def putI (kvs : List (Int × D)) (k : Int) (d : D) : List (Int × D) :=
  if (kvs.any fun kv => decide (kv.1 = k)) = true then kvs.map (fun kv => if kv.1 = k then (kv.1, d) else kv) else kvs ++ [(k, d)]
section
variable {G : Gx} {O W : List Addr} {H : Hp}
theorem RpD.any {k : Int} : ∀ {kvs : List (Int × D)} {gs : List (Key × V)}, RpD G O H kvs gs → (gs.any fun kv => decide (kv.1 = Sum.inl k)) = kvs.any fun kv => decide (kv.1 = k)
  | [], gs, h => by simp only [RpD] at h; subst h; rfl
  | (n, d) :: kvs, gs, h => by
    simp only [RpD] at h
    obtain ⟨v, r, rfl, h1, h2⟩ := h
    rw [List.any_cons, List.any_cons, RpD.any h2]
    congr 1
    by_cases e : n = k
    · subst e; simp
    · have : ¬ ((Sum.inl n : Key) = Sum.inl k) := fun z => e (Sum.inl.inj z)
      simp [e, this]
theorem RpD.map {k : Int} {d : D} {v : V} (hv : Rp G O H d v) : ∀ {kvs : List (Int × D)} {gs : List (Key × V)}, RpD G O H kvs gs → RpD G O H (kvs.map (fun kv => if kv.1 = k then (kv.1, d) else kv)) (gs.map (fun kv => if kv.1 = Sum.inl k then (kv.1, v) else kv))
  | [], gs, h => by simp only [RpD] at h; subst h; simp [RpD]
  | (n, e) :: kvs, gs, h => by
    simp only [RpD] at h
    obtain ⟨u, r, rfl, h1, h2⟩ := h
    have ih := RpD.map hv h2 (k := k)
    by_cases q : n = k
    · subst q
      simp only [List.map_cons, if_true, RpD]
      exact ⟨v, _, rfl, hv, ih⟩
    · have q' : ¬ ((Sum.inl n : Key) = Sum.inl k) := fun z => q (Sum.inl.inj z)
      simp only [List.map_cons, if_neg q, if_neg q', RpD]
      exact ⟨u, _, rfl, h1, ih⟩
theorem RpD.snoc {k : Int} {d : D} {v : V} (hv : Rp G O H d v) : ∀ {kvs : List (Int × D)} {gs : List (Key × V)}, RpD G O H kvs gs → RpD G O H (kvs ++ [(k, d)]) (gs ++ [(Sum.inl k, v)])
  | [], gs, h => by
    simp only [RpD] at h
    subst h
    simp only [List.nil_append, RpD]
    exact ⟨v, [], rfl, hv, rfl⟩
  | (n, e) :: kvs, gs, h => by
    simp only [RpD] at h
    obtain ⟨u, r, rfl, h1, h2⟩ := h
    simp only [List.cons_append, RpD]
    exact ⟨u, _, rfl, h1, RpD.snoc hv h2⟩
theorem RpD.put {k : Int} {d : D} {v : V} (hv : Rp G O H d v) {kvs : List (Int × D)} {gs : List (Key × V)} (h : RpD G O H kvs gs) : RpD G O H (putI kvs k d) (putK gs (Sum.inl k) v) := by
  unfold putI putK
  rw [RpD.any h]
  split
  · exact RpD.map hv h
  · exact RpD.snoc hv h
end
section
variable {X : Cx} {cl : Cl} {vs0 : List V} {Wx : WX}
end
section
variable {X : Cx} {cl : Cl} {vs0 : List V} {Wx : WX} {k n : Nat} {f : Addr} {fd : FuncData} {ps ks : List Str} {c m : Str} {o e : Expr} {es : List Expr} {kws : List Keyword} {apos pos : Pos} {pl : Sem Bool} {C : Addr} {fo : Sx} {fl : List LOp} {F : Fn} {sel : List SelI} {inv : List Nat}
def chkR (c m : Str) (ρ : List SD) : SD → Rs (SD × List SD)
  | .sh (.ins c' fs) => if c' = c ∧ fs.lookup m = none then .ok (.sh (.ins c' fs), ρ) else .bad
  | _ => .bad
def chkM (c m : Str) (fo : Sx) : Sx := fun ρ => (fo ρ).bind fun p => chkR c m p.2 p.1
abbrev PI (C : Addr) (m : Str) (v : V) (H : Hp) : Prop := ∃ a dx fs, v = .ref a ∧ H a = some (.ins C dx fs) ∧ fs.lookup m = none
end
@[simp] theorem chkM_ap (c m : Str) (fo : Sx) (ρ : List SD) : chkM c m fo ρ = (fo ρ).bind fun p => chkR c m p.2 p.1 := (rfl)
@[simp] theorem chkR_ins (c m : Str) (ρ : List SD) (fs : List (Str × D)) : chkR c m ρ (.sh (.ins c fs)) = if fs.lookup m = none then .ok (.sh (.ins c fs), ρ) else .bad := by
  show (if c = c ∧ fs.lookup m = none then _ else _) = _
  by_cases h : fs.lookup m = none
  · rw [if_pos ⟨rfl, h⟩, if_pos h]
  · rw [if_neg (fun z => h z.2), if_neg h]
mutual
def D.sz : D → Nat
  | .int i => i.natAbs
  | .tup xs => szs xs
  | .lst xs => szs xs
  | _ => 0
def szs : List D → Nat
  | [] => 0
  | x :: xs => x.sz + szs xs
end
def SD.sz : SD → Nat
  | .sh d => d.sz
  | .own xs => szs xs
  | .byr xs => szs xs
  | _ => 0
def szS : List SD → Nat
  | [] => 2
  | s :: r => s.sz + szS r
theorem szs_mem {d : D} : ∀ {xs : List D}, d ∈ xs → d.sz ≤ szs xs
  | x :: xs, h => by
    simp only [szs]
    rcases List.mem_cons.mp h with rfl | h
    · omega
    · have := szs_mem h
      omega
theorem szS_mem {s : SD} : ∀ {ρ : List SD}, s ∈ ρ → s.sz + 2 ≤ szS ρ
  | x :: ρ, h => by
    simp only [szS]
    rcases List.mem_cons.mp h with rfl | h
    · have : ∀ ρ : List SD, 2 ≤ szS ρ := fun ρ => by
        induction ρ with
        | nil => simp [szS]
        | cons a b ih => simp only [szS]; omega
      have := this ρ
      omega
    · have := szS_mem h
      omega
end Wm
end
section
namespace Wm
open PySem PySem.Spec PyProof.Rows L2
mutual
def noI : D → Bool
  | .ins _ _ => false
  | .tup xs => noIs xs
  | .lst xs => noIs xs
  | .dct _ => false
  | _ => true
def noIs : List D → Bool
  | [] => true
  | x :: xs => noI x && noIs xs
end
def noIS : SD → Bool
  | .no => true
  | .sh d => noI d
  | .own xs => noIs xs
  | .byr xs => noIs xs
  | _ => false
section
variable {G : Gx} {O W : List Addr} {H : Hp} {x C dx : Addr} {gs : List (Str × V)}
theorem TO.more {a : Addr} {vs : List V} (hx : H x = some (.ins C dx gs)) (h : TO G.K O H a vs) : TO G.K (x :: O) H a vs := by
  refine ⟨h.1, ?_⟩
  rcases h.2 with ⟨r, hn⟩ | h
  · refine .inl ⟨r, fun z => ?_⟩
    rcases List.mem_cons.mp z with e | e
    · subst e
      rcases r with r | ⟨o, r⟩ <;> (rw [hx] at r; cases r)
    · exact hn e
  · exact .inr h
theorem LO.more {a : Addr} {vs : List V} (hx : H x = some (.ins C dx gs)) (h : LO G.K O H a vs) : LO G.K (x :: O) H a vs := by
  refine ⟨h.1, h.2.1, fun z => ?_⟩
  rcases List.mem_cons.mp z with e | e
  · subst e
    have := h.2.1
    rw [hx] at this
    cases this
  · exact h.2.2 e
mutual
theorem Rp.more (hx : H x = some (.ins C dx gs)) : ∀ {d : D} {v : V}, noI d = true → Rp G O H d v → Rp G (x :: O) H d v
  | .non, v, _, h => by simpa only [Rp] using h
  | .bl b, v, _, h => by simpa only [Rp] using h
  | .int i, v, _, h => by simpa only [Rp] using h
  | .str s, v, _, h => by simpa only [Rp] using h
  | .tup ds, v, n, h => by
    simp only [Rp] at h ⊢
    simp only [noI] at n
    obtain ⟨a, vs, e, t, r⟩ := h
    exact ⟨a, vs, e, t.more hx, RpA.more hx n r⟩
  | .lst ds, v, n, h => by
    simp only [Rp] at h ⊢
    simp only [noI] at n
    obtain ⟨a, vs, e, t, r⟩ := h
    exact ⟨a, vs, e, t.more hx, RpA.more hx n r⟩
  | .ins c fs, v, n, h => by simp [noI] at n
  | .scr ns, v, _, h => by
    simp only [Rp] at h ⊢
    obtain ⟨a, e, t⟩ := h
    refine ⟨a, e, t.1, ?_⟩
    rcases t.2 with ⟨r, hn⟩ | r
    · refine .inl ⟨r, fun z => ?_⟩
      rcases List.mem_cons.mp z with e | e
      · subst e
        rcases r with r | ⟨o, r⟩ <;> (rw [hx] at r; cases r)
      · exact hn e
    · exact .inr r
  | .dct kvs, v, n, h => by simp [noI] at n
theorem RpA.more (hx : H x = some (.ins C dx gs)) : ∀ {ds : List D} {vs : List V}, noIs ds = true → RpA G O H ds vs → RpA G (x :: O) H ds vs
  | [], vs, _, h => by simpa only [RpA] using h
  | d :: ds, vs, n, h => by
    simp only [RpA] at h ⊢
    simp only [noIs, Bool.and_eq_true] at n
    obtain ⟨v, r, e, h1, h2⟩ := h
    exact ⟨v, r, e, Rp.more hx n.1 h1, RpA.more hx n.2 h2⟩
end
theorem OwnAt.more {a : Addr} {xs : List D} (hx : H x = some (.ins C dx gs)) (n : noIs xs = true) (h : OwnAt G O W H a xs) : OwnAt G (x :: O) W H a xs := by
  obtain ⟨h1, vs, h2, h3, h4⟩ := h
  exact ⟨h1, vs, h2, h3, h4.more hx n⟩
end
section
variable {G : Gx} {O W O2 W2 : List Addr} {H H2 : Hp} {x dx : Addr} {gs : List (Str × V)} {σ : L2.St} {vs0 : List V} {r r' : List SD} {ρ0 : List SD} {c : Str} {fs : List (Str × D)}
end
section
variable {X : Cx} {cl : Cl} {vs0 : List V} {Wx : WX} {c : Str}
open Classical in
noncomputable def selfR (c : Str) (fs : List (Str × D)) {α : Type} (ok : α → Prop) (k : α → List SD → Rs (List (Str × D) × List SD)) : Rs (α × List SD) → Rs (List (Str × D) × List SD)
  | .ok (a, .sh (.ins c' fs') :: r') => if (c' = c ∧ fs' = fs) ∧ r'.all noIS = true ∧ ok a then k a (.gv :: r') else .bad
  | .exc ce es ρ' => .exc ce es ρ'
  | _ => .bad
theorem selfR_pos {c c' : Str} {fs fs' : List (Str × D)} {α : Type} {ok : α → Prop} {k : α → List SD → Rs (List (Str × D) × List SD)} {a : α} {r' : List SD} (h : (c' = c ∧ fs' = fs) ∧ r'.all noIS = true ∧ ok a) : selfR c fs ok k (.ok (a, .sh (.ins c' fs') :: r')) = k a (.gv :: r') := by
  unfold selfR
  exact if_pos h
@[simp] theorem selfR_same (c : Str) (fs : List (Str × D)) {α : Type} (ok : α → Prop) (k : α → List SD → Rs (List (Str × D) × List SD)) (a : α) (r' : List SD) (h1 : r'.all noIS = true) (h2 : ok a) : selfR c fs ok k (.ok (a, .sh (.ins c fs) :: r')) = k a (.gv :: r') := selfR_pos ⟨⟨rfl, rfl⟩, h1, h2⟩
@[simp] theorem selfR_exc (c : Str) (fs : List (Str × D)) {α : Type} (ok : α → Prop) (k : α → List SD → Rs (List (Str × D) × List SD)) (ce : Str) (es : List (Str × D)) (ρ : List SD) : selfR c fs ok k (.exc ce es ρ) = .exc ce es ρ := (rfl)
noncomputable def nStoS (c f : Str) (g : Sx) (h : Sn) : Sn := fun fs ρ => if isGv ρ = true ∧ fs.length < 1000 then selfR c fs (fun a => noI a.frz = true) (fun a ρ' => h (putD f a.frz fs) ρ') (g (.sh (.ins c fs) :: ρ.tail)) else .bad
noncomputable def nIfS (c : Str) (t : Sb) (g : Ss) (h : Sn) : Sn := fun fs ρ => if isGv ρ = true then selfR c fs (fun _ => True) (fun b ρ' => bif b then nSeqR h fs (g ρ') else h fs ρ') (t (.sh (.ins c fs) :: ρ.tail)) else .bad
end
@[simp] theorem nStoS_ap (c f : Str) (g : Sx) (h : Sn) (fs : List (Str × D)) (r : List SD) : nStoS c f g h fs (.gv :: r) = if fs.length < 1000 then selfR c fs (fun a => noI a.frz = true) (fun a ρ' => h (putD f a.frz fs) ρ') (g (.sh (.ins c fs) :: r)) else .bad := by
  unfold nStoS
  by_cases q : fs.length < 1000
  · rw [if_pos ⟨rfl, q⟩, if_pos q]; rfl
  · rw [if_neg (fun z => q z.2), if_neg q]
@[simp] theorem nIfS_ap (c : Str) (t : Sb) (g : Ss) (h : Sn) (fs : List (Str × D)) (r : List SD) : nIfS c t g h fs (.gv :: r) = selfR c fs (fun _ => True) (fun b ρ' => bif b then nSeqR h fs (g ρ') else h fs ρ') (t (.sh (.ins c fs) :: r)) := by
  unfold nIfS
  rw [if_pos (show isGv (.gv :: r) = true from rfl)]
  rfl
end Wm
end
section
namespace Wm
open PySem PySem.Spec PyProof.Rows L2
def EnS (h : Heap) (e it : Addr) (c : Int) : Prop := ∃ f0 f1 x5, (f0 = Value.none ∨ ∃ T : Nat, f0 = rawInt T) ∧ h.get? e = some { cls := .type "enumerate", dict := none, data := .fields #[f0, f1, .ref it, rawInt c, .none, x5], slots := #[] }
section
variable {prog : Program} {w : World} {A : Around} {E : Value → Shared → Prop} {s : Shared}
theorem EnS.same {h h' : Heap} {e it : Addr} {c : Int} (x : EnS h e it c) (k : ∀ o, h.get? e = some o → h'.get? e = some o) : EnS h' e it c := by
  obtain ⟨f0, f1, x5, y, z⟩ := x
  exact ⟨f0, f1, x5, y, k _ z⟩
end
end Wm
end
section
namespace Wm
open PySem PySem.Spec PyProof.Rows L2
section
variable {prog : Program} {w : World} {A : Around} {E : Value → Shared → Prop} {s : Shared} {z TI TO i1 e it : Addr} {fp1 fp2 : List Addr} {n1 n2 i : Nat} {c : Int} {P1 P2 : Nat → Value → Prop} {St1 St2 : Nat → Heap → Prop} {a1 a2 : Value}
end
section
variable {prog : Program} {w : World} {A : Around} {E : Value → Shared → Prop} {s : Shared}
end
end Wm
end
section
namespace Wm
open PySem PySem.Spec PyProof.Rows L2
section
variable {X : Cx} {e e2 : Expr} {te te2 : TE} {p p2 pos pos2 tpos : Pos} {elts : List Expr} {kk : Nat}
end
noncomputable def srcZipE (o o2 : LOp) : Src := fun ρ => (con o ρ).bind fun p => (con o2 p.2).bind fun q => if p.1.keep q.2 then .ok (⟨zipD p.1.xs (enumD q.1.xs), p.1.bor ++ q.1.bor⟩, q.2) else .bad
section
variable {X : Cx} {cl : Cl} {vs0 : List V} {Wx : WX}
def stP (s1 s2 : Tg) : Tg := fun d ρ => match d with
  | .tup [a, b] => (s1 a ρ).bind (s2 b)
  | _ => none
end
end Wm
end
section
namespace Wm
open PySem PySem.Spec PyProof.Rows L2
def rangeDn (i : Int) (n : Nat) : List D := (List.range n).map fun (k : Nat) => .int (i - k)
def rng3 (ρ : List SD) : List D → Rs (Itm × List SD)
  | [.int i, .int j, .int c] => if c = -1 ∧ rngOk i ∧ rngOk j ∧ (i - j).toNat ≤ sizeLine then .ok (⟨rangeDn i (i - j).toNat, []⟩, ρ) else .bad
  | _ => .bad
def srcRng3 (fl : List LOp) : Src := fun ρ => (ops fl ρ).bind fun q => rng3 q.2 q.1
section
variable {X : Cx} {cl : Cl} {vs0 : List V} {Wx : WX}
def revS (src : Src) : Src := fun ρ => (src ρ).bind fun p => .ok (⟨p.1.xs.reverse, p.1.bor⟩, p.2)
theorem ij_revC {tg e : Expr} {src : Src} {p pos : Pos} (hg : Gl X "reversed") (hm : X.mg "reversed" = none) (h : CJ X cl vs0 Wx e src) (hs : starEach [e] X.env = (false, eval e X.env) :: starEach [] X.env := by rfl) :
    IJ X cl vs0 Wx tg (.Call (.Name "reversed" p) [e] [] pos) (revS src) := by
  obtain ⟨t, p, q⟩ := h
  refine ⟨⟨_, RT.pi_revA hg hm p hs, fun _ => rfl, fun O W σ H ρ R sr hw => q O W σ H ρ _ sr ?_⟩⟩
  unfold revS at hw
  cases e : src ρ with
  | bad => rw [e] at hw; exact hw
  | exc c fs ρ' => rw [e] at hw; exact hw
  | ok m =>
    obtain ⟨m, ρ1⟩ := m
    rw [e] at hw
    intro v O' W' H' st sr' hk ⟨hl, a, k, ev, hc⟩
    obtain ⟨vs, hq, ra0⟩ := hc O' W' σ H' ρ1 Stp.refl sr' (fun _ _ => rfl) hk
    have l0 := ra0.length
    have turn : ∀ O2 W2 σ2 H2 ρ2 (i : Nat) (d : D), Stp O' W' H' O2 W2 H2 → SR (gx X cl) vs0 O2 W2 σ2 H2 ρ2 → m.slots σ σ2 → m.keep ρ2 → m.xs.reverse[i]? = some d → i < vs.length ∧ ∃ us v, SqK X.K H2 a us k ∧ us[vs.length - 1 - i]? = some v ∧ Rp (gx X cl) O2 H2 d v := fun O2 W2 σ2 H2 ρ2 i d st2 sr2 h1 h2 hd => by
      obtain ⟨us, hu, ra⟩ := hc O2 W2 σ2 H2 ρ2 st2 sr2 h1 h2
      have hi : i < m.xs.length := by
        have := (List.getElem?_eq_some_iff.mp hd).1
        simpa using this
      rw [List.getElem?_reverse hi] at hd
      obtain ⟨v, hv, rv⟩ := ra.getD hd
      exact ⟨by omega, us, v, hu, by rw [← l0]; exact hv, rv⟩
    cases k with
    | l =>
      refine ⟨a, vs, ev, .inl ⟨hq, hw _ O' W' H' st sr' hk ⟨by simpa using hl, fun O2 W2 σ2 H2 ρ2 i d st2 sr2 h1 h2 hd => ?_, fun O2 W2 σ2 H2 ρ2 st2 sr2 h1 h2 => ?_⟩⟩⟩
      · obtain ⟨hi, us, v, hu, hv, rv⟩ := turn O2 W2 σ2 H2 ρ2 i d st2 sr2 h1 h2 hd
        refine ⟨⟨hi, us, v, hu, hv⟩, fun x H3 ⟨e3, hy⟩ => ?_⟩
        subst e3
        have : x = v := Option.some.inj ((hy us hu).symm.trans hv)
        subst this
        exact ⟨Same.refl _, rv⟩
      · show vs.length ≤ m.xs.reverse.length
        rw [List.length_reverse]; omega
    | t =>
      refine ⟨a, vs, ev, .inr ⟨hq, hw _ O' W' H' st sr' hk ⟨by simpa using hl, fun O2 W2 σ2 H2 ρ2 i d st2 sr2 h1 h2 hd => ?_, fun O2 W2 σ2 H2 ρ2 st2 sr2 h1 h2 => ?_⟩⟩⟩
      · obtain ⟨hi, us, v, hu, hv, rv⟩ := turn O2 W2 σ2 H2 ρ2 i d st2 sr2 h1 h2 hd
        refine ⟨⟨hi, us, v, hu, hv⟩, fun x H3 ⟨e3, hy⟩ => ?_⟩
        subst e3
        have : x = v := Option.some.inj ((hy us hu).symm.trans hv)
        subst this
        exact ⟨Same.refl _, rv⟩
      · show vs.length ≤ m.xs.reverse.length
        rw [List.length_reverse]; omega
def mClear (_ : List D) : Rs (D × List D) := .ok (.non, [])
def sAug (i : Nat) (f : Sx) : Ss := fun ρ => match ρ[i]? with
  | some (.sh (.int x)) => (f ρ).bind fun p => match p.1.frz with
    | .int y => .ok (.nx (p.2.set i (.sh (.int (x + y)))))
    | _ => .bad
  | _ => .bad
end
end Wm
end
section
namespace Wm
open PySem PySem.Spec PyProof.Rows L2
@[simp] theorem srcZipE_ap (o o2 : LOp) (ρ : List SD) : srcZipE o o2 ρ = (con o ρ).bind fun p => (con o2 p.2).bind fun q => if p.1.keep q.2 then .ok (⟨zipD p.1.xs (enumD q.1.xs), p.1.bor ++ q.1.bor⟩, q.2) else .bad := (rfl)
@[simp] theorem srcRng3_ap (fl : List LOp) (ρ : List SD) : srcRng3 fl ρ = (ops fl ρ).bind fun q => rng3 q.2 q.1 := (rfl)
@[simp] theorem revS_ap (src : Src) (ρ : List SD) : revS src ρ = (src ρ).bind fun p => .ok (⟨p.1.xs.reverse, p.1.bor⟩, p.2) := (rfl)
@[simp] theorem stP_ap (s1 s2 : Tg) (a b : D) (ρ : List SD) : stP s1 s2 (.tup [a, b]) ρ = (s1 a ρ).bind (s2 b) := (rfl)
@[simp] theorem mClear_ap (xs : List D) : mClear xs = .ok (.non, []) := (rfl)
@[simp] theorem sAug_int (i : Nat) (f : Sx) (ρ : List SD) (x : Int) (h : ρ[i]? = some (.sh (.int x))) : sAug i f ρ = (f ρ).bind fun p => match p.1.frz with
    | .int y => .ok (.nx (p.2.set i (.sh (.int (x + y)))))
    | _ => .bad := by
  unfold sAug
  rw [h]
  try rfl
end Wm
end
section
namespace Wm
open PySem PySem.Spec PyProof.Rows L2
def tupL (is : List Nat) (ρ : List SD) : SD → Rs Fl
  | .own ds => (setAll is ds ρ).bind fun ρ' => .ok (.nx ρ')
  | _ => .bad
def sTupL (is : List Nat) (f : Sx) : Ss := fun ρ => (f ρ).bind fun p => tupL is p.2 p.1
section
variable {X : Cx} {cl : Cl} {vs0 : List V} {Wx : WX} {pos : Pos} {e : Expr} {f : Sx}
end
@[simp] theorem sTupL_ap (is : List Nat) (f : Sx) (ρ : List SD) : sTupL is f ρ = (f ρ).bind fun p => tupL is p.2 p.1 := (rfl)
@[simp] theorem tupL_own (is : List Nat) (ρ : List SD) (ds : List D) : tupL is ρ (.own ds) = (setAll is ds ρ).bind fun ρ' => .ok (.nx ρ') := (rfl)
end Wm
end
section
namespace Wm
open PySem PySem.Spec PyProof.Rows L2
def rInX (K : PySem.W.Frag) (neg : Bool) : R2 := fun x y H Q => ∃ d ds c, Dp K H x d ∧ Dp K H y c ∧ (c = .list ds ∨ c = .tuple ds) ∧ SeqAt.shaped d = true ∧ SeqAt.shaped c = true ∧ Q (.bl (neg ^^ ds.any fun z => PyData.eqv z d)) H
section
variable {X : Cx} {cl : Cl} {vs0 : List V} {Wx : WX} {pos : Pos} {a b : Expr} {fl : List LOp}
theorem op_notInX (hu : X.A.units + 65 < cLine) : OpR X (compareOp .NotIn) (rInX X.K true) := by
  intro pins s σ H x y v u Q I rx ry h
  obtain ⟨d, ds, c, hd, he, hc, sd, se, q⟩ := h
  obtain ⟨as, r1⟩ := Dp.reads I d x v hd rx
  obtain ⟨bs, r2⟩ := Dp.reads I c y u he ry
  rw [Bool.true_xor] at q
  rcases hc with rfl | rfl
  · exact SeqAt.notIn_list_reads r2 r1 (SeqAt.canLay_of_shaped se) (SeqAt.canLay_of_shaped sd) (room_in_shaped sd hu) ⟨.bl _, H, I, rfl, q⟩
  · exact SeqAt.notIn_tuple_reads r2 r1 (SeqAt.canLay_of_shaped se) (SeqAt.canLay_of_shaped sd) (room_in_shaped sd hu) ⟨.bl _, H, I, rfl, q⟩
def pInX (neg : Bool) : List D → Rs SD
  | [x, .lst ys] => if okN 60 x = true ∧ okN 60 (.lst ys) = true then .ok (.sh (.bl (neg ^^ ys.any fun y => eqD y x))) else .bad
  | [x, .tup ys] => if okN 60 x = true ∧ okN 60 (.tup ys) = true then .ok (.sh (.bl (neg ^^ ys.any fun y => eqD y x))) else .bad
  | _ => .bad
theorem pr_inX (neg : Bool) : PrimR X cl (rd2 (rInX X.K neg)) (pInX neg) := fun O W H ds vs Q w ho hp => by
  unfold pInX at hp
  split at hp
  · rename_i x ys
    split at hp
    · rename_i h
      obtain ⟨v, w, rfl, h1, h2⟩ := ho.two
      have hy : okNs 59 ys = true := by have := h.2; simpa only [okN] using this
      refine ⟨x.py, pys ys, _, h1.dp h.1, h2.dp h.2, .inl rfl, okD_shaped h.1, okD_shaped h.2, ?_⟩
      rw [any_py h.1 hy]
      exact hp _ H (Same.refl H) (by simp only [Rp])
    · exact hp.elim
  · rename_i x ys
    split at hp
    · rename_i h
      obtain ⟨v, w, rfl, h1, h2⟩ := ho.two
      have hy : okNs 59 ys = true := by have := h.2; simpa only [okN] using this
      refine ⟨x.py, pys ys, _, h1.dp h.1, h2.dp h.2, .inr rfl, okD_shaped h.1, okD_shaped h.2, ?_⟩
      rw [any_py h.1 hy]
      exact hp _ H (Same.refl H) (by simp only [Rp])
    · exact hp.elim
  · exact hp.elim
theorem tj_notInX (hu : X.A.units + 65 < cLine) (h : OJ X cl vs0 Wx [a, b] fl) (hm : behindInMarks .NotIn b = false := by rfl) : TJ X cl vs0 Wx (.Compare a [.NotIn] [b] pos) (bT (xPrim fl (pInX true))) := tj_cmp (op_notInX hu) (pr_inX true) h hm
end
@[simp] theorem pInX_tup (neg : Bool) (x : D) (ys : List D) : pInX neg [x, .tup ys] = if okN 60 x = true ∧ okN 60 (.tup ys) = true then .ok (.sh (.bl (neg ^^ ys.any fun y => eqD y x))) else .bad := (rfl)
@[simp] theorem pInX_lst (neg : Bool) (x : D) (ys : List D) : pInX neg [x, .lst ys] = if okN 60 x = true ∧ okN 60 (.lst ys) = true then .ok (.sh (.bl (neg ^^ ys.any fun y => eqD y x))) else .bad := (rfl)
end Wm
end
section
namespace Wm
open PySem PySem.HandSPX
section
variable {M : Model} {A : Around} {E : Value → Shared → Prop} {h : Heap} {g : Array GenState} {d : Drawn} {t : Nat} {os : OsState}
variable {nm q : Str} {C N : Addr} {bs bm bmB : List Value} {hdct : Bool} {sn : List Str} {sub : List Value} {ab : Bool} {col : Option Bool} {dd : Option Addr} {k0 k1 k2 k3 k5 : Option Value} {B newId initId : String}
theorem check_new_ownK (F : ExcBaseFacts B newId initId bmB) (hT : ∀ X : String, bm.contains (.type X) = bmB.contains (.type X)) {rest : List Value} {kw : List (Str × Value)} {Q : Unit → Shared → Prop}
    (hC : h.get? C = some (excClassObj nm q C N bs bm hdct sn sub ab col dd k0 k1 k2 k3 k5 newId)) (hq : Q () ⟨h, g, d, t, os⟩) : wpAny M A (checkBuiltinCall newId ⟨.ref C :: rest, kw⟩) Q E ⟨h, g, d, t, os⟩ := by
  have hcont : (Value.ref C :: bm).contains (.type B) = true := by rw [List.contains_cons, hT, F.hasB, Bool.or_true]
  have hstar := F.noStar
  simp only [checkBuiltinCall, F.newKind, F.newSplit, F.newRow]
  repeat (first | refine wpAny_loadPart_at hC ?_ | (refine wpAny_isSubtype_exc hC ?_; rw [hcont]) | refine wpAny_staticBase_exc hC ?_ | refine wpAny_madeBy_exc hC ?_ | simp only [bne_self_eq_false, Bool.false_eq_true, if_false] | wp_step)
  exact hq
end
section
variable {prog : Program} {w : World} {A : Around} {E : Value → Shared → Prop} {R : Result → Shared → Prop} {h : Heap} {g : Array GenState} {d : Drawn} {t : Nat} {os : OsState}
variable {nm q : Str} {C N : Addr} {bs bm bmB : List Value} {hdct : Bool} {sn : List Str} {sub : List Value} {ab : Bool} {col : Option Bool} {dd : Option Addr} {k0 k1 k2 k3 k5 : Option Value} {B newId initId : String}
theorem new_ownK (F : ExcBaseFacts B newId initId bmB) (hT : ∀ X : String, bm.contains (.type X) = bmB.contains (.type X)) {rest : List Value} {kw : List (Str × Value)}
    (hC : h.get? C = some (excClassObj nm q C N bs bm hdct sn sub ab col dd k0 k1 k2 k3 k5 newId))
    (hq : R (.ok (.ret (.ref (h.objs.size + 1)))) ⟨(h.push { cls := .type "tuple", data := .seq rest.toArray }).push
      { cls := .ref C, data := .fields #[.ref h.objs.size, .none, .none, .none, .bool false, .none] }, g, d, t, os⟩) (hrest : rest.length ≤ sizeLine) :
    codeAny (model prog w) A (.builtin newId ⟨.ref C :: rest, kw⟩) R ⟨h, g, d, t, os⟩ := by
  have hends := F.ends
  have hcB : (Value.ref C :: bm).contains (.type B) = true := by rw [List.contains_cons, hT, F.hasB, Bool.or_true]
  have hcA : (Value.ref C :: bm).contains (.type "AttributeError") = false := by rw [List.contains_cons, hT, F.noAttr]; rfl
  have hcN : (Value.ref C :: bm).contains (.type "NameError") = false := by rw [List.contains_cons, hT, F.noName]; rfl
  refine codeAny_builtinAt F.entry ?_
  unfold Builtin.«BaseException.__new__»
  refine wpAt_bind ?_
  show wpAt _ _ _ (stack >>= _) _ _ _
  refine wpAt_bind (wpAt_stack fun p below => wpAt_of_wpAny ?_)
  wp_walk
  refine wpAt_of_wpAny ?_
  rw [F.owner]
  repeat (first | with_reducible refine wpAny_madeHere_exc F.canon hC ?_ | with_reducible refine wpAny_loadPart_at hC ?_ | (with_reducible refine wpAny_isSubtype_exc hC ?_; first | rw [hcB] | rw [hcA] | rw [hcN]) | wp_step)
  show R _ _
  rw [Heap.size_push]
  exact hq
theorem type_call_ownK (F : ExcBaseFacts B newId initId bmB) (hT : ∀ X : String, bm.contains (.type X) = bmB.contains (.type X)) {rest : List Value} {kw : List (Str × Value)} {fI : Addr} {Q : Fin → Shared → Prop}
    (hC : h.get? C = some (excClassObj nm q C N bs bm hdct sn sub ab col dd k0 k1 k2 k3 k5 newId))
    (hi : W.Looks (model prog w) h (typeLookup (.ref C) "__init__") (some (.ref fI))) (hb : ∀ self, W.Looks (model prog w) h (bindSpecial (.ref fI) self) (.ref fI, [self])) (hrest : rest.length ≤ sizeLine)
    (hq : codeAny (model prog w) A (.call (.ref fI) ⟨.ref (h.objs.size + 1) :: rest, kw⟩)
      (fun r s' => match r with | .ok (.ret v) => v = .none ∧ Q (.done (.ret (.ref (h.objs.size + 1)))) s' | .ok _ => False | .error e => E e s')
      ⟨(h.push (W.kdv_tup rest)).push (excO C h.objs.size), g, d, t, os⟩) :
    wpAny (model prog w) A (Builtin.«type.__call__» ⟨.ref C :: rest, kw⟩) Q E ⟨h, g, d, t, os⟩ := by
  repeat (first | with_reducible refine wpAny_loadPart_at hC ?_ | with_reducible refine wpAny_madeBy_exc hC ?_ | wp_step)
  refine codeAny_call_builtin_code (Code.quiet_builtin _ F.quiet) (check_new_ownK F hT hC ?_)
  refine new_ownK F hT hC ?_ hrest
  show wpAny _ _ _ _ _ _
  have k : ∀ b o, h.get? b = some o → ((h.push (W.kdv_tup rest)).push (excO C h.objs.size)).get? b = some o := fun b o e => Heap.get?_push_of_some _ (Heap.get?_push_of_some _ e)
  have hC₁ := k _ _ hC
  have hget : ((h.push (W.kdv_tup rest)).push (excO C h.objs.size)).get? (h.objs.size + 1) = some (excO C h.objs.size) := by heap_get
  have hcC : (Value.ref C :: bm).contains (.ref C) = true := by simp
  have i1 := hi.keeps k
  have b1 := (hb (.ref (h.objs.size + 1))).keeps k
  unfold isInstance
  repeat (first | with_reducible refine wpAny_loadPart_at hget ?_ | (with_reducible refine wpAny_isSubtype_exc hC₁ ?_; rw [hcC]) | wp_step)
  show wpAny _ _ (typeLookup (.ref C) _) _ _ _
  refine i1.at ?_
  refine wpAny_holding (wpAny_bind (b1.at ?_))
  refine wpAny_bind (wpAny_call (codeAny_mono hq fun r s' z => ?_))
  rcases r with e | (v | _ | _ | _) <;> first | exact z | exact z.elim | skip
  obtain ⟨rfl, z⟩ := z
  first
    | exact wpAny_pure (wpAny_pure z)
    | (wp_walk; exact z)
theorem call_ownK (F : ExcBaseFacts B newId initId bmB) (hT : ∀ X : String, bm.contains (.type X) = bmB.contains (.type X)) {rest : List Value} {kw : List (Str × Value)} {fI : Addr}
    (hC : h.get? C = some (excClassObj nm q C N bs bm hdct sn sub ab col dd k0 k1 k2 k3 k5 newId))
    (hi : W.Looks (model prog w) h (typeLookup (.ref C) "__init__") (some (.ref fI))) (hb : ∀ self, W.Looks (model prog w) h (bindSpecial (.ref fI) self) (.ref fI, [self])) (hrest : rest.length ≤ sizeLine)
    (hq : codeAny (model prog w) (A.under (.builtin "type.__call__" ⟨.ref C :: rest, kw⟩)) (.call (.ref fI) ⟨.ref (h.objs.size + 1) :: rest, kw⟩) (W.InitBack (h.objs.size + 1) R)
      ⟨(h.push (W.kdv_tup rest)).push (excO C h.objs.size), g, d, t, os⟩) :
    codeAny (model prog w) A (.call (.ref C) ⟨rest, kw⟩) R ⟨h, g, d, t, os⟩ := by
  have f1 := tc_lookup
  have f2 := tc_bind (.ref C)
  have hTy : (⟨h, g, d, t, os⟩ : Shared).TypeIs (.ref C) "type" := ⟨_, hC, rfl⟩
  refine codeAny_of_tree ?_
  show wpAny _ _ (callAny (.ref C) _) _ _ _
  repeat (any_goals (first | assumption | with_reducible refine wpAny_loadPart_at hC ?_ | wp_step))
  refine ⟨rfl, ?_⟩
  refine codeAny_call_builtin_at (Code.quiet_builtin _ (by decide +kernel)) entry_typeCall (wpAny_check_type_call_sub hC (type_call_ownK F hT hC hi hb hrest ?_))
  refine codeAny_mono hq fun r s' z => ?_
  rcases r with e | (v | _ | _ | _) <;> exact z
end
end Wm
end
section
namespace Wm
open PySem PySem.Spec PyProof.Rows L2
def tMkK (C : Addr) (sp : Sp) (gV : List V → List V → List V) (n l : Nat) (ta tk : TA) : L2.St → Hp → XK → Prop := fun σ H Q => ta σ H fun vs H1 => tk σ H1 fun zs H2 => vs.length = n ∧ zs.length = l ∧ n ≤ 1000 ∧ ∀ a, H2 a = none → sp (gV (.ref a :: vs) zs) (upd H2 a (exo a C none))
  (fun v H3 => v = .non ∧ ∃ (d : Addr) (fs : List (Str × V)), H3 a = some (exo a C (some d)) ∧ H3 d = some (exd d fs) ∧ H2 d = none ∧ Q (.ref C) (some d) (upd (del H3 a) d (.xd fs))) (fun _ _ _ => False)
section
variable {X : Cx} {e : Expr} {es : List Expr} {ta tk : TA} {p pos : Pos} {kws : List Keyword}
theorem pmk_oexK {CX : CXT} {x : Str} {C fI : Addr} {k n : Nat} {fd : FuncData} {ps ks : List Str} {sp : Sp} {g : List Value → List Value → List Value} {gV : List V → List V → List V} (T : OexC X.K C) (iC : PySem.W.findIn X.K (.ref C) "__init__" = some (some (.ref fI))) (tI : PySem.W.typeIn X.K (.ref fI) = some (.type "function"))
    (F1 : FnOk X.prog X.w X.K X.mg X.base CX k fI fd ps sp) (hr : Room (k + 1) X.A) (hb : KBn X.K fd ps (n + 1) ks g gV) (hx : Passes CX X (fun _ _ _ => False)) (hg : Gl X x) (hm : X.mg x = some (.ref C)) (ha : PA X (e :: es) ta) (hkw : PK X kws tk)
    (hall : (backToKw pos (keywordEach kws X.env)).all (·.1.isSome) = true := by rfl) (hks : (backToKw pos (keywordEach kws X.env)).filterMap (·.1) = ks := by rfl)
    (hdb : (x == ("__debug__" : Str)) = false := by decide) (he : starEach (e :: es) X.env = (false, eval e X.env) :: starEach es X.env := by rfl)
    (hpl : ((backTo pos (starEach (e :: es) X.env)).any (·.1) || (backToKw pos (keywordEach kws X.env)).any (·.1.isNone)) = false := by rfl) :
    PMk X (.Call (.Name x p) (e :: es) kws pos) (tMkK C sp gV n ks.length ta tk) := by
  intro pins s σ H Q I h
  obtain ⟨nm, q, N, bs, bm, sn, sub, ab, col, dd, k0, k1, k2, k3, k5, hC, hbm⟩ := T.cls
  refine wpAny_Call_Name_kw (ld_glob I hg hm ?_ hdb)
  refine PySem.W.callWith_KW (h₀ := X.base) I.ok.mod.kin T.kC hall (thn (ha.run pos pins s σ H _ I h) fun us s0 q0 => ?_) hpl he
  obtain ⟨vs, H0, I0, r0, q0⟩ := q0
  refine thn (hkw.run pos pins s0 σ H0 _ I0 q0) fun ws s1 q2 => ?_
  obtain ⟨zs, H1, I1, rz, l1, l2, l3, q1⟩ := q2
  refine ⟨I1.kIn, ?_⟩
  rw [hks]
  show wpAny _ _ (call (.ref C) us (ks.zip ws)) _ _ _
  obtain ⟨hp, g', dr, tk', os⟩ := s1
  have hsz : hp.objs.size ≤ hp.objs.size + 1 := Nat.le_succ _
  have hn : H1 (hp.objs.size + 1) = none := I1.hok.fresh hsz
  have hq := q1 (hp.objs.size + 1) hn
  have kk : ∀ b o, hp.get? b = some o → ((hp.push (PySem.W.kdv_tup us)).push (PySem.HandSPX.excO C hp.objs.size)).get? b = some o := fun b o e => Heap.get?_push_of_some _ (Heap.get?_push_of_some _ e)
  have hget : ((hp.push (PySem.W.kdv_tup us)).push (PySem.HandSPX.excO C hp.objs.size)).get? (hp.objs.size + 1) = some (PySem.HandSPX.excO C hp.objs.size) := by heap_get
  have I2 : Inv X pins σ (upd H1 (hp.objs.size + 1) (exo (hp.objs.size + 1) C none)) ⟨(hp.push (PySem.W.kdv_tup us)).push (PySem.HandSPX.excO C hp.objs.size), g', dr, tk', os⟩ :=
    I1.laid (t' := tk') (a := hp.objs.size + 1) (o := exo (hp.objs.size + 1) C none) (h' := (hp.push (PySem.W.kdv_tup us)).push (PySem.HandSPX.excO C hp.objs.size)) kk hsz (exo_ok hget)
  have r2 : Vals (V.ref (hp.objs.size + 1) :: vs) (Value.ref (hp.objs.size + 1) :: us) := .cons rfl r0
  have lus : us.length = n := r0.length.symm.trans l1
  have lws : ws.length = ks.length := rz.length.symm.trans l2
  have hus : us.length ≤ sizeLine := by
    rw [lus, sizeLine_eq]
    omega
  refine wpAny_call (call_ownK F.excBase_ValueError (fun Y => PySem.HandSPX.refsVE_contains Y bm hbm) (I1.kIn _ _ hC) (PySem.W.looks_findIn I1.kIn iC) (fun self => PySem.W.bind_fn I1.kIn self tI) hus
    (codeAny_mono (F1.run _ X.stack _ _ ⟨Value.ref (hp.objs.size + 1) :: us, ks.zip ws⟩ (g (Value.ref (hp.objs.size + 1) :: us) ws) _ _ (fun _ _ _ => False) (hr.make C us (ks.zip ws)) (I2.env0.make C us (ks.zip ws)) (hb.to _ (Value.ref (hp.objs.size + 1) :: us) ws I2.kIn (by rw [List.length_cons, lus]) lws) (hb.rel r2 rz) hq) fun r s' hq' => ?_))
  cases r with
  | error er => exact hx pins σ _ _ er s' I2 hq'
  | ok fl =>
    cases fl with
    | ret u =>
      obtain ⟨v, H2, os2, bare2, un2, hok2, rv, ev, d, fs, ea, ed, hd1, q2⟩ := hq'
      subst ev
      obtain ⟨h2, g2, d2, t2, os'⟩ := s'
      exact ⟨rv, mk_end (raises_own T.exC T.tyC) I1 hsz kk un2 hok2 os2 bare2 ea ed hd1 q2⟩
    | next => exact False.elim hq'
    | brk => exact False.elim hq'
    | cont => exact False.elim hq'
end
def spI2 (K : PySem.W.Frag) (C : Addr) (f g : Str) : Sp := fun vs H Q E => ∃ (a : Addr) (w v : V), vs = [.ref a, w, v] ∧ OexC K C ∧ PySem.W.findIn K (.ref C) f = some none ∧ PySem.W.findIn K (.ref C) g = some none ∧ H a = some (exo a C none) ∧ ∀ dx, H dx = none → dx ≠ a → Q .non (upd (upd (upd H dx (exd dx [(f, w)])) a (exo a C (some dx))) dx (exd dx [(g, v), (f, w)]))
theorem init2_sound {K : PySem.W.Frag} {C : Addr} {f g : Str} {m : Str} {vs : List V} {H : Hp} {Q : VK} {E : XK} (h : spI2 K C f g vs H Q E) :
    tSeq (tDrop (tVeI K (tCons (tVar 0) (tCons (tC (.str m)) tNil)))) (tSeq (tOst K f (tVar 0) (tVar 1)) (tOst K g (tVar 0) (tVar 2))) { nx := fun _ H' => Q .non H', rt := Q } (vs.map some) H := by
  obtain ⟨a, w, v, rfl, T, hf, hg, ha, q⟩ := h
  refine ⟨_, rfl, a, C, _, rfl, by show 1 ≤ 1000; decide, T, ha, ?_⟩
  refine ⟨_, rfl, _, rfl, a, C, rfl, T, hf, .inl ⟨ha, fun dx n ne => ?_⟩⟩
  refine ⟨_, rfl, _, rfl, a, C, rfl, T, hg, .inr ⟨dx, [(f, w)], upd_same, ?_, by show 1 ≤ 900; decide, q dx n ne⟩⟩
  rw [upd_ne ne, upd_same]
theorem spI2_len {K : PySem.W.Frag} {C : Addr} {f g : Str} : ∀ vs H Q E, spI2 K C f g vs H Q E → vs.length = 3 := fun vs H Q E h => by
  obtain ⟨a, w, v, rfl, _⟩ := h
  rfl
end Wm
end
section
namespace Wm
open PySem PySem.Spec PyProof.Rows L2
def sRaiseS (c f g m : Str) (fx : Sx) : Ss := fun ρ => (fx ρ).bind fun p => .exc c [(g, p.1.frz), (f, .str m)] p.2
section
variable {X : Cx} {cl : Cl} {vs0 : List V} {Wx : WX} {e : Expr} {p pos pos' : Pos} {fx : Sx}
theorem sj_raiseS {CX : CXT} {x c f g m : Str} {fI : Addr} {k j : Nat} {fd : FuncData} {ps : List Str} {nm : Option Str} {kp p2 : Pos} (hc : X.calm = true) (tk : Takes X Wx) (T : OexC X.K (cl.at' c)) (hf : PySem.W.findIn X.K (.ref (cl.at' c)) f = some none) (hg' : PySem.W.findIn X.K (.ref (cl.at' c)) g = some none) (iC : PySem.W.findIn X.K (.ref (cl.at' c)) "__init__" = some (some (.ref fI))) (tI : PySem.W.typeIn X.K (.ref fI) = some (.type "function"))
    (F1 : FnOk X.prog X.w X.K X.mg X.base CX k fI fd ps (spI2 X.K (cl.at' c) f g)) (hr : Room (k + 1) X.A) (hb : KBs X.K fd ps 2 [g] [.arg 0, .arg 1, .arg 2]) (hx : Passes CX X (fun _ _ _ => False)) (hg : Gl X x) (hm : X.mg x = some (.ref (cl.at' c))) (h : EJ X cl vs0 Wx e fx)
    (hall : (backToKw pos' (keywordEach [⟨nm, e, kp⟩] X.env)).all (·.1.isSome) = true := by rfl) (hks : (backToKw pos' (keywordEach [⟨nm, e, kp⟩] X.env)).filterMap (·.1) = [g] := by rfl)
    (hdb : (x == ("__debug__" : Str)) = false := by decide) (he : starEach [.Constant (.str m) j p2] X.env = (false, eval (.Constant (.str m) j p2) X.env) :: starEach [] X.env := by rfl)
    (hpl : ((backTo pos' (starEach [.Constant (.str m) j p2] X.env)).any (·.1) || (backToKw pos' (keywordEach [⟨nm, e, kp⟩] X.env)).any (·.1.isNone)) = false := by rfl) :
    SJ X cl vs0 Wx (.Raise (some (.Call (.Name x p) [.Constant (.str m) j p2] [⟨nm, e, kp⟩] pos')) none pos) (sRaiseS c f g m fx) := by
  obtain ⟨gU, hb⟩ := hb.ex
  obtain ⟨t, pt, q⟩ := h.ex
  refine ⟨⟨_, ps_raise hc tk (pmk_oexK (n := 1) T iC tI F1 hr hb hx hg hm (pa_cons pe_str pa_nil) (pk_cons pt pk_nil) hall hks hdb he hpl), fun O W σ H ρ D sr hw => ?_⟩⟩
  show t σ H _
  refine q O W σ H ρ _ sr (e_core sr.wf hw fun v s ρ' O' W' H1 sr' rr hk => ?_)
  obtain ⟨O2, W2, st2, sr2, rp⟩ := rr.frz sr'
  refine ⟨rfl, rfl, by decide, fun a na => ⟨a, .str m, v, rfl, T, hf, hg', upd_same, fun dx nd ne => ⟨rfl, dx, [(g, v), (f, .str m)], ?_, ?_, ?_, ?_⟩⟩⟩
  · rw [upd_ne (Ne.symm ne), upd_same]
  · rw [upd_same]
  · rw [upd_ne ne] at nd; exact nd
  · have nd1 : H1 dx = none := by rw [upd_ne ne] at nd; exact nd
    have eH : upd (del (upd (upd (upd (upd H1 a (exo a (cl.at' c) none)) dx (exd dx [(f, .str m)])) a (exo a (cl.at' c) (some dx))) dx (exd dx [(g, v), (f, .str m)])) a) dx (.xd [(g, v), (f, .str m)]) = upd H1 dx (.xd [(g, v), (f, .str m)]) := by
      funext b
      by_cases e1 : b = dx
      · subst e1; rw [upd_same, upd_same]
      · rw [upd_ne e1, upd_ne e1]
        by_cases e2 : b = a
        · subst e2; rw [del_same, na]
        · rw [del_ne e2, upd_ne e1, upd_ne e2, upd_ne e1, upd_ne e2]
    rw [eH]
    have sm : Same H1 (upd H1 dx (.xd [(g, v), (f, .str m)])) := same_upd nd1
    refine hk σ dx [(g, v), (f, .str m)] O2 W2 _ (st2.trans sr'.wf (Stp.same sm)) (sr2.same sm) ⟨upd_same, fun z => sr2.wf.trk dx z (noD_none nd1)⟩ ?_
    simp only [RpF]
    exact ⟨v, _, rfl, rp.step sr2.wf (Stp.same sm), _, [], rfl, by simp only [Rp], rfl⟩
end
@[simp] theorem sRaiseS_ap (c f g m : Str) (fx : Sx) (ρ : List SD) : sRaiseS c f g m fx ρ = (fx ρ).bind fun p => .exc c [(g, p.1.frz), (f, .str m)] p.2 := (rfl)
end Wm
end
section
namespace Wm
open PySem PySem.Spec PyProof.Rows L2
def idxR (ρ : List SD) : Option Nat → Rs (SD × List SD)
  | some j => .ok (.sh (.int (j : Nat)), ρ)
  | none => .bad
def idxO (d : D) (ρ : List SD) : SD → Rs (SD × List SD)
  | .own xs => if okN 60 (.lst xs) = true ∧ okN 60 d = true then idxR ρ (xs.findIdx? fun y => eqD y d) else .bad
  | _ => .bad
def xIdx (d : D) (fx : Sx) : Sx := fun ρ => (fx ρ).bind fun p => idxO d p.2 p.1
theorem pys_map : ∀ xs : List D, pys xs = xs.map D.py
  | [] => rfl
  | x :: xs => by simp only [pys, List.map_cons, pys_map xs]
theorem okNs_mem {n : Nat} : ∀ {xs : List D}, okNs n xs = true → ∀ x ∈ xs, okN n x = true
  | [], _, x, hx => by cases hx
  | y :: ys, h, x, hx => by
    simp only [okNs, Bool.and_eq_true] at h
    rcases List.mem_cons.mp hx with rfl | hx
    · exact h.1
    · exact okNs_mem h.2 x hx
section
variable {X : Cx} {cl : Cl} {vs0 : List V} {Wx : WX}
theorem ej_idxB {ex : Expr} {b : Bool} {j : Nat} {f : Sx} {apos cpos p2 : Pos} (hu : X.A.units + 65 < cLine) (h : EJ X cl vs0 Wx ex f)
    (hbase : attributeBase ex "index" X.env (eval ex X.env) = eval ex X.env := by rfl)
    (hfew : ((backTo cpos (starEach [.Constant (.bool b) j p2] X.env)).all (fun x => !x.1) && (backToKw cpos (keywordEach [] X.env)).all (fun x => x.1.isSome)
      && decide (([.Constant (.bool b) j p2] : List Expr).length + ([] : List Keyword).length + (if ([] : List Keyword).isEmpty then 0 else 1) < 30)) = true := by rfl)
    (hline : (apos.endLine == cpos.line) = true := by rfl) (hs : starEach [.Constant (.bool b) j p2] X.env = (false, eval (.Constant (.bool b) j p2) X.env) :: starEach [] X.env := by rfl) (hplain : (backTo cpos (starEach [] X.env)).any (·.1) = false := by rfl) :
    EJ X cl vs0 Wx (.Call (.Attribute ex "index" apos) [.Constant (.bool b) j p2] [] cpos) (xIdx (.bl b) f) := by
  obtain ⟨t, p, q⟩ := h.ex
  refine ⟨⟨_, pe_bm PySem.F.plainAttrs_list PySem.F.slot_list_index PySem.F.type_list_index (mt_indexD hu) p (pa_cons pe_bl pa_nil hs) hbase hfew hline hs hplain, fun O W σ H ρ E sr hw => ?_⟩⟩
  refine q O W σ H ρ _ sr (ee_core sr.wf hw fun v s ρ1 O1 W1 H1 sr1 rr hk => ?_)
  cases s with
  | own xs =>
    have hk : AftE (gx X cl) vs0 Wx O1 W1 σ H1 E (if okN 60 (.lst xs) = true ∧ okN 60 (.bl b) = true then idxR ρ1 (xs.findIdx? fun y => eqD y (.bl b)) else .bad) := hk
    split at hk
    · rename_i ok
      obtain ⟨a, rfl, oa, _⟩ := rr
      have dp := Rp.dp ok.1 oa.data
      obtain ⟨_, us, h2, h3, h4⟩ := oa
      cases hi : xs.findIdx? fun y => eqD y (.bl b) with
      | none => rw [hi] at hk; exact hk.elim
      | some i =>
        rw [hi] at hk
        obtain ⟨hlt, hp, hb⟩ := List.findIdx?_eq_some_iff_getElem.mp hi
        have oks : okNs 59 xs = true := by have := ok.1; simpa only [okN] using this
        have hbl : Rp (gx X cl) O1 H1 (.bl b) (.bl b) := by simp only [Rp]
        refine ⟨.inl ⟨rfl, _, SqL.of h2⟩, a, .bl b, D.py (.bl b), pys xs, i, (xs[i]).py, rfl, rfl, dp, Rp.dp ok.2 hbl, okD_shaped ok.1, okD_shaped ok.2, ?_, ?_, ?_, ?_⟩
        · rw [pys_map, List.getElem?_map, List.getElem?_eq_getElem hlt]
          rfl
        · rw [eqD_py (okNs_mem oks _ (List.getElem_mem hlt)) ok.2]
          exact hp
        · intro m z hm hz
          have hml : m < xs.length := by omega
          rw [pys_map, List.getElem?_map, List.getElem?_eq_getElem hml] at hz
          cases hz
          rw [eqD_py (okNs_mem oks _ (List.getElem_mem hml)) ok.2]
          have := hb m hm
          simpa using this
        · exact hk (.int i) O1 W1 H1 Stp.refl sr1 (by show Rp _ _ _ _ _; simp only [Rp])
    · exact hk.elim
  | _ => exact hk.elim
end
@[simp] theorem xIdx_ap (d : D) (fx : Sx) (ρ : List SD) : xIdx d fx ρ = (fx ρ).bind fun p => idxO d p.2 p.1 := (rfl)
@[simp] theorem idxO_own (d : D) (ρ : List SD) (xs : List D) : idxO d ρ (.own xs) = if okN 60 (.lst xs) = true ∧ okN 60 d = true then idxR ρ (xs.findIdx? fun y => eqD y d) else .bad := (rfl)
@[simp] theorem idxR_some (ρ : List SD) (j : Nat) : idxR ρ (some j) = .ok (.sh (.int (j : Nat)), ρ) := (rfl)
end Wm
end
section
namespace Wm
open PySem PySem.Spec PyProof.Rows L2
def getI (kvs : List (Int × D)) (k : Int) : Option D := (kvs.find? fun kv => decide (kv.1 = k)).map (·.2)
def dropI (kvs : List (Int × D)) (k : Int) : List (Int × D) := kvs.filter fun kv => decide (kv.1 ≠ k)
def dctO : Option SD → Rs (List (Int × D))
  | some (.od kvs) => .ok kvs
  | some (.sh (.dct kvs)) => .ok kvs
  | _ => .bad
def odO : Option SD → Rs (List (Int × D))
  | some (.od kvs) => .ok kvs
  | _ => .bad
def withK {α : Type} (s : SD) (k : Int → Rs α) : Rs α := match s with
  | .sh (.int i) => k i
  | _ => .bad
@[simp] theorem withK_int {α : Type} (i : Int) (k : Int → Rs α) : withK (.sh (.int i)) k = k i := (rfl)
section
variable {G : Gx} {vs0 : List V} {O W : List Addr} {H : Hp} {σ : L2.St} {ρ : List SD} {Wx : WX}
theorem RpD.get {k : Int} : ∀ {kvs : List (Int × D)} {gs : List (Key × V)}, RpD G O H kvs gs → (getI kvs k = none ∧ valV gs (Sum.inl k) = none) ∨ ∃ d v, getI kvs k = some d ∧ valV gs (Sum.inl k) = some v ∧ Rp G O H d v
  | [], gs, h => by simp only [RpD] at h; subst h; exact .inl ⟨rfl, rfl⟩
  | (n, e) :: kvs, gs, h => by
    simp only [RpD] at h
    obtain ⟨u, r, rfl, h1, h2⟩ := h
    by_cases q : n = k
    · subst q
      exact .inr ⟨e, u, by simp [getI], valV_pos rfl, h1⟩
    · have q' : ¬ ((Sum.inl n : Key) = Sum.inl k) := fun z => q (Sum.inl.inj z)
      have e1 : getI ((n, e) :: kvs) k = getI kvs k := by simp [getI, q]
      rw [e1, valV_neg (p := (Sum.inl n, u)) q']
      exact RpD.get h2
theorem RpD.isSome {k : Int} {kvs : List (Int × D)} {gs : List (Key × V)} (h : RpD G O H kvs gs) : (valV gs (Sum.inl k)).isSome = (getI kvs k).isSome := by
  rcases h.get (k := k) with ⟨h1, h2⟩ | ⟨d, v, h1, h2, _⟩ <;> rw [h1, h2] <;> rfl
theorem RpD.drop {k : Int} : ∀ {kvs : List (Int × D)} {gs : List (Key × V)}, RpD G O H kvs gs → RpD G O H (dropI kvs k) (dropK gs (Sum.inl k))
  | [], gs, h => by simp only [RpD] at h; subst h; simp [dropI, dropK, RpD]
  | (n, e) :: kvs, gs, h => by
    simp only [RpD] at h
    obtain ⟨u, r, rfl, h1, h2⟩ := h
    have ih := RpD.drop h2 (k := k)
    unfold dropI dropK at ih ⊢
    by_cases q : n = k
    · subst q
      simpa using ih
    · have q' : ¬ ((Sum.inl n : Key) = Sum.inl k) := fun z => q (Sum.inl.inj z)
      rw [List.filter_cons, List.filter_cons, if_pos (by simpa using q), if_pos (by simpa using q')]
      simp only [RpD]
      exact ⟨u, _, rfl, h1, ih⟩
theorem RpD.length : ∀ {kvs : List (Int × D)} {gs : List (Key × V)}, RpD G O H kvs gs → kvs.length = gs.length
  | [], gs, h => by simp only [RpD] at h; subst h; rfl
  | (n, e) :: kvs, gs, h => by
    simp only [RpD] at h
    obtain ⟨u, r, rfl, h1, h2⟩ := h
    simp [RpD.length h2]
end
section
variable {X : Cx} {cl : Cl} {vs0 : List V} {Wx : WX} {e o a b : Expr} {f g : Sx} {i : Nat} {pos : Pos}
def xDIn (neg : Bool) (f : Sx) (i : Nat) : Sx := fun ρ => (f ρ).bind fun p => (dctO p.2[i]?).bind fun kvs => withK p.1 fun k => .ok (.sh (.bl (neg ^^ (getI kvs k).isSome)), p.2)
end
end Wm
end
section
namespace Wm
open PySem PySem.Spec PyProof.Rows L2
section
variable {X : Cx} {cl : Cl} {vs0 : List V} {Wx : WX} {e o a b : Expr} {f g : Sx} {i : Nat} {pos : Pos}
def xDGet (i : Nat) (f : Sx) : Sx := fun ρ => (dctO ρ[i]?).bind fun _ => (f ρ).bind fun p => (dctO p.2[i]?).bind fun kvs => withK p.1 fun k => match getI kvs k with
  | some d => .ok (.sh d, p.2)
  | none => .bad
def xDGet2 (i : Nat) (f g : Sx) : Sx := fun ρ => (dctO ρ[i]?).bind fun _ => (f ρ).bind fun p => (g p.2).bind fun q => (dctO q.2[i]?).bind fun kvs => withK p.1 fun k => match getI kvs k with
  | some d => .ok (.sh d, q.2)
  | none => .ok (.sh q.1.frz, q.2)
def sDPut (i : Nat) (f g : Sx) : Ss := fun ρ => (g ρ).bind fun p => (odO p.2[i]?).bind fun _ => (f p.2).bind fun q => (odO q.2[i]?).bind fun kvs => withK q.1 fun k =>
  if kvs.length < sizeLine then .ok (.nx (q.2.set i (.od (putI kvs k p.1.frz)))) else .bad
def xDPop (i : Nat) (f : Sx) : Sx := fun ρ => (odO ρ[i]?).bind fun _ => (f ρ).bind fun p => (odO p.2[i]?).bind fun kvs => withK p.1 fun k => match getI kvs k with
  | some d => .ok (.sh d, p.2.set i (.od (dropI kvs k)))
  | none => .bad
def xDNew : Sx := fun ρ => .ok (.od [], ρ)
def xDOne (f g : Sx) : Sx := fun ρ => (f ρ).bind fun p => (g p.2).bind fun q => withK p.1 fun k => .ok (.od [(k, q.1.frz)], q.2)
structure HeldD (p : Addr) (acc : List (Key × V)) (O W : List Addr) (H : Hp) : Prop where
  o : p ∈ O
  w : p ∉ W
  h : H p = some (.dK acc)
theorem HeldD.step {p : Addr} {acc : List (Key × V)} {O W O' W' : List Addr} {H H' : Hp} (h : HeldD p acc O W H) (s : Stp O W H O' W' H') : HeldD p acc O' W' H' :=
  ⟨s.ofz p h.o h.w, (fun z => by
    rcases s.wnew p z with q | q
    · exact h.w q
    · exact noD_not h.h (by intro _ z; cases z) q), s.keep p _ h.h h.w (fun _ z => by cases z)⟩
end
end Wm
end
section
namespace Wm
open PySem PySem.Spec PyProof.Rows L2
section
variable {X : Cx}
end
section
variable {X : Cx} {cl : Cl} {vs0 : List V} {Wx : WX} {o : Expr} {i : Nat} {pos p2 : Pos}
def bDNe (neg : Bool) (i : Nat) : Sb := fun ρ => (dctO ρ[i]?).bind fun kvs => .ok (neg ^^ kvs.isEmpty, ρ)
end
section
variable {X : Cx} {cl : Cl} {vs0 : List V} {Wx : WX}
noncomputable def dcL (m : Itm) (st : Tg) (test : Sb) (fk fv : Sx) (vs : List Nat) : List D → List (Int × D) → List SD → Rs (List (Int × D) × List SD)
  | [], acc, ρ => .ok (acc, ρ)
  | d :: ds, acc, ρ => match st d ρ with
    | some ρ1 => match test ρ1 with
      | .ok (true, ρ2) => match fk ρ2 with
        | .ok (.sh (.int k), ρ3) => match fv ρ3 with
          | .ok (r, ρ4) => if m.keep (wipeR ρ4 vs) then dcL m st test fk fv vs ds (putI acc k r.frz) (wipeR ρ4 vs) else .bad
          | _ => .bad
        | _ => .bad
      | .ok (false, ρ2) => if m.keep (wipeR ρ2 vs) then dcL m st test fk fv vs ds acc (wipeR ρ2 vs) else .bad
      | _ => .bad
    | none => .bad
noncomputable def xDc (src : Src) (st : Tg) (test : Sb) (fk fv : Sx) (vs : List Nat) : Sx := fun ρ => (src ρ).bind fun p => if p.1.keep (wipeR p.2 vs) ∧ (∀ b ∈ p.1.bor, b.1 ∉ vs) then
  match dcL p.1 st test fk fv vs p.1.xs [] (wipeR p.2 vs) with
  | .ok (kvs, ρ') => .ok (.od kvs, backR p.2 ρ' vs)
  | _ => .bad
  else .bad
variable {kx vx tg iter : Expr} {ifs : List Expr} {scope : Scope} {own : List (Str × Nat)} {pos : Pos} {src : Src} {st : Tg} {is : List Nat} {test : Sb} {fk fv : Sx}
end
end Wm
end
section
namespace Wm
open PySem PySem.Spec PyProof.Rows L2
section
variable {prog : Program} {w : World} {A : Around} {E : Value → Shared → Prop} {s : Shared}
open SrtO in
end
section
variable {X : Cx} {cl : Cl} {vs0 : List V} {Wx : WX}
def pSortT : List D → Rs SD
  | [.tup xs] => match asInts xs with
    | some ns => if ns.length ≤ sizeLine then .ok (.own ((isrt ns).map D.int)) else .bad
    | none => .bad
  | _ => .bad
@[simp] theorem pSortT_two (a b : Int) : pSortT [.tup [.int a, .int b]] = .ok (.own [.int (min a b), .int (max a b)]) := by
  have h2 : ([a, b] : List Int).length ≤ sizeLine := by show 2 ≤ sizeLine; decide
  have e : isrt [a, b] = [min a b, max a b] := by
    by_cases h : a ≤ b
    · rw [isrt_self (by simp [h]), Int.min_eq_left h, Int.max_eq_right h]
    · rw [Int.min_eq_right (by omega), Int.max_eq_left (by omega)]
      exact (isrt_of (List.Perm.swap a b []) (by simp; omega)).symm
  show (if ([a, b] : List Int).length ≤ sizeLine then Rs.ok (SD.own ((isrt [a, b]).map D.int)) else .bad) = _
  rw [if_pos h2, e]; rfl
end
end Wm
end
section
namespace Wm
open PySem PySem.Spec PyProof.Rows L2
@[simp] theorem xDNew_ap (ρ : List SD) : xDNew ρ = .ok (.od [], ρ) := (rfl)
@[simp] theorem xDOne_ap (f g : Sx) (ρ : List SD) : xDOne f g ρ = (f ρ).bind fun p => (g p.2).bind fun q => withK p.1 fun k => .ok (.od [(k, q.1.frz)], q.2) := (rfl)
@[simp] theorem xDIn_ap (neg : Bool) (f : Sx) (i : Nat) (ρ : List SD) : xDIn neg f i ρ = (f ρ).bind fun p => (dctO p.2[i]?).bind fun kvs => withK p.1 fun k => .ok (.sh (.bl (neg ^^ (getI kvs k).isSome)), p.2) := (rfl)
def okO (ρ : List SD) : Option D → Rs (SD × List SD)
  | some d => .ok (.sh d, ρ)
  | none => .bad
@[simp] theorem okO_some (ρ : List SD) (d : D) : okO ρ (some d) = .ok (.sh d, ρ) := (rfl)
@[simp] theorem okO_none (ρ : List SD) : okO ρ none = .bad := (rfl)
def orO (ρ : List SD) (x : D) : Option D → Rs (SD × List SD)
  | some d => .ok (.sh d, ρ)
  | none => .ok (.sh x, ρ)
@[simp] theorem orO_some (ρ : List SD) (x d : D) : orO ρ x (some d) = .ok (.sh d, ρ) := (rfl)
@[simp] theorem orO_none (ρ : List SD) (x : D) : orO ρ x none = .ok (.sh x, ρ) := (rfl)
@[simp] theorem xDGet_ap (i : Nat) (f : Sx) (ρ : List SD) : xDGet i f ρ = (dctO ρ[i]?).bind fun _ => (f ρ).bind fun p => (dctO p.2[i]?).bind fun kvs => withK p.1 fun k => okO p.2 (getI kvs k) := (rfl)
@[simp] theorem xDGet2_ap (i : Nat) (f g : Sx) (ρ : List SD) : xDGet2 i f g ρ = (dctO ρ[i]?).bind fun _ => (f ρ).bind fun p => (g p.2).bind fun q => (dctO q.2[i]?).bind fun kvs => withK p.1 fun k => orO q.2 q.1.frz (getI kvs k) := (rfl)
@[simp] theorem sDPut_ap (i : Nat) (f g : Sx) (ρ : List SD) : sDPut i f g ρ = (g ρ).bind fun p => (odO p.2[i]?).bind fun _ => (f p.2).bind fun q => (odO q.2[i]?).bind fun kvs => withK q.1 fun k =>
  if kvs.length < sizeLine then .ok (.nx (q.2.set i (.od (putI kvs k p.1.frz)))) else .bad := (rfl)
def popO (i : Nat) (kvs : List (Int × D)) (k : Int) (ρ : List SD) : Option D → Rs (SD × List SD)
  | some d => .ok (.sh d, ρ.set i (.od (dropI kvs k)))
  | none => .bad
@[simp] theorem popO_some (i : Nat) (kvs : List (Int × D)) (k : Int) (ρ : List SD) (d : D) : popO i kvs k ρ (some d) = .ok (.sh d, ρ.set i (.od (dropI kvs k))) := (rfl)
@[simp] theorem xDPop_ap (i : Nat) (f : Sx) (ρ : List SD) : xDPop i f ρ = (odO ρ[i]?).bind fun _ => (f ρ).bind fun p => (odO p.2[i]?).bind fun kvs => withK p.1 fun k => popO i kvs k p.2 (getI kvs k) := (rfl)
@[simp] theorem bDNe_ap (neg : Bool) (i : Nat) (ρ : List SD) : bDNe neg i ρ = (dctO ρ[i]?).bind fun kvs => .ok (neg ^^ kvs.isEmpty, ρ) := (rfl)
@[simp] theorem dctO_od (kvs : List (Int × D)) : dctO (some (.od kvs)) = .ok kvs := (rfl)
@[simp] theorem dctO_sh (kvs : List (Int × D)) : dctO (some (.sh (.dct kvs))) = .ok kvs := (rfl)
@[simp] theorem odO_od (kvs : List (Int × D)) : odO (some (.od kvs)) = .ok kvs := (rfl)
@[simp] theorem frz_od (kvs : List (Int × D)) : (SD.od kvs).frz = .dct kvs := (rfl)
@[simp] theorem varV_od (i : Nat) (ρ : List SD) (kvs : List (Int × D)) : varV i ρ (some (.od kvs)) = .ok (.sh (.dct kvs), ρ.set i (.sh (.dct kvs))) := (rfl)
@[simp] theorem retV_od (i : Nat) (ρ : List SD) (kvs : List (Int × D)) : retV i ρ (some (.od kvs)) = .ok (.rt (.od kvs) (ρ.set i .no)) := (rfl)
@[simp] theorem getI_nil (j : Int) : getI [] j = none := (rfl)
section
variable {α : Type} {m : Itm} {st : Tg} {test : Sb} {fk fv : Sx} {vs : List Nat} {g : α → D} {κ : α → Int} {v : α → D} {ρ : List SD}
end
def dcBack (vs : List Nat) (ρ : List SD) : Rs (List (Int × D) × List SD) → Rs (SD × List SD)
  | .ok (kvs, ρ') => .ok (.od kvs, backR ρ ρ' vs)
  | _ => .bad
@[simp] theorem dcBack_ok (vs : List Nat) (ρ ρ' : List SD) (kvs : List (Int × D)) : dcBack vs ρ (.ok (kvs, ρ')) = .ok (.od kvs, backR ρ ρ' vs) := (rfl)
noncomputable def dcGo (st : Tg) (test : Sb) (fk fv : Sx) (vs : List Nat) (m : Itm) (ρ : List SD) : Rs (SD × List SD) := if m.keep (wipeR ρ vs) ∧ (∀ b ∈ m.bor, b.1 ∉ vs) then dcBack vs ρ (dcL m st test fk fv vs m.xs [] (wipeR ρ vs)) else .bad
@[simp] theorem xDc_ap (src : Src) (st : Tg) (test : Sb) (fk fv : Sx) (vs : List Nat) (ρ : List SD) : xDc src st test fk fv vs ρ = (src ρ).bind fun p => dcGo st test fk fv vs p.1 p.2 := (rfl)
end Wm
end
section
namespace Wm
open PySem PySem.Spec PyProof.Rows L2
section
variable {X : Cx} {cl : Cl} {vs0 : List V} {Wx : WX}
end
end Wm
end
section
namespace Wm
open PySem PySem.Spec PyProof.Rows L2
inductive P2 (K : PySem.W.Frag) (H : Hp) : List V → List (Int × Int) → Prop
  | nil : P2 K H [] []
  | cons {t : Addr} {p : Int × Int} {xs : List V} {ps : List (Int × Int)} (h : SqT K H t [.int p.1, .int p.2]) (r : P2 K H xs ps) : P2 K H (.ref t :: xs) (p :: ps)
def psrt (ps : List (Int × Int)) : List (Int × Int) := ps.mergeSort fun p q => !SrtO.lexB q p
section
variable {X : Cx} {cl : Cl} {vs0 : List V} {Wx : WX}
abbrev dP2 (p : Int × Int) : D := .tup [.int p.1, .int p.2]
def asPrs : List D → Option (List (Int × Int))
  | [] => some []
  | .tup [.int i, .int j] :: r => (asPrs r).map ((i, j) :: ·)
  | _ => none
theorem asPrs_map : ∀ ps : List (Int × Int), asPrs (ps.map dP2) = some ps
  | [] => rfl
  | p :: ps => by simp only [List.map_cons, asPrs, asPrs_map ps, Option.map_some]
def pSortP : List D → Rs SD
  | [.lst xs] => match asPrs xs with
    | some ps => if ps.length ≤ sizeLine then .ok (.own ((psrt ps).map dP2)) else .bad
    | none => .bad
  | _ => .bad
@[simp] theorem pSortP_map (ps : List (Int × Int)) : pSortP [.lst (ps.map dP2)] = if ps.length ≤ sizeLine then .ok (.own ((psrt ps).map dP2)) else .bad := by
  show (match asPrs (ps.map dP2) with
    | some ps => if ps.length ≤ sizeLine then Rs.ok (SD.own ((psrt ps).map dP2)) else .bad
    | none => .bad) = _
  rw [asPrs_map]
end
end Wm
end
section
namespace Wm
open PySem PySem.Spec PyProof.Rows L2
section
variable {prog : Program} {w : World} {A : Around} {E : Value → Shared → Prop} {s : Shared}
theorem min_intTup {l : Addr} {xs : Array (Int × Tok)} {Q : Value → Shared → Prop} (hh : A.handled = none) (hl : s.heap.IsTuple l (intItems xs)) (hne : 0 < xs.size)
    (h : ∀ v h' tk, (intItems xs)[argBest (fun i j => decide (numAt xs i < numAt xs j)) (xs.size - 1)]? = some v → (∀ b o, s.heap.get? b = some o → h'.get? b = some o) → Q v { s with heap := h', toks := tk }) :
    wpAny (model prog w) A (call (.builtin "min") [.ref l]) Q E s := by
  have hlt : l < s.heap.objs.size := by obtain ⟨_, e, _⟩ := hl; exact Heap.lt_size e
  refine call_min_walk (wpAny_pyIter_tuple hl ?_)
  refine ⟨_, [s.heap.objs.size, l], [s.heap.objs.size], _, _, _, _, rfl, Walks.tuple (A := A.in1) hh _ l (Nat.ne_of_lt hlt) (intItems xs), ⟨⟨_, Heap.get?_push_size _ rfl, rfl, rfl⟩, hl.push _⟩, fun b hb => ?_, by simpa [intItems] using hne, CmpOf.ints_lt (numAt xs) (fun _ _ => intItems_at), fun v h' tk hP hk => ?_⟩
  · show b < (s.heap.push _).objs.size
    rw [Heap.size_push]
    rcases List.mem_cons.mp hb with rfl | hb
    · exact Nat.lt_succ_self _
    · rcases List.mem_cons.mp hb with rfl | hb
      · exact Nat.lt_succ_of_lt hlt
      · cases hb
  · exact h v h' tk (by simpa [intItems] using hP) fun b o e => hk b o (fun hb => absurd (Heap.lt_size e) ((List.mem_singleton.mp hb) ▸ Nat.lt_irrefl _)) (Heap.get?_push_of_some _ e)
theorem min_rawT {l : Addr} {its : List Value} {ns : List Int} {Q : Value → Shared → Prop} (hh : A.handled = none) (hl : s.heap.IsTuple l its.toArray) (hi : IntsAre its ns) (hne : 0 < ns.length)
    (h : ∀ h' tk M t', (∀ b o, s.heap.get? b = some o → h'.get? b = some o) → M ∈ ns → (∀ a, a ∈ ns → M ≤ a) → Q (.int M t') { s with heap := h', toks := tk }) : wpAny (model prog w) A (call (.builtin "min") [.ref l]) Q E s := by
  obtain ⟨xs, e⟩ := hi.allInts.items
  have hn : numsOf (intItems xs).toList = ns := by rw [← e]; exact hi.numsOf
  rw [nums_intItems] at hn
  subst hn
  rw [e] at hl
  have hsz : 0 < xs.size := by simpa using hne
  refine min_intTup hh hl hsz fun v h' tk hv hk => ?_
  obtain ⟨t, rfl⟩ := intItems_at hv
  obtain ⟨h1, h2⟩ := argBest_lt (numAt xs) (xs.size - 1)
  refine h h' tk _ t hk ?_ fun a ha => ?_
  · rw [numAt_eq]; exact PySem.getD_mem (by rw [List.length_map, Array.length_toList]; omega)
  · obtain ⟨j, hj, rfl⟩ := mem_getD ha
    rw [List.length_map, Array.length_toList] at hj
    rw [← numAt_eq]; exact h2 j (by omega)
end
section
variable {X : Cx} {cl : Cl} {vs0 : List V} {Wx : WX}
def rMinT (K : PySem.W.Frag) : List V → Hp → VK → Prop := fun vs H Q => ∃ (a : Addr) (ns : List Int), vs = [V.ref a] ∧ SqT K H a (ns.map V.int) ∧ 0 < ns.length ∧ ∀ m, m ∈ ns → (∀ y, y ∈ ns → m ≤ y) → Q (.int m) H
theorem cr_minT (hc : X.calm = true) : CallR X (.builtin "min") (rMinT X.K) := by
  intro pins s σ H vs us Q I r h
  obtain ⟨a, ns, rfl, hs, hne, q⟩ := h
  obtain ⟨its, rv, hl, hz⟩ := I.tuple hs
  rw [Vals.ref1 r]
  exact min_rawT (I.ok.hd hc) hl rv.ints hne fun h' tk m t' hk h1 h2 => ⟨.int _, H, I.kept hk, ⟨_, rfl⟩, q m h1 h2⟩
def pMinX : List D → Rs SD
  | [.tup ds] => match asInts ds with
    | some ns => if 0 < ns.length then .ok (.sh (.int (minL ns))) else .bad
    | none => .bad
  | ds => pMin ds
theorem call_minX (hc : X.calm = true) : CallR X (.builtin "min") (fun xs H Q => rMinT X.K xs H Q ∨ ((∃ i j, xs = [.int i, .int j] ∧ Q (.int (if j < i then j else i)) H) ∨ rMin X.K xs H Q)) := (cr_minT hc).or (call_minD hc)
theorem pr_minX : PrimR X cl (fun xs H Q => rMinT X.K xs H Q ∨ ((∃ i j, xs = [.int i, .int j] ∧ Q (.int (if j < i then j else i)) H) ∨ rMin X.K xs H Q)) pMinX := by
  intro O W H ds vs Q w ho hp
  unfold pMinX at hp
  split at hp
  · split at hp
    · split at hp
      · rename_i ns e hl
        obtain ⟨v, rfl, h1⟩ := ho.one
        rw [asInts_eq e] at h1
        obtain ⟨a, us, rfl, t, r⟩ := h1.tup
        have hv := r.ints
        subst hv
        refine .inl ⟨a, ns, rfl, t.sq, hl, fun m h1 h2 => ?_⟩
        have sp := minL_spec ns hl
        rw [show m = minL ns from Int.le_antisymm (h2 _ sp.1) (sp.2 m h1)]
        exact hp _ H (Same.refl H) (by simp only [Rp])
      · exact hp.elim
    · exact hp.elim
  · exact .inr (pr_min O W H _ vs Q w ho hp)
@[simp] theorem pMinX_two (i j : Int) : pMinX [.int i, .int j] = .ok (.sh (.int (if j < i then j else i))) := (rfl)
@[simp] theorem pMinX_lst (ds : List D) : pMinX [.lst ds] = pMin [.lst ds] := (rfl)
theorem pMinX_tup (ns : List Int) (h : 0 < ns.length) : pMinX [.tup (ns.map D.int)] = .ok (.sh (.int (minL ns))) := by
  show (match asInts (ns.map D.int) with
    | some ns => if 0 < ns.length then Rs.ok (SD.sh (.int (minL ns))) else .bad
    | none => .bad) = _
  rw [asInts_map]
  simp only [if_pos h]
end
end Wm
end
section
namespace Wm
open PySem PySem.Spec PyProof.Rows L2
def idxD (d : D) (ρ : List SD) : SD → Rs (SD × List SD)
  | .sh (.lst xs) => if okN 60 (.lst xs) = true ∧ okN 60 d = true then idxR ρ (xs.findIdx? fun y => eqD y d) else .bad
  | _ => .bad
def xIdxD (d : D) (fx : Sx) : Sx := fun ρ => (fx ρ).bind fun p => idxD d p.2 p.1
section
variable {X : Cx} {cl : Cl} {vs0 : List V} {Wx : WX}
end
@[simp] theorem xIdxD_ap (d : D) (fx : Sx) (ρ : List SD) : xIdxD d fx ρ = (fx ρ).bind fun p => idxD d p.2 p.1 := (rfl)
@[simp] theorem idxD_lst (d : D) (ρ : List SD) (xs : List D) : idxD d ρ (.sh (.lst xs)) = if okN 60 (.lst xs) = true ∧ okN 60 d = true then idxR ρ (xs.findIdx? fun y => eqD y d) else .bad := (rfl)
end Wm
end
section
namespace Wm
open PySem PySem.Spec PyProof.Rows L2
section
variable {prog : Program} {w : World} {A : Around} {E : Value → Shared → Prop} {s : Shared}
open SrtO in
end
section
variable {X : Cx} {cl : Cl} {vs0 : List V} {Wx : WX}
def xDSort (i : Nat) : Sx := fun ρ => (odO ρ[i]?).bind fun kvs => .ok (.own ((isrt (kvs.map (·.1))).map D.int), ρ)
end
@[simp] theorem xDSort_ap (i : Nat) (ρ : List SD) : xDSort i ρ = (odO ρ[i]?).bind fun kvs => .ok (.own ((isrt (kvs.map (·.1))).map D.int), ρ) := (rfl)
end Wm
end
section
namespace Wm
open PySem PySem.Spec PyProof.Rows L2
section
variable {X : Cx} {cl : Cl} {vs0 : List V} {Wx : WX} {a b c : Expr} {ta tb tc : TE} {pos p2 : Pos} {fl : List LOp}
end
end Wm
end
section
namespace Wm
open PySem PySem.Spec PyProof.Rows L2
section
variable {X : Cx} {body : List Stmt} {h0 : ExceptHandler} {hs : List ExceptHandler} {l : List (Value × Option Nat × Cts)} {pos : Pos} {tb : WX → TS} {Wo : WX}
end
section
variable {X : Cx} {cl : Cl} {vs0 : List V} {Wx : WX}
def sTryE (E : Str → Str → Option Bool) (gb : Ss) (hs : List Hd) (ge : Ss) : Ss := fun ρ => match gb ρ with
  | .exc c fs ρ' => catchS E hs c fs ρ'
  | .ok (.nx ρ') => ge ρ'
  | r => r
end
def tryRE (E : Str → Str → Option Bool) (hs : List Hd) (ge : Ss) : Rs Fl → Rs Fl
  | .exc c fs ρ' => catchS E hs c fs ρ'
  | .ok (.nx ρ') => ge ρ'
  | r => r
@[simp] theorem sTryE_ap (E : Str → Str → Option Bool) (gb : Ss) (hs : List Hd) (ge : Ss) (ρ : List SD) : sTryE E gb hs ge ρ = tryRE E hs ge (gb ρ) := by
  unfold sTryE tryRE
  cases gb ρ with
  | ok fl => cases fl <;> rfl
  | _ => rfl
@[simp] theorem tryRE_exc (E : Str → Str → Option Bool) (hs : List Hd) (ge : Ss) (c : Str) (fs : List (Str × D)) (ρ' : List SD) : tryRE E hs ge (.exc c fs ρ') = catchS E hs c fs ρ' := (rfl)
@[simp] theorem tryRE_nx (E : Str → Str → Option Bool) (hs : List Hd) (ge : Ss) (ρ' : List SD) : tryRE E hs ge (.ok (.nx ρ')) = ge ρ' := (rfl)
@[simp] theorem tryRE_rt (E : Str → Str → Option Bool) (hs : List Hd) (ge : Ss) (r : SD) (ρ' : List SD) : tryRE E hs ge (.ok (.rt r ρ')) = .ok (.rt r ρ') := (rfl)
end Wm
end
section
namespace Wm
open PySem PySem.Spec PyProof.Rows L2
section
variable {X : Cx} {cl : Cl} {vs0 : List V} {Wx : WX}
end
end Wm
end
section
namespace Wm
open PySem PySem.Spec PyProof.Rows L2
section
variable {prog : Program} {w : World} {A : Around} {s : Shared} {E : Value → Shared → Prop}
end
structure LamS1 (sc scope : Scope) (one d : Str) : Prop where
  kind : scope.kind = .function
  co : scope.isCoroutine = false
  gen : scope.isGenerator = false
  nocell : ∀ y ∈ scope.names, y.2 ≠ .cell
  h1 : scope.names.lookup one = some .local
  h2 : scope.names.lookup d = some .free
  free : ∀ y ∈ scope.names, y.2 = .free → sc.names.lookup y.1 = some .cell ∨ sc.names.lookup y.1 = some .free
def lamS1B (sc scope : Scope) (one d : Str) : Bool :=
  decide (scope.kind = .function) && (!scope.isCoroutine && (!scope.isGenerator && (decide (scope.names.lookup one = some .local) && (decide (scope.names.lookup d = some .free) && scope.names.all fun y => !decide (y.2 = .cell) && (!decide (y.2 = .free) || (decide (sc.names.lookup y.1 = some .cell) || decide (sc.names.lookup y.1 = some .free)))))))
theorem lamS1_by {sc scope : Scope} {one d : Str} (h : lamS1B sc scope one d = true) : LamS1 sc scope one d := by
  unfold lamS1B at h
  simp only [Bool.and_eq_true, Bool.or_eq_true, Bool.not_eq_true', decide_eq_true_eq, decide_eq_false_iff_not, List.all_eq_true] at h
  obtain ⟨h1, h2, h3, h4, h5, h6⟩ := h
  refine ⟨h1, h2, h3, fun y hy => (h6 y hy).1, h4, h5, fun y hy e => ?_⟩
  rcases (h6 y hy).2 with z | z
  · exact absurd e z
  · exact z
def isTupD : D → Bool
  | .tup _ => true
  | _ => false
def kvAt (kvs : List (Int × D)) (i : Nat) : Int × D := kvs.getD i (0, .non)
def btK (kvs : List (Int × D)) (i j : Nat) : Bool := PySem.W.dataLt (kvAt kvs i).2.py (kvAt kvs j).2.py
def okKv (kvs : List (Int × D)) : Bool := !kvs.isEmpty && kvs.all fun p => isTupD p.2 && (okN 60 p.2 && kvs.all fun q => PySem.W.alike p.2.py q.2.py)
def xMinD (i : Nat) : Sx := fun ρ => (dctO ρ[i]?).bind fun kvs => if okKv kvs = true then .ok (.sh (.int (kvAt kvs (argBest (btK kvs) (kvs.length - 1))).1), ρ) else .bad
end Wm
end
section
namespace Wm
open PySem PySem.Spec PyProof.Rows L2
section
variable {X : Cx} {cl : Cl} {vs0 : List V} {Wx : WX}
end
end Wm
end
section
namespace Wm
open PySem PySem.Spec PyProof.Rows L2
section
variable {X : Cx} {cl : Cl} {vs0 : List V} {Wx : WX} {a b : Expr} {fl : List LOp} {pos : Pos}
end
@[simp] theorem xMinD_ap (i : Nat) (ρ : List SD) : xMinD i ρ = (dctO ρ[i]?).bind fun kvs => if okKv kvs = true then .ok (.sh (.int (kvAt kvs (argBest (btK kvs) (kvs.length - 1))).1), ρ) else .bad := (rfl)
end Wm
end
section
namespace Wm
open PySem PySem.Spec PyProof.Rows L2
section
variable {P : Program} {w : World} {K : PySem.W.Frag} {mg : Str → Option Value} {base : Heap}
end
section
variable {X : Cx} {CX : CXT} {k : Nat} {f : Addr} {fd : FuncData} {ps : List Str} {sp : Sp} {dvs : List V} {ds : List Value} {E : L2.St → XK} {x : Str} {p pos : Pos} {e : Expr} {es : List Expr} {t : TA}
end
section
variable {X : Cx} {cl : Cl} {vs0 : List V} {Wx : WX}
end
end Wm
end
section
namespace Wm
open PySem PySem.Spec PyProof.Rows L2
def rpT : D → Str
  | .dct [] => "{}"
  | x => x.py.shown
def isE : D → Bool
  | .dct [] => true
  | _ => false
def okRp (x : D) : Bool := isE x || (okN 59 x && (x.py.showable && (decide (x.py.shown.length ≤ sizeLine) && PyData.strOk x.py.shown)))
def pRepr : List D → Rs SD
  | [x] => if okRp x = true then .ok (.sh (.str (rpT x))) else .bad
  | _ => .bad
section
variable {X : Cx} {cl : Cl} {vs0 : List V} {Wx : WX}
end
@[simp] theorem pRepr_ev (x : D) : pRepr [x] = if okRp x = true then .ok (.sh (.str (rpT x))) else .bad := (rfl)
section
open PySem.W
end
end Wm
end
section
namespace Wm
open PySem PySem.Spec PyProof.Rows L2
mutual
def shn : D → Nat
  | .int _ => 2000
  | .str x => (reprText x).length
  | .tup xs => shns xs + 3
  | .lst xs => shns xs + 3
  | _ => 5
def shns : List D → Nat
  | [] => 0
  | x :: xs => shn x + 2 + shns xs
end
mutual
def shw : D → Bool
  | .non => true
  | .bl _ => true
  | .int i => decide (i.natAbs.log2 < 1920)
  | .str x => PyData.strOk (reprText x)
  | .tup xs => shws xs
  | .lst xs => shws xs
  | _ => false
def shws : List D → Bool
  | [] => true
  | x :: xs => shw x && shws xs
end
theorem strOk_app (a b : Str) (ha : PyData.strOk a = true) (hb : PyData.strOk b = true) : PyData.strOk (a ++ b) = true := by
  unfold PyData.strOk at *
  show Array.all (a.cps ++ b.cps) _ = true
  rw [Array.all_append, ha, hb]
  rfl
theorem strOk_of (s : String) : PyData.strOk (Str.ofString s) = true := by
  unfold PyData.strOk
  rw [Str.ofString_eq_toList]
  simp only [List.all_toArray, List.all_map, List.all_eq_true, Function.comp]
  intro c _
  have := c.valid
  have : c.toNat < 0x110000 := by
    rcases this with h | h
    · show c.val.toNat < _
      have h : c.val.toNat < 0xd800 := h
      omega
    · exact h.2
  simpa using this
theorem strOk_join (sep : Str) (hs : PyData.strOk sep = true) : ∀ ts : List Str, (∀ t ∈ ts, PyData.strOk t = true) → PyData.strOk (Str.join sep ts) = true
  | [], _ => by
    have e : Str.join sep [] = Str.empty := by simp only [Str.join]
    rw [e]
    decide +kernel
  | [x], h => h x (by simp)
  | x :: y :: r, h => strOk_app _ _ (strOk_app _ _ (h x (by simp)) hs) (strOk_join sep hs (y :: r) fun t ht => h t (List.mem_cons_of_mem _ ht))
theorem strOk_list (ts : List Str) (h : ∀ t ∈ ts, PyData.strOk t = true) : PyData.strOk (listText ts) = true := by
  rw [listText_eq_join]
  exact strOk_app _ _ (strOk_app _ _ (strOk_of _) (strOk_join _ (strOk_of _) ts h)) (strOk_of _)
theorem strOk_tuple (ts : List Str) (h : ∀ t ∈ ts, PyData.strOk t = true) : PyData.strOk (tupleText ts) = true := by
  unfold tupleText
  exact strOk_app _ _ (strOk_app _ _ (strOk_of _) (strOk_join _ (strOk_of _) ts h)) (strOk_of _)
mutual
theorem shw_ok : ∀ d : D, shw d = true → d.py.showable = true ∧ d.py.shown.length ≤ shn d ∧ PyData.strOk d.py.shown = true
  | .non, _ => by simp only [D.py, PyData.showable, PyData.shown]; exact ⟨trivial, by simp only [shn]; decide, strOk_of _⟩
  | .bl b, _ => by cases b <;> (simp only [D.py, PyData.showable, PyData.shown]; exact ⟨trivial, by simp only [shn]; decide, strOk_of _⟩)
  | .int i, h => by
    simp only [shw, decide_eq_true_eq] at h
    simp only [D.py, PyData.showable, PyData.shown, decide_eq_true_eq]
    refine ⟨h, ?_, strOk_of _⟩
    have e := int_text_length_le (k := 1920) (by decide) h
    rw [PySem.ofString_length]
    simp only [shn]
    omega
  | .str x, h => by
    simp only [shw] at h
    simp only [D.py, PyData.showable, PyData.shown, shn]
    exact ⟨trivial, Nat.le_refl _, h⟩
  | .tup xs, h => by
    simp only [shw] at h
    obtain ⟨h1, h2, h3⟩ := shws_ok xs h
    simp only [D.py, PyData.showable, PyData.shown]
    refine ⟨h1, ?_, strOk_tuple _ h3⟩
    have := tupleText_len_le (PyData.shownAll (pys xs))
    simp only [shn]
    omega
  | .lst xs, h => by
    simp only [shw] at h
    obtain ⟨h1, h2, h3⟩ := shws_ok xs h
    simp only [D.py, PyData.showable, PyData.shown]
    refine ⟨h1, ?_, strOk_list _ h3⟩
    have := listText_len_le (PyData.shownAll (pys xs))
    simp only [shn]
    omega
  | .ins _ _, h => by simp [shw] at h
  | .scr _, h => by simp [shw] at h
  | .dct _, h => by simp [shw] at h
theorem shws_ok : ∀ ds : List D, shws ds = true → PyData.showableAll (pys ds) = true ∧ ((PyData.shownAll (pys ds)).map (·.length)).sum + 2 * (PyData.shownAll (pys ds)).length ≤ shns ds ∧ ∀ t ∈ PyData.shownAll (pys ds), PyData.strOk t = true
  | [], _ => by simp [pys, PyData.showableAll, PyData.shownAll, shns]
  | d :: ds, h => by
    simp only [shws, Bool.and_eq_true] at h
    obtain ⟨h1, h2, h3⟩ := shw_ok d h.1
    obtain ⟨g1, g2, g3⟩ := shws_ok ds h.2
    simp only [pys, PyData.showableAll, PyData.shownAll, h1, g1, Bool.and_self, List.map_cons, List.sum_cons, List.length_cons, shns]
    refine ⟨trivial, by omega, fun t ht => ?_⟩
    rcases List.mem_cons.mp ht with rfl | ht
    · exact h3
    · exact g3 t ht
end
end Wm
end
section
namespace Wm
open PySem PySem.Spec PyProof.Rows L2
section
variable {G : Gx} {vs0 : List V} {O W O' W' U W1 F : List Addr} {σ : L2.St} {H H' : Hp} {ρ : List SD}
structure Hid (G : Gx) (O W : List Addr) (H : Hp) (t : OT) (v : V) (fp : List Addr) : Prop where
  o : OwT G O fp H t v fp
  s : ∀ b ∈ fp, b ∈ O
  n : ∀ b ∈ fp, b ∉ W
theorem Hid.step {t : OT} {v : V} {fp : List Addr} (h : Hid G O W H t v fp) (w : Wf O W H) (st : Stp O W H O' W' H') : Hid G O' W' H' t v fp :=
  ⟨h.o.go w st fun b hb => ⟨hb, fun vs e => st.keep b _ e (h.n b hb) (fun _ z => by cases z)⟩, fun b hb => st.ofz b (h.s b hb) (h.n b hb), fun b hb z => by
    rcases st.wnew b z with q | q
    · exact h.n b hb q
    · exact w.trk b (h.s b hb) q⟩
theorem Stp.wr {b : Addr} {us : List V} (h : b ∈ W) : Stp O W H O W (upd H b (.lst us)) :=
  ⟨fun c o e hc _ => by rw [upd_ne (show c ≠ b from fun z => hc (z ▸ h))]; exact e, fun _ h => .inl h, fun _ h => .inl h, fun c hc => noD_upd hc, fun _ h _ => h⟩
theorem OwTs.len : ∀ {ts : List OT} {vs : List V} {f : List Addr}, OwTs G O F H ts vs f → ts.length = vs.length
  | [], vs, f, h => by simp only [OwTs] at h; rw [h.1]; rfl
  | t :: ts, vs, f, h => by
    simp only [OwTs] at h
    obtain ⟨v, r, f1, g, rfl, _, _, _, h3⟩ := h
    rw [List.length_cons, List.length_cons, OwTs.len h3]
def leaf : List OT → Option (List D)
  | [] => some []
  | .dat d :: ts => (leaf ts).map (d :: ·)
  | _ :: _ => none
theorem leaf_map : ∀ {ds : List D}, leaf (ds.map .dat) = some ds
  | [] => rfl
  | d :: ds => by show (leaf (ds.map .dat)).map (d :: ·) = _; rw [leaf_map]; rfl
def OT.kids : OT → Option (List OT)
  | .lst ts => some ts
  | .tup ts => some ts
  | .dat _ => none
def OT.with : OT → List OT → OT
  | .lst _, ts => .lst ts
  | .tup _, ts => .tup ts
  | .dat d, _ => .dat d
def OT.at' (t : OT) (k : Int) : Option (Nat × List D) := t.kids.bind fun ts => (ixN ts.length k).bind fun j => match ts[j]? with
  | some (.lst us) => (leaf us).map fun ds => (j, ds)
  | _ => none
def OT.put (t : OT) (j : Nat) (ds : List D) : OT := match t.kids with
  | some ts => t.with (ts.set j (.lst (ds.map .dat)))
  | none => t
end
end Wm
end
section
namespace Wm
open PySem PySem.Spec PyProof.Rows L2
section
variable {X : Cx} {cl : Cl} {vs0 : List V} {Wx : WX}
abbrev Tst := D → List SD → Rs (List SD)
structure GT (X : Cx) (cl : Cl) (vs0 : List V) (tg : Expr) (st : Tst) : Prop where
  ex : ∃ g, PG X tg g ∧ ∀ O W σ H ρ ρ' d v (Q : L2.St → Hp → Prop), SR (gx X cl) vs0 O W σ H ρ → Rp (gx X cl) O H d v → st d ρ = .ok ρ' → (∀ σ' O' W' H', Stp O W H O' W' H' → SR (gx X cl) vs0 O' W' σ' H' ρ' → Q σ' H') → g v σ H Q
def putAt (x : Nat) (t : OT) (k1 k2 : D) (d : D) (ρ : List SD) : Rs (List SD) := match k1, k2 with
  | .int k1, .int k2 => match t.at' k1 with
    | some (j, ds) => match setAt ds k2 d with
      | some ds' => .ok (ρ.set x (.ow (t.put j ds')))
      | none => .bad
    | none => .bad
  | _, _ => .bad
def oneO : List D → Rs D
  | [d] => .ok d
  | _ => .bad
def owO : Option SD → Rs OT
  | some (.ow t) => .ok t
  | _ => .bad
def stSub2 (x : Nat) (o1 o2 : LOp) : Tst := fun d ρ => (owO ρ[x]?).bind fun t => (ops [o1] (ρ.set x .no)).bind fun q => (oneO q.1).bind fun k1 => (ops [o2] q.2).bind fun q2 => (oneO q2.1).bind fun k2 => putAt x t k1 k2 d q2.2
def sStG (f : Sx) (st : Tst) : Ss := fun ρ => (f ρ).bind fun p => (st p.1.frz p.2).bind fun ρ' => .ok (.nx ρ')
def quiet (st : Tst) : Tst := fun d ρ => match st d ρ with
  | .ok ρ' => .ok ρ'
  | _ => .bad
theorem GT.quiet {tg : Expr} {st : Tst} (h : GT X cl vs0 tg st) : GT X cl vs0 tg (Wm.quiet st) := by
  obtain ⟨g, pg, qg⟩ := h.ex
  refine ⟨⟨g, pg, fun O W σ H ρ ρ' d v Q sr rp e hQ => qg O W σ H ρ ρ' d v Q sr rp ?_ hQ⟩⟩
  unfold Wm.quiet at e
  cases es : st d ρ with
  | ok r => rw [es] at e; cases e; rfl
  | exc c fs r => rw [es] at e; cases e
  | bad => rw [es] at e; cases e
def stPr (s1 s2 : Tst) : Tst := fun d ρ => match d with
  | .tup [d1, d2] => (s1 d1 ρ).bind fun ρ' => s2 d2 ρ'
  | _ => .bad
def innP (x : Nat) (t : OT) (m : List D → Rs (D × List D)) (ρ : List SD) : D → Rs (SD × List SD)
  | .int k => match t.at' k with
    | some (j, ds) => (m ds).bind fun q => .ok (.sh q.1, ρ.set x (.ow (t.put j q.2)))
    | none => .bad
  | _ => .bad
def xInn0 (x : Nat) (o1 : LOp) (m : List D → Rs (D × List D)) : Sx := fun ρ => (owO ρ[x]?).bind fun t => (ops [o1] (ρ.set x .no)).bind fun q => (oneO q.1).bind (innP x t m q.2)
end
end Wm
end
section
namespace Wm
open PySem PySem.Spec PyProof.Rows L2
section
variable {X : Cx} {cl : Cl} {vs0 : List V} {Wx : WX}
def mAppend (d : D) (ds : List D) : Rs (D × List D) := if ds.length < sizeLine then .ok (.non, ds ++ [d]) else .bad
def plc (t : OT) : D → Rs Unit
  | .int k => match t.at' k with
    | some _ => .ok ()
    | none => .bad
  | _ => .bad
def xInnA (x : Nat) (o1 : LOp) (f : Sx) : Sx := fun ρ => (owO ρ[x]?).bind fun t => (ops [o1] (ρ.set x .no)).bind fun q => (oneO q.1).bind fun k => (plc t k).bind fun _ => (f q.2).bind fun p => innP x t (mAppend p.1.frz) p.2 k
def SD.pk : SD → SD
  | .own xs => .sh (.lst xs)
  | .byr xs => .sh (.lst xs)
  | .od kvs => .sh (.dct kvs)
  | .ow t => .sh t.dt
  | s => s
theorem SD.pk_mine {s : SD} : s.pk.mine = false := by cases s <;> rfl
def bPk (f : Sb) : Sb := fun ρ => match f (ρ.map SD.pk) with
  | .ok (b, _) => .ok (b, ρ)
  | _ => .bad
theorem SR.pk {G : Gx} {O W : List Addr} {σ : L2.St} {H : Hp} {ρ : List SD} (r : SR G vs0 O W σ H ρ) : SR G vs0 [] [] σ H (ρ.map SD.pk) := by
  have get : ∀ {i : Nat} {s : SD}, (ρ.map SD.pk)[i]? = some s → ∃ u, ρ[i]? = some u ∧ s = u.pk := fun {i s} e => by
    rw [List.getElem?_map] at e
    obtain ⟨u, h1, h2⟩ := Option.map_eq_some_iff.mp e
    exact ⟨u, h1, h2.symm⟩
  have less : ∀ b ∈ ([] : List Addr), b ∈ O := fun b hb => absurd hb (by simp)
  refine ⟨⟨fun b hb => hb, fun b hb => absurd hb (by simp)⟩, by rw [List.length_map, r.len], fun i s e => ?_, fun i j s t a e1 e2 m1 m2 _ _ => ?_, ⟨r.tabs.tc, fun q hq => (r.tabs.k q hq).less less⟩, OwS.nil fun i t e => ?_⟩
  · obtain ⟨u, h1, rfl⟩ := get e
    have q := r.slot i u h1
    cases u with
    | no => trivial
    | sh d => obtain ⟨v, e, r⟩ := q; exact ⟨v, e, r.less less⟩
    | own xs =>
      obtain ⟨a, e, _, vs, h2, h3, h4⟩ := q
      refine ⟨.ref a, e, ?_⟩
      simp only [Rp]
      exact ⟨a, vs, rfl, ⟨h3, h2, by simp⟩, h4.less less⟩
    | byr xs =>
      obtain ⟨a, e, _, _, vs, h2, h3, h4⟩ := q
      refine ⟨.ref a, e, ?_⟩
      simp only [Rp]
      exact ⟨a, vs, rfl, ⟨h3, h2, by simp⟩, h4.less less⟩
    | xn c fs => obtain ⟨a, p, gs, e, x, t, n, r⟩ := q; exact ⟨a, p, gs, e, x, t, by simp, RpF.less less r⟩
    | gv => exact q
    | od kvs =>
      obtain ⟨a, e, _, gs, h2, h4⟩ := q
      refine ⟨.ref a, e, ?_⟩
      simp only [Rp]
      exact ⟨a, gs, rfl, h2, by simp, RpD.less less h4⟩
    | ow t =>
      obtain ⟨φ, w1, _, _⟩ := r.ows
      obtain ⟨v, ev, o⟩ := w1 i t h1
      exact ⟨v, by rw [ev]; rfl, o.rp less fun b hb => by simp⟩
  · obtain ⟨u, _, rfl⟩ := get e1
    rw [SD.pk_mine] at m1; cases m1
  · obtain ⟨u, _, h⟩ := get e
    cases u <;> cases h
end
end Wm
end
section
namespace Wm
open PySem PySem.Spec PyProof.Rows L2
def SD.ot : SD → OT
  | .own xs => .lst (xs.map .dat)
  | .ow t => t
  | s => .dat s.frz
section
variable {G : Gx} {vs0 : List V} {O W O' W' : List Addr} {σ : L2.St} {H H' : Hp} {ρ : List SD}
structure HidA (G : Gx) (O W : List Addr) (H : Hp) (p : Addr) (ts : List OT) (vs : List V) (fp : List Addr) : Prop where
  o : OwTs G O fp H ts vs fp
  s : ∀ b ∈ fp, b ∈ O
  n : ∀ b ∈ fp, b ∉ W
  np : p ∉ fp
theorem HidA.step {p : Addr} {ts : List OT} {vs : List V} {fp : List Addr} (h : HidA G O W H p ts vs fp) (w : Wf O W H) (st : Stp O W H O' W' H') : HidA G O' W' H' p ts vs fp :=
  ⟨h.o.go w st fun b hb => ⟨hb, fun vs e => st.keep b _ e (h.n b hb) (fun _ z => by cases z)⟩, fun b hb => st.ofz b (h.s b hb) (h.n b hb), fun b hb z => by
    rcases st.wnew b z with q | q
    · exact h.n b hb q
    · exact w.trk b (h.s b hb) q, h.np⟩
theorem OwTs.append {F : List Addr} : ∀ {ts us : List OT} {vs ws : List V} {f g : List Addr}, OwTs G O F H ts vs f → OwTs G O F H us ws g → (∀ b ∈ f, b ∉ g) → OwTs G O F H (ts ++ us) (vs ++ ws) (f ++ g)
  | [], us, vs, ws, f, g, h, q, _ => by
    simp only [OwTs] at h
    obtain ⟨rfl, rfl⟩ := h
    exact q
  | t :: ts, us, vs, ws, f, g, h, q, d => by
    simp only [OwTs] at h
    obtain ⟨v, r, f1, g1, rfl, rfl, h1, h2, h3⟩ := h
    show OwTs G O F H (t :: (ts ++ us)) (v :: (r ++ ws)) _
    simp only [OwTs]
    exact ⟨v, _, f1, g1 ++ g, rfl, List.append_assoc .., fun a ha z => by
      rcases List.mem_append.mp z with y | y
      · exact h1 a ha y
      · exact d a (List.mem_append.mpr (.inl ha)) y, h2, OwTs.append h3 q fun b hb => d b (List.mem_append.mpr (.inr hb))⟩
theorem HidA.snoc {p : Addr} {ts : List OT} {vs : List V} {fp g : List Addr} {t : OT} {v : V} (h : HidA G O W H p ts vs fp) (q : Hid G O W H t v g) (d : ∀ b ∈ fp, b ∉ g) (hp : p ∉ g) : HidA G O W H p (ts ++ [t]) (vs ++ [v]) (fp ++ g) :=
  ⟨(h.o.less (fun _ h => h) fun b hb => List.mem_append.mpr (.inl hb)).append (by
    simp only [OwTs]
    exact ⟨v, [], g, [], rfl, (List.append_nil g).symm, by simp, q.o.less (fun _ h => h) fun b hb => List.mem_append.mpr (.inr hb), rfl, rfl⟩) d,
  fun b hb => (List.mem_append.mp hb).elim (h.s b) (q.s b), fun b hb => (List.mem_append.mp hb).elim (h.n b) (q.n b), fun z => (List.mem_append.mp z).elim h.np hp⟩
theorem HidA.grow {p : Addr} {ts : List OT} {vs us : List V} {fp : List Addr} (h : HidA G O W H p ts vs fp) (w : Wf O W H) (hO : p ∈ O) (hW : p ∉ W) : HidA G O W (upd H p (.lst us)) p ts vs fp := by
  have w2 : Wf O (p :: W) H := ⟨fun b hb => by
    rcases List.mem_cons.mp hb with e | e
    · rw [e]; exact hO
    · exact w.sub b e, w.trk⟩
  have st : Stp O (p :: W) H O (p :: W) (upd H p (.lst us)) := Stp.wr (by simp)
  exact ⟨h.o.go w2 st fun b hb => ⟨hb, fun vs e => by rw [upd_ne (show b ≠ p from fun z => h.np (z ▸ hb))]; exact e⟩, h.s, h.n, h.np⟩
end
section
variable {X : Cx} {cl : Cl} {vs0 : List V} {Wx : WX}
variable {elt tg iter : Expr} {ifs : List Expr} {scope : Scope} {own : List (Str × Nat)} {pos : Pos} {src : Src} {st : Tg} {is : List Nat} {test : Sb} {f : Sx}
end
end Wm
end
section
namespace Wm
open PySem PySem.Spec PyProof.Rows L2
def mopsT : List Sx → List SD → Rs (List OT × List SD)
  | [], ρ => .ok ([], ρ)
  | f :: r, ρ => (f ρ).bind fun p => (mopsT r p.2).bind fun q => .ok (p.1.ot :: q.1, q.2)
section
variable {X : Cx} {cl : Cl} {vs0 : List V} {Wx : WX} {pos : Pos}
def xTupT (fs : List Sx) : Sx := fun ρ => (mopsT fs ρ).bind fun q => if q.1.length ≤ sizeLine then .ok (.ow (.tup q.1), q.2) else .bad
end
end Wm
end
section
namespace Wm
open PySem PySem.Spec PyProof.Rows L2
@[simp] theorem frz_ow (t : OT) : (SD.ow t).frz = t.dt := (rfl)
@[simp] theorem ot_own (xs : List D) : (SD.own xs).ot = .lst (xs.map .dat) := (rfl)
@[simp] theorem ot_ow (t : OT) : (SD.ow t).ot = t := (rfl)
@[simp] theorem ot_sh (d : D) : (SD.sh d).ot = .dat d := (rfl)
@[simp] theorem dt_dat (d : D) : (OT.dat d).dt = d := by rw [OT.dt]
@[simp] theorem dts_map (ds : List D) : OT.dts (ds.map .dat) = ds := by
  induction ds with
  | nil => rw [List.map_nil, OT.dts]
  | cons d ds ih => rw [List.map_cons, OT.dts, ih, dt_dat]
@[simp] theorem dt_lst (ts : List OT) : (OT.lst ts).dt = .lst (OT.dts ts) := by rw [OT.dt]
@[simp] theorem dt_tup (ts : List OT) : (OT.tup ts).dt = .tup (OT.dts ts) := by rw [OT.dt]
@[simp] theorem dts_nil : OT.dts [] = [] := by rw [OT.dts]
@[simp] theorem dts_cons (t : OT) (ts : List OT) : OT.dts (t :: ts) = t.dt :: OT.dts ts := by rw [OT.dts]
@[simp] theorem varV_ow (i : Nat) (ρ : List SD) (t : OT) : varV i ρ (some (.ow t)) = .ok (.sh t.dt, ρ.set i (.sh t.dt)) := (rfl)
@[simp] theorem retV_ow (i : Nat) (ρ : List SD) (t : OT) : retV i ρ (some (.ow t)) = .ok (.rt (.ow t) (ρ.set i .no)) := (rfl)
@[simp] theorem owO_ow (t : OT) : owO (some (.ow t)) = .ok t := (rfl)
@[simp] theorem oneO_one (d : D) : oneO [d] = .ok d := (rfl)
@[simp] theorem pk_sh (d : D) : (SD.sh d).pk = .sh d := (rfl)
@[simp] theorem pk_own (xs : List D) : (SD.own xs).pk = .sh (.lst xs) := (rfl)
@[simp] theorem pk_byr (xs : List D) : (SD.byr xs).pk = .sh (.lst xs) := (rfl)
@[simp] theorem pk_od (kvs : List (Int × D)) : (SD.od kvs).pk = .sh (.dct kvs) := (rfl)
@[simp] theorem pk_ow (t : OT) : (SD.ow t).pk = .sh t.dt := (rfl)
@[simp] theorem pk_no : (SD.no).pk = .no := (rfl)
@[simp] theorem pk_gv : (SD.gv).pk = .gv := (rfl)
def pkB (ρ : List SD) : Rs (Bool × List SD) → Rs (Bool × List SD)
  | .ok (b, _) => .ok (b, ρ)
  | _ => .bad
@[simp] theorem pkB_ok (ρ ρ' : List SD) (b : Bool) : pkB ρ (.ok (b, ρ')) = .ok (b, ρ) := (rfl)
@[simp] theorem bPk_ap (f : Sb) (ρ : List SD) : bPk f ρ = pkB ρ (f (ρ.map SD.pk)) := (rfl)
@[simp] theorem sStG_ap (f : Sx) (st : Tst) (ρ : List SD) : sStG f st ρ = (f ρ).bind fun p => (st p.1.frz p.2).bind fun ρ' => .ok (.nx ρ') := (rfl)
def quO : Rs (List SD) → Rs (List SD)
  | .ok ρ => .ok ρ
  | _ => .bad
@[simp] theorem quO_ok (ρ : List SD) : quO (.ok ρ) = .ok ρ := (rfl)
@[simp] theorem quiet_ap (st : Tst) (d : D) (ρ : List SD) : quiet st d ρ = quO (st d ρ) := by
  unfold quiet quO
  cases st d ρ <;> rfl
@[simp] theorem stSub2_ap (x : Nat) (o1 o2 : LOp) (d : D) (ρ : List SD) : stSub2 x o1 o2 d ρ = (owO ρ[x]?).bind fun t => (ops [o1] (ρ.set x .no)).bind fun q => (oneO q.1).bind fun k1 => (ops [o2] q.2).bind fun q2 => (oneO q2.1).bind fun k2 => putAt x t k1 k2 d q2.2 := (rfl)
@[simp] theorem stPr_ap (s1 s2 : Tst) (d1 d2 : D) (ρ : List SD) : stPr s1 s2 (.tup [d1, d2]) ρ = (s1 d1 ρ).bind fun ρ' => s2 d2 ρ' := (rfl)
@[simp] theorem mopsT_nil (ρ : List SD) : mopsT [] ρ = .ok ([], ρ) := (rfl)
@[simp] theorem mopsT_cons (f : Sx) (r : List Sx) (ρ : List SD) : mopsT (f :: r) ρ = (f ρ).bind fun p => (mopsT r p.2).bind fun q => .ok (p.1.ot :: q.1, q.2) := (rfl)
@[simp] theorem xTupT_ap (fs : List Sx) (ρ : List SD) : xTupT fs ρ = (mopsT fs ρ).bind fun q => if q.1.length ≤ sizeLine then .ok (.ow (.tup q.1), q.2) else .bad := (rfl)
@[simp] theorem leaf_mapD (ds : List D) : leaf (ds.map .dat) = some ds := leaf_map
def LL (rs : List (List D)) : OT := .lst (rs.map fun r => .lst (r.map .dat))
def toOT : D → OT
  | .lst xs => .lst (xs.map .dat)
  | d => .dat d
def toT : Rs (SD × List SD) → Rs (SD × List SD)
  | .ok (.own ds, ρ) => .ok (.ow (.lst (ds.map toOT)), ρ)
  | _ => .bad
@[simp] theorem toT_own (ds : List D) (ρ : List SD) : toT (.ok (.own ds, ρ)) = .ok (.ow (.lst (ds.map toOT)), ρ) := (rfl)
@[simp] theorem xInn0_ap (x : Nat) (o1 : LOp) (m : List D → Rs (D × List D)) (ρ : List SD) : xInn0 x o1 m ρ = (owO ρ[x]?).bind fun t => (ops [o1] (ρ.set x .no)).bind fun q => (oneO q.1).bind (innP x t m q.2) := (rfl)
@[simp] theorem xInnA_ap (x : Nat) (o1 : LOp) (f : Sx) (ρ : List SD) : xInnA x o1 f ρ = (owO ρ[x]?).bind fun t => (ops [o1] (ρ.set x .no)).bind fun q => (oneO q.1).bind fun k => (plc t k).bind fun _ => (f q.2).bind fun p => innP x t (mAppend p.1.frz) p.2 k := (rfl)
def innG (x : Nat) (t : OT) (m : List D → Rs (D × List D)) (ρ : List SD) : Option (Nat × List D) → Rs (SD × List SD)
  | some p => (m p.2).bind fun q => .ok (.sh q.1, ρ.set x (.ow (t.put p.1 q.2)))
  | none => .bad
@[simp] theorem innP_int (x : Nat) (t : OT) (m : List D → Rs (D × List D)) (ρ : List SD) (k : Int) : innP x t m ρ (.int k) = innG x t m ρ (t.at' k) := by
  show (match t.at' k with
    | some (j, ds) => (m ds).bind fun q => Rs.ok (SD.sh q.1, ρ.set x (.ow (t.put j q.2)))
    | none => .bad) = _
  cases t.at' k <;> rfl
@[simp] theorem innG_some (x : Nat) (t : OT) (m : List D → Rs (D × List D)) (ρ : List SD) (p : Nat × List D) : innG x t m ρ (some p) = (m p.2).bind fun q => Rs.ok (SD.sh q.1, ρ.set x (.ow (t.put p.1 q.2))) := (rfl)
@[simp] theorem plc_int (t : OT) (k : Int) : plc t (.int k) = match t.at' k with
    | some _ => .ok ()
    | none => .bad := (rfl)
end Wm
end
section
namespace Wm
open PySem PySem.Spec PyProof.Rows L2
def pIsi2 (t u : BT) : List D → Rs SD
  | [d] => match isB t d, isB u d with
    | some b, some c => .ok (.sh (.bl (b || c)))
    | _, _ => .bad
  | _ => .bad
section
variable {X : Cx} {cl : Cl} {vs0 : List V} {Wx : WX}
theorem Op1.same {G : Gx} {O W : List Addr} {H H' : Hp} {d : D} {v : V} (w : Wf O W H) (sm : Same H H') (h : Op1 G O W H d v) : Op1 G O W H' d v := by
  rcases h with h | ⟨a, xs, e, e2, o⟩
  · exact .inl (h.step w (Stp.same sm))
  · exact .inr ⟨a, xs, e, e2, o.step w (Stp.same sm) (fun _ h => h) fun b o _ e => sm b o e⟩
end
@[simp] theorem pIsi2_ap (t u : BT) (d : D) : pIsi2 t u [d] = match isB t d, isB u d with
    | some b, some c => .ok (.sh (.bl (b || c)))
    | _, _ => .bad := (rfl)
end Wm
end
section
namespace Wm
open PySem PySem.Spec PyProof.Rows L2
section
variable {X : Cx} {tg : Expr} {e e2 e3 : Expr} {ta : TA} {p pos tpos : Pos} {elts : List Expr} {kk : Nat}
end
def zip3D (xs ys zs : List D) : List D := List.zipWith (fun (f : D → D) z => f z) (List.zipWith (fun x y => fun z => .tup [x, y, z]) xs ys) zs
noncomputable def srcZip3 (o o2 o3 : LOp) : Src := fun ρ => (con o ρ).bind fun p => (con o2 p.2).bind fun q => (con o3 q.2).bind fun r => if p.1.keep r.2 ∧ q.1.keep r.2 then .ok (⟨zip3D p.1.xs q.1.xs r.1.xs, p.1.bor ++ (q.1.bor ++ r.1.bor)⟩, r.2) else .bad
section
variable {X : Cx} {cl : Cl} {vs0 : List V} {Wx : WX}
end
@[simp] theorem srcZip3_ap (o o2 o3 : LOp) (ρ : List SD) : srcZip3 o o2 o3 ρ = (con o ρ).bind fun p => (con o2 p.2).bind fun q => (con o3 q.2).bind fun r => if p.1.keep r.2 ∧ q.1.keep r.2 then .ok (⟨zip3D p.1.xs q.1.xs r.1.xs, p.1.bor ++ (q.1.bor ++ r.1.bor)⟩, r.2) else .bad := (rfl)
end Wm
end
section
namespace Wm
open PySem PySem.Spec PyProof.Rows L2
section
variable {X : Cx} {cl : Cl}
end
end Wm
end
section
namespace Wm
open PySem PySem.Spec PyProof.Rows L2
section
variable {prog : Program} {w : World} {A : Around} {E : Value → Shared → Prop} {s : Shared}
theorem min_two_data {a b : Value} {x y : PyData} {as : List Addr} {Q : Value → Shared → Prop} (hh : A.handled = none) (hr : ReadsAll s.heap [a, b] [x, y] as) (ha : PySem.W.AlikeAll [x, y]) (hu : A.units + 1 + PyData.depthAll [x, y] < cLine)
    (h : ∀ h' tk, (∀ b o, s.heap.get? b = some o → h'.get? b = some o) → Q (if PySem.W.dataLt y x = true then b else a) { s with heap := h', toks := tk }) :
    wpAny (model prog w) A (call (.builtin "min") [a, b]) Q E s := by
  have hname : (toString "min" ++ toString ".loop" : String) = "min.loop" := by decide
  refine call_function_tree F.kind_min F.plain_min F.entry_min (PySem.F.args_min2 _ _) ?_
  show wpAny _ A.in1 (Builtin.Builtins.bindParams "min" ["key", "default"] 0 ⟨[], []⟩ >>= _) _ _ s
  refine wpAny_bind (wpAny_of_eq (show Builtin.Builtins.bindParams "min" ["key", "default"] 0 ⟨[], []⟩ = pure [none, none] from rfl) ?_)
  show wpAny _ A.in1 (newTuple [a, b] >>= _) _ _ s
  refine wpAny_bind (wpAny_newObj_type ?_)
  have hr1 : ReadsAll (s.heap.push { cls := .type "tuple", data := .seq #[a, b] }) (#[a, b] : Array Value).toList [x, y] as := ReadsAll.keeps (fun b o e => Heap.get?_push_of_some _ e) hr
  refine wpAny_bind (PySem.W.iter_tupleW (A := A.in1) (s := { s with heap := s.heap.push { cls := .type "tuple", data := .seq #[a, b] } }) (vs := #[a, b]) hh ⟨_, Heap.get?_push_size _ rfl, rfl, 0, rfl⟩ fun s₂ e W st hfp hw hk => ?_)
  refine wpAny_bind (wpAny_newObj_type ?_)
  have hSf : s₂.heap.objs.size ∉ _ := fun hm => Nat.lt_irrefl _ (hfp _ hm)
  rw [hname]
  refine wpAny_pure ⟨plainId_quiet F.plain_min_loop _, PySem.codeAny_min_loop_firstH W (s.heap.push { cls := .type "tuple", data := .seq #[a, b] }) hw _ (PySem.W.cmpIn_lt (s := { s with heap := s.heap.push { cls := .type "tuple", data := .seq #[a, b] } }) (prog := prog) (w := w) (A := A.in1) hr1 ha (by show A.units + 1 + _ < _; exact hu)) s₂.heap.objs.size hSf (PySem.fresh_in hk) _ (show 0 < 2 by decide) (fun b o e => Heap.get?_push_of_some _ (hk b o e)) (W.frame 0 s₂ _ s₂.toks st (Nat.le_refl _) fun b _ o e => Heap.get?_push_of_some _ e) (Heap.get?_push_size _ rfl) fun v s' hP hm => ?_⟩
  · have hm2 := Moved.drop_new (tk := s₂.toks) hm (Nat.le_refl _)
    obtain ⟨h', tk, rfl, hk'⟩ := PySem.W.moved_old (s := { s with heap := s.heap.push { cls := .type "tuple", data := .seq #[a, b] } }) e rfl hm2
    have hv : v = if PySem.W.dataLt y x = true then b else a := by
      have hP : (#[a, b] : Array Value)[argBest (fun i j => PySem.W.dataLt ([x, y].getD i .none) ([x, y].getD j .none)) 1]? = some v := hP
      have e1 : argBest (fun i j => PySem.W.dataLt ([x, y].getD i .none) ([x, y].getD j .none)) 1 = if PySem.W.dataLt y x = true then 1 else 0 := rfl
      rw [e1] at hP
      by_cases c : PySem.W.dataLt y x = true
      · rw [if_pos c] at hP ⊢
        exact (Option.some.inj hP).symm
      · rw [if_neg c] at hP ⊢
        exact (Option.some.inj hP).symm
    rw [hv]
    exact h h' tk fun b o e => hk' b o (Heap.get?_push_of_some _ e)
end
section
variable {X : Cx} {cl : Cl} {vs0 : List V} {Wx : WX}
def rMin2D (K : PySem.W.Frag) : List V → Hp → VK → Prop := fun vs H Q => ∃ (x y : V) (d e : PyData), vs = [x, y] ∧ Dp K H x d ∧ Dp K H y e ∧ PySem.W.AlikeAll [d, e] ∧ d.depth ≤ 60 ∧ e.depth ≤ 60 ∧ Q (if PySem.W.dataLt e d = true then y else x) H
theorem cr_min2D (hc : X.calm = true) (hu : X.A.units + 64 < cLine) : CallR X (.builtin "min") (rMin2D X.K) := by
  intro pins s σ H vs us Q I r h
  obtain ⟨x, y, d, e, rfl, hd, he, al, dp, ep, q⟩ := h
  obtain ⟨u, v, rfl, ru, rv⟩ := vals2 r
  obtain ⟨as, r1⟩ := Dp.reads I d x u hd ru
  obtain ⟨bs, r2⟩ := Dp.reads I e y v he rv
  refine min_two_data (I.ok.hd hc) (.cons r1 (.cons r2 .nil)) al (by simp only [PyData.depthAll]; omega) fun h' tk hk => ?_
  refine ⟨if PySem.W.dataLt e d = true then y else x, H, I.kept hk, ?_, q⟩
  by_cases c : PySem.W.dataLt e d = true
  · rw [if_pos c, if_pos c]; exact rv
  · rw [if_neg c, if_neg c]; exact ru
def pMinY : List D → Rs SD
  | [.tup xs, .tup ys] => if okN 60 (.tup xs) = true ∧ okN 60 (.tup ys) = true ∧ PySem.W.alike (D.tup xs).py (D.tup xs).py = true ∧ PySem.W.alike (D.tup xs).py (D.tup ys).py = true ∧ PySem.W.alike (D.tup ys).py (D.tup xs).py = true ∧ PySem.W.alike (D.tup ys).py (D.tup ys).py = true
    then .ok (.sh (if PySem.W.dataLt (D.tup ys).py (D.tup xs).py = true then .tup ys else .tup xs)) else .bad
  | ds => pMinX ds
theorem call_minY (hc : X.calm = true) (hu : X.A.units + 64 < cLine) : CallR X (.builtin "min") (fun xs H Q => rMin2D X.K xs H Q ∨ (rMinT X.K xs H Q ∨ ((∃ i j, xs = [.int i, .int j] ∧ Q (.int (if j < i then j else i)) H) ∨ rMin X.K xs H Q))) := (cr_min2D hc hu).or (call_minX hc)
theorem pr_minY : PrimR X cl (fun xs H Q => rMin2D X.K xs H Q ∨ (rMinT X.K xs H Q ∨ ((∃ i j, xs = [.int i, .int j] ∧ Q (.int (if j < i then j else i)) H) ∨ rMin X.K xs H Q))) pMinY := by
  intro O W H ds vs Q w ho hp
  unfold pMinY at hp
  split at hp
  · rename_i xs ys
    split at hp
    · rename_i h
      obtain ⟨o1, o2, a1, a2, a3, a4⟩ := h
      obtain ⟨v, u, rfl, h1, h2⟩ := ho.two
      have c1 : ∃ t, v = V.ref t := by
        obtain ⟨a, us, e, _⟩ := h1.tup
        exact ⟨a, e⟩
      refine .inl ⟨v, u, (D.tup xs).py, (D.tup ys).py, rfl, h1.dp o1, h2.dp o2, ⟨fun x hx y hy => ?_, fun x hx => ?_⟩, (okN_lay o1).2, (okN_lay o2).2, hp _ H (Same.refl H) ?_⟩
      · rcases List.mem_cons.mp hx with rfl | hx
        · rcases List.mem_cons.mp hy with rfl | hy
          · exact a1
          · rw [List.mem_singleton.mp hy]; exact a2
        · rw [List.mem_singleton.mp hx]
          rcases List.mem_cons.mp hy with rfl | hy
          · exact a3
          · rw [List.mem_singleton.mp hy]; exact a4
      · rcases List.mem_cons.mp hx with rfl | hx
        · simp [D.py]
        · rw [List.mem_singleton.mp hx]; simp [D.py]
      · by_cases c : PySem.W.dataLt (D.tup ys).py (D.tup xs).py = true
        · rw [if_pos c, if_pos c]; exact h2.resolve_right (fun ⟨a, zs, e, _⟩ => by cases e)
        · rw [if_neg c, if_neg c]; exact h1.resolve_right (fun ⟨a, zs, e, _⟩ => by cases e)
    · exact hp.elim
  · exact .inr (pr_minX O W H _ vs Q w ho hp)
end
@[simp] theorem pMinY_one (d : D) : pMinY [d] = pMinX [d] := by cases d <;> rfl
@[simp] theorem pMinY_int (i : Int) (d : D) : pMinY [.int i, d] = pMinX [.int i, d] := by cases d <;> rfl
end Wm
end
section
namespace Wm
open PySem PySem.Spec PyProof.Rows L2
section
variable {X : Cx} {cl : Cl} {vs0 : List V} {Wx : WX} {k n : Nat} {f : Addr} {fd : FuncData} {ps ks : List Str} {x c : Str} {p pos : Pos} {kws : List Keyword} {fl : List LOp}
end
end Wm
end
section
namespace Wm
open PySem PySem.Spec PyProof.Rows L2
section
variable {X : Cx} {cl : Cl} {vs0 : List V} {Wx : WX}
end
end Wm
end
section
namespace Wm
open PySem PySem.Spec PySem.W PyProof.Rows L2
section
variable {prog : Program} {w : World} {A : Around} {E : Value → Shared → Prop} {s : Shared}
end
def starL (i : Nat) (ds : List D) : List D := ds.take i ++ [.lst (ds.drop i)]
def tupS (i : Nat) (is : List Nat) (ρ : List SD) : SD → Rs Fl
  | .sh (.tup ds) => if ds.length ≤ sizeLine ∧ i ≤ ds.length then (setAll is (starL i ds) ρ).bind fun ρ' => .ok (.nx ρ') else .bad
  | _ => .bad
def sTupS (i : Nat) (is : List Nat) (f : Sx) : Ss := fun ρ => (f ρ).bind fun p => tupS i is p.2 p.1
section
variable {X : Cx} {cl : Cl} {vs0 : List V} {Wx : WX} {pos : Pos} {e : Expr} {f : Sx}
end
@[simp] theorem sTupS_ap (i : Nat) (is : List Nat) (f : Sx) (ρ : List SD) : sTupS i is f ρ = (f ρ).bind fun p => tupS i is p.2 p.1 := (rfl)
@[simp] theorem tupS_sh (i : Nat) (is : List Nat) (ρ : List SD) (ds : List D) : tupS i is ρ (.sh (.tup ds)) = if ds.length ≤ sizeLine ∧ i ≤ ds.length then (setAll is (starL i ds) ρ).bind fun ρ' => .ok (.nx ρ') else .bad := (rfl)
end Wm
end
section
namespace Wm
open PySem PySem.Spec PyProof.Rows L2
section
variable {P : Program} {w : World} {A : Around} {E : Value → Shared → Prop} {s : Shared}
end
end Wm
end
section
namespace Wm
open PySem PySem.Spec PyProof.Rows L2
def rSetL (K : PySem.W.Frag) (w : World) : List V → Hp → VK → Prop := fun vs H Q => ∃ (a : Addr) (ns : List Int), vs = [V.ref a] ∧ SqL K H a (ns.map V.int) ∧ ns.length + 1 < scanBound ∧
  ∀ (p : Addr) (c : Nat), H p = none → c ≤ ns.length → Q (.ref p) (upd H p (SetO w p (fun j => decide (j ∈ ns)) c))
section
variable {X : Cx} {cl : Cl} {vs0 : List V} {Wx : WX}
end
end Wm
end
section
namespace Wm
open PySem PySem.Spec PyProof.Rows L2
section
variable {X : Cx} {cl : Cl} {vs0 : List V} {Wx : WX}
def cntD (b : Bool) (ρ : List SD) : SD → Rs (SD × List SD)
  | .sh (.lst xs) => match asBls xs with
    | some bs => .ok (.sh (.int (bs.count b : Nat)), ρ)
    | none => .bad
  | _ => .bad
def xCnt (b : Bool) (fx : Sx) : Sx := fun ρ => (fx ρ).bind fun p => cntD b p.2 p.1
end
@[simp] theorem xCnt_ap (b : Bool) (fx : Sx) (ρ : List SD) : xCnt b fx ρ = (fx ρ).bind fun p => cntD b p.2 p.1 := (rfl)
@[simp] theorem cntD_lst (b : Bool) (ρ : List SD) (xs : List D) : cntD b ρ (.sh (.lst xs)) = match asBls xs with | some bs => .ok (.sh (.int (bs.count b : Nat)), ρ) | none => .bad := (rfl)
end Wm
end
section
namespace Wm
open PySem PySem.Spec PyProof.Rows L2
def mulStr (x : Str) (k : Int) : Str := if (k == 1 || x.length == 0) = true then x else ⟨(List.replicate k.toNat x.cps).foldl (· ++ ·) #[]⟩
section
variable {X : Cx} {cl : Cl} {vs0 : List V} {Wx : WX}
def pMulS : List D → Rs SD
  | [.str a, .int k] => if 1 ≤ k ∧ k ≤ 100 ∧ a.length ≤ 100 ∧ (mulStr a k).length ≤ 10000 then .ok (.sh (.str (mulStr a k))) else .bad
  | _ => .bad
end
@[simp] theorem pMulS_ap (a : Str) (k : Int) : pMulS [.str a, .int k] = if 1 ≤ k ∧ k ≤ 100 ∧ a.length ≤ 100 ∧ (mulStr a k).length ≤ 10000 then .ok (.sh (.str (mulStr a k))) else .bad := (rfl)
end Wm
end
section
namespace Wm
open PySem PySem.Spec PyProof.Rows L2
section
variable {X : Cx} {cl : Cl} {vs0 : List V} {Wx : WX}
def insAt {α : Type} (xs : List α) (i : Nat) (d : α) : List α := xs.take i ++ [d] ++ xs.drop i
def insK (x : Nat) (f : Sx) (i : Int) : Sx := fun ρ => if 0 ≤ i ∧ i < 2 ^ 63 then (f ρ).bind fun p => (ownGet p.2 x).bind fun xs => if xs.length < sizeLine then .ok (.sh .non, ownSet p.2 x (insAt xs i.toNat p.1.frz)) else .bad else .bad
def insY (x : Nat) (f : Sx) (ρ : List SD) : Option SD → Rs (SD × List SD)
  | some (.sh (.int i)) => insK x f i ρ
  | _ => .bad
def xIns (x y : Nat) (f : Sx) : Sx := fun ρ => (ownGet ρ x).bind fun _ => insY x f ρ ρ[y]?
end
@[simp] theorem xIns_ap (x y : Nat) (f : Sx) (ρ : List SD) : xIns x y f ρ = (ownGet ρ x).bind fun _ => insY x f ρ ρ[y]? := (rfl)
@[simp] theorem insY_int (x : Nat) (f : Sx) (ρ : List SD) (i : Int) : insY x f ρ (some (.sh (.int i))) = insK x f i ρ := (rfl)
@[simp] theorem insK_ap (x : Nat) (f : Sx) (i : Int) (ρ : List SD) : insK x f i ρ = if 0 ≤ i ∧ i < 2 ^ 63 then (f ρ).bind fun p => (ownGet p.2 x).bind fun xs => if xs.length < sizeLine then .ok (.sh .non, ownSet p.2 x (insAt xs i.toNat p.1.frz)) else .bad else .bad := (rfl)
end Wm
end
section
namespace Wm
open PySem PySem.Spec PyProof.Rows L2
section
open PySem.W LamX
structure CodesAt (K : PySem.W.Frag) (h : Heap) (cs : List (Addr × Addr)) : Prop where
  tab : ∀ p ∈ cs, h.get? p.2 = some { cls := .none, data := .fields #[] }
  free : ∀ p ∈ cs, K.lookup p.2 = none
  head : ∀ p ∈ cs, PySem.W.CodeHd h p.1 p.2
theorem CodesAt.at_mem {K : PySem.W.Frag} {h : Heap} {cs : List (Addr × Addr)} (c : CodesAt K h cs) {b : Addr} (m : b ∈ cs.map (·.2)) : h.get? b = some { cls := .none, data := .fields #[] } ∧ K.lookup b = none := by
  obtain ⟨p, hp, rfl⟩ := List.mem_map.mp m
  exact ⟨c.tab p hp, c.free p hp⟩
end
end Wm
end
section
namespace Wm
open PySem PySem.Spec PyProof.Rows L2
section
variable {prog : Program} {w : World} {A : Around} {s : Shared} {E : Value → Shared → Prop}
theorem slam_call {f c c' t : Addr} {qual col row : Str} {prm : Arguments} {sc : Scope} {clo : List (Str × Addr)} {pmv tv : Value} {bp p2 p3 pa cp : Pos} {items : Array Value} {i v : Int} {tk1 tk2 : Tok} {j : Nat} {mg mb : Str → Option Value} {Q : Value → Shared → Prop}
    (hdep : A.depth < recursionLimit)
    (of : s.heap.get? f = some (PySem.W.kla_obj "<lambda>" qual prm (.Call (.Name "abs" pa) [.Subscript (.Name row p2) (.Name col p3) bp] [] cp) sc clo pmv c' tv))
    (cd : ∃ (oc : Obj) (fv : Array Value) (ft : Tok), s.heap.get? c' = some oc ∧ oc.data = .fields fv ∧ fv[1]? = some (.str qual ft))
    (hk : sc.kind = .function) (hco : sc.isCoroutine = false) (hgen : sc.isGenerator = false) (hnc : ∀ y ∈ sc.names, y.2 ≠ .cell) (h1 : sc.names.lookup row = some .local) (h2 : sc.names.lookup col = some .free) (h3 : sc.names.lookup ("abs" : Str) = some .globalImplicit)
    (hbd : ∀ x : Value, bindArgs (PySem.W.kla_fn "<lambda>" qual prm (.Call (.Name "abs" pa) [.Subscript (.Name row p2) (.Name col p3) bp] [] cp) sc clo pmv (.ref c') tv) ⟨[x], []⟩ = pure [(row, x)])
    (hc : clo.lookup col = some c) (hcell : s.heap.IsCell c (some (.int i tk1))) (ht : IsTup s.heap t items) (hlo : -(2 ^ 63) ≤ i) (hhi : i < 2 ^ 63) (hj : seqIndex? i items.size = some j) (hx : items[j]? = some (.int v tk2))
    (nl : s.heap.NoLimit) (hgl : s.heap.Ns mainGlobals mg) (hmiss : mg "abs" = none) (hbl : s.heap.Ns builtinsNs mb) (hbb : mb "abs" = some (.builtin "abs"))
    (hd1 : (col == ("__debug__" : Str)) = false) (hd2 : (col == ("__classdict__" : Str)) = false) (ho1 : (row == ("__debug__" : Str)) = false)
    (h : ∀ h' tk u, (∀ b o, s.heap.get? b = some o → h'.get? b = some o) → Q (.int (if v < 0 then -v else v) u) { s with heap := h', toks := tk }) : wpAny (model prog w) A (call (.ref f) [.ref t]) Q E s := by
  have go : codeAny (model prog w) A (.call (.ref f) ⟨[.ref t], []⟩) (fun r s' => match r with
    | .ok (.ret u) => Q u s'
    | _ => False) s := by
    obtain ⟨oc, fv, ft, g1, g2, g3⟩ := cd
    refine PySem.W.kla_callFunE hdep of rfl hco hgen rfl ⟨c', oc, fv, ft, rfl, g1, g2, g3⟩ ?_
    rw [hbd]
    refine wpAny_pure (wpAny_newFunctionEnv (fun y hy => hnc y hy) (fun y hy => ?_) (fun hh ns sb => ⟨nl.fresh _ sb, ?_⟩) hk)
    · rw [List.mem_singleton.mp hy]; exact h1
    have old : ∀ b o, s.heap.get? b = some o → hh.get? b = some o := fun b o e => sb.extBut b o (Nat.ne_of_lt (Heap.lt_size e)) (Heap.get?_push_of_some _ e)
    have tup2 : IsTup hh t items := let ⟨o, e1, r⟩ := ht; ⟨o, old _ _ e1, r⟩
    refine PySem.W.kla_codeExpr (wpAny_Call_Name_kw ?_)
    refine Calls.Name_function_global hk h3 (Calls.loadGlobal_builtin (hgl.keeps old) hmiss (hbl.keeps old) hbb ?_) (by decide)
    refine callWith_builtin1 (Calls.spliced_cons (wpAny_Subscript_Name_late ?_)) rfl rfl
    refine wpAny_Name (wpAny_loadName_local hk h1 ns (v := .ref t) (by simp) ?_) ho1
    refine wpAny_Name (wpAny_loadName_free hk h2 hc (hcell.keeps old) ?_ hd2) hd1
    refine ⟨"tuple", _, slot_tuple_getitem.lookup, tup2.typeIs, getItem_tuple tup2 hlo hhi hj hx (Calls.spliced_nil ?_)⟩
    exact call_abs_int fun u tk => h _ _ u old
  refine wpAny_call (codeAny_mono go fun r s' hr => ?_)
  cases r with
  | error e => exact hr.elim
  | ok fl =>
    cases fl with
    | ret u => exact hr
    | next => exact hr.elim
    | brk => exact hr.elim
    | cont => exact hr.elim
end
def putK {α : Type} (p : Int × α) : List (Int × α) → List (Int × α)
  | [] => [p]
  | q :: r => if p.1 ≤ q.1 then p :: q :: r else q :: putK p r
def stab {α : Type} : List (Int × α) → List (Int × α)
  | [] => []
  | p :: r => putK p (stab r)
section
variable {α β : Type}
theorem putK_perm (p : Int × α) : ∀ l : List (Int × α), (putK p l).Perm (p :: l)
  | [] => List.Perm.refl _
  | q :: r => by
    unfold putK
    split
    · exact List.Perm.refl _
    · exact ((putK_perm p r).cons q).trans (List.Perm.swap p q r)
theorem stab_perm : ∀ l : List (Int × α), (stab l).Perm l
  | [] => List.Perm.refl _
  | p :: r => (putK_perm p (stab r)).trans ((stab_perm r).cons p)
theorem putK_sorted (p : Int × α) : ∀ l : List (Int × α), l.Pairwise (fun x y => x.1 ≤ y.1) → (putK p l).Pairwise fun x y => x.1 ≤ y.1
  | [], _ => List.pairwise_singleton _ _
  | q :: r, h => by
    have hq := List.pairwise_cons.mp h
    unfold putK
    split
    · rename_i c
      refine List.pairwise_cons.mpr ⟨fun y hy => ?_, h⟩
      rcases List.mem_cons.mp hy with rfl | hy
      · exact c
      · exact Int.le_trans c (hq.1 y hy)
    · rename_i c
      refine List.pairwise_cons.mpr ⟨fun y hy => ?_, putK_sorted p r hq.2⟩
      rcases List.mem_cons.mp ((putK_perm p r).mem_iff.mp hy) with rfl | hy
      · omega
      · exact hq.1 y hy
theorem stab_sorted : ∀ l : List (Int × α), (stab l).Pairwise fun x y => x.1 ≤ y.1
  | [] => List.Pairwise.nil
  | p :: r => putK_sorted p _ (stab_sorted r)
theorem putK_filter (c : Int) (p : Int × α) : ∀ l : List (Int × α), l.Pairwise (fun x y => x.1 ≤ y.1) → (putK p l).filter (fun x => x.1 == c) = (p :: l).filter fun x => x.1 == c
  | [], _ => rfl
  | q :: r, h => by
    have hq := List.pairwise_cons.mp h
    unfold putK
    split
    · rfl
    · rename_i hc
      rw [List.filter_cons, putK_filter c p r hq.2, List.filter_cons, List.filter_cons, List.filter_cons]
      by_cases e : p.1 = c
      · have e2 : (q.1 == c) = false := by simpa using (show ¬ q.1 = c by omega)
        simp [e, e2]
      · have e2 : (p.1 == c) = false := by simpa using e
        simp [e2]
theorem stab_filter (c : Int) : ∀ l : List (Int × α), (stab l).filter (fun x => x.1 == c) = l.filter fun x => x.1 == c
  | [] => rfl
  | p :: r => by
    show (putK p (stab r)).filter _ = _
    rw [putK_filter c p _ (stab_sorted r), List.filter_cons, stab_filter c r, List.filter_cons]
theorem stab_map (f : α → β) : ∀ l : List (Int × α), stab (l.map fun p => (p.1, f p.2)) = (stab l).map fun p => (p.1, f p.2)
  | [] => rfl
  | p :: r => by
    have put : ∀ l : List (Int × α), putK (p.1, f p.2) (l.map fun p => (p.1, f p.2)) = (putK p l).map fun p => (p.1, f p.2) := fun l => by
      induction l with
      | nil => rfl
      | cons q l ih =>
        show (if p.1 ≤ q.1 then _ else _) = List.map _ (if p.1 ≤ q.1 then _ else _)
        split
        · rfl
        · rw [ih]; rfl
    show putK (p.1, f p.2) (stab (r.map fun p => (p.1, f p.2))) = (putK p (stab r)).map _
    rw [stab_map f r, put]
theorem same_stab : ∀ {p q : List (Int × α)}, p.Pairwise (fun x y => x.1 ≤ y.1) → q.Pairwise (fun x y => x.1 ≤ y.1) → (∀ c, p.filter (fun x => x.1 == c) = q.filter fun x => x.1 == c) → p = q
  | [], [], _, _, _ => rfl
  | [], b :: q, _, _, h => by
    have := h b.1
    rw [List.filter_cons] at this
    simp at this
  | a :: p, [], _, _, h => by
    have := h a.1
    rw [List.filter_cons] at this
    simp at this
  | a :: p, b :: q, hp, hq, h => by
    have hp' := List.pairwise_cons.mp hp
    have hq' := List.pairwise_cons.mp hq
    have ma : a ∈ b :: q := by
      have : a ∈ (a :: p).filter fun x => x.1 == a.1 := by simp
      rw [h] at this
      exact (List.mem_filter.mp this).1
    have mb : b ∈ a :: p := by
      have : b ∈ (b :: q).filter fun x => x.1 == b.1 := by simp
      rw [← h] at this
      exact (List.mem_filter.mp this).1
    have l1 : b.1 ≤ a.1 := by
      rcases List.mem_cons.mp ma with e | m
      · rw [e]; exact Int.le_refl _
      · exact hq'.1 a m
    have l2 : a.1 ≤ b.1 := by
      rcases List.mem_cons.mp mb with e | m
      · rw [e]; exact Int.le_refl _
      · exact hp'.1 b m
    have e1 : a.1 = b.1 := Int.le_antisymm l2 l1
    have h0 := h a.1
    rw [List.filter_cons, List.filter_cons, if_pos (by simp), if_pos (by simp [e1])] at h0
    have e : a = b := (List.cons.inj h0).1
    subst e
    have t := same_stab hp'.2 hq'.2 fun c => by
      have hc := h c
      rw [List.filter_cons, List.filter_cons] at hc
      split at hc
      · exact (List.cons.inj hc).2
      · exact hc
    rw [t]
end
end Wm
end
section
namespace Wm
open PySem PySem.Spec PyProof.Rows L2
def keyD (c : Int) : D → Option Int
  | .tup xs => match atI xs c with
    | some (.int v) => some (if v < 0 then -v else v)
    | _ => none
  | _ => none
def keysD (c : Int) : List D → Option (List Int)
  | [] => some []
  | d :: ds => match keyD c d, keysD c ds with
    | some k, some ks => some (k :: ks)
    | _, _ => none
theorem keysD_len {c : Int} : ∀ {ds : List D} {ks : List Int}, keysD c ds = some ks → ks.length = ds.length
  | [], ks, h => by cases h; rfl
  | d :: ds, ks, h => by
    unfold keysD at h
    split at h
    · rename_i k ks' e1 e2
      cases h
      rw [List.length_cons, List.length_cons, keysD_len e2]
    · cases h
theorem keysD_at {c : Int} : ∀ {ds : List D} {ks : List Int} {i : Nat} {d : D} {k : Int}, keysD c ds = some ks → ds[i]? = some d → ks[i]? = some k → keyD c d = some k
  | [], ks, i, d, k, h, e1, _ => by simp at e1
  | d0 :: ds, ks, i, d, k, h, e1, e2 => by
    unfold keysD at h
    split at h
    · rename_i k0 ks' q1 q2
      cases h
      cases i with
      | zero =>
        cases e1
        cases e2
        exact q1
      | succ i => exact keysD_at (i := i) q2 (by simpa using e1) (by simpa using e2)
    · cases h
theorem keyD_some {c : Int} {d : D} {k : Int} (h : keyD c d = some k) : ∃ xs v, d = .tup xs ∧ atI xs c = some (.int v) ∧ k = if v < 0 then -v else v := by
  unfold keyD at h
  split at h
  · rename_i xs
    split at h
    · rename_i v e
      cases h
      exact ⟨xs, v, rfl, e, rfl⟩
    · cases h
  · cases h
theorem tripled {G : Gx} {O : List Addr} {H : Hp} : ∀ {kz : List Int} {ds : List D} {us : List V} {vs : List Value}, kz.length = ds.length → RpA G O H ds us → Vals us vs → ∃ L : List (Int × (D × V × Value)), L.map (·.1) = kz ∧ L.map (·.2.1) = ds ∧ L.map (·.2.2.1) = us ∧ L.map (·.2.2.2) = vs ∧ ∀ e ∈ L, Rp G O H e.2.1 e.2.2.1 ∧ RelV e.2.2.1 e.2.2.2
  | [], [], us, vs, _, h, q => by
    simp only [RpA] at h
    subst h
    cases q
    exact ⟨[], rfl, rfl, rfl, rfl, fun e h => by cases h⟩
  | k :: kz, d :: ds, us, vs, hl, h, q => by
    simp only [RpA] at h
    obtain ⟨u, us', rfl, h1, h2⟩ := h
    cases q with
    | cons r t =>
      obtain ⟨L, e1, e2, e3, e4, e5⟩ := tripled (kz := kz) (by simpa using hl) h2 t
      refine ⟨(k, (d, u, _)) :: L, by rw [List.map_cons, e1], by rw [List.map_cons, e2], by rw [List.map_cons, e3], by rw [List.map_cons, e4], fun e he => ?_⟩
      rcases List.mem_cons.mp he with rfl | he
      · exact ⟨h1, r⟩
      · exact e5 e he
theorem untripled {G : Gx} {O : List Addr} {H : Hp} : ∀ {L : List (Int × (D × V × Value))}, (∀ e ∈ L, Rp G O H e.2.1 e.2.2.1 ∧ RelV e.2.2.1 e.2.2.2) → RpA G O H (L.map (·.2.1)) (L.map (·.2.2.1)) ∧ Vals (L.map (·.2.2.1)) (L.map (·.2.2.2))
  | [], _ => ⟨by simp only [List.map_nil, RpA], .nil⟩
  | e :: L, h => by
    obtain ⟨a, b⟩ := untripled (L := L) fun x hx => h x (List.mem_cons_of_mem _ hx)
    obtain ⟨c, d⟩ := h e (by simp)
    exact ⟨by simp only [List.map_cons, RpA]; exact ⟨_, _, rfl, c, a⟩, .cons d b⟩
theorem zip_of {α β : Type} : ∀ L : List (Int × α), ∀ f : α → β, (L.map (·.1)).zip (L.map fun p => f p.2) = L.map fun p => (p.1, f p.2)
  | [], _ => rfl
  | p :: L, f => by
    rw [List.map_cons, List.map_cons, List.zip_cons_cons, zip_of L f]
    rfl
def sortK (xs : List D) (ρ : List SD) : Option SD → Rs (SD × List SD)
  | some (.sh (.int c)) => match keysD c xs with
    | some ks => if xs.length ≤ sizeLine ∧ -(2 ^ 63) ≤ c ∧ c < 2 ^ 63 then .ok (.own ((stab (ks.zip xs)).map (·.2)), ρ) else .bad
    | none => .bad
  | _ => .bad
def xSortKey (i j : Nat) : Sx := fun ρ => (ownGet ρ i).bind fun xs => sortK xs ρ ρ[j]?
@[simp] theorem xSortKey_ap (i j : Nat) (ρ : List SD) : xSortKey i j ρ = (ownGet ρ i).bind fun xs => sortK xs ρ ρ[j]? := (rfl)
structure LamS2 (sc scope : Scope) (row col : Str) : Prop where
  s1 : LamS1 sc scope row col
  abs : scope.names.lookup ("abs" : Str) = some .globalImplicit
def lamS2B (sc scope : Scope) (row col : Str) : Bool := lamS1B sc scope row col && decide (scope.names.lookup ("abs" : Str) = some .globalImplicit)
theorem lamS2_by {sc scope : Scope} {row col : Str} (h : lamS2B sc scope row col = true) : LamS2 sc scope row col := by
  unfold lamS2B at h
  simp only [Bool.and_eq_true, decide_eq_true_eq] at h
  exact ⟨lamS1_by h.1, h.2⟩
section
variable {X : Cx} {cl : Cl} {vs0 : List V} {Wx : WX}
theorem obj_there {P : Program} {w : World} {H : Hp} {h : Heap} {a : Addr} {o : HO} (x : ObjOk P w H h a o) : ∃ u, h.get? a = some u := by
  cases o with
  | lst xs => obtain ⟨_, _, _, _, e⟩ := x; exact ⟨_, e⟩
  | tup xs => obtain ⟨_, _, _, o, e, _⟩ := x; exact ⟨_, e⟩
  | dK kvs => obtain ⟨_, _, _, _, o, _, _, e, _⟩ := x; exact ⟨_, e⟩
  | dT kvs => obtain ⟨_, _, _, _, o, _, _, e, _⟩ := x; exact ⟨_, e⟩
  | set S n => obtain ⟨o, _, _, _, e, _⟩ := x; exact ⟨_, e⟩
  | ins C dx fs => obtain ⟨_, _, _, e, _⟩ := x; exact ⟨_, e⟩
  | own y => obtain ⟨_, e⟩ := x; exact ⟨_, e⟩
  | xd fs => obtain ⟨_, ⟨_, _, _, e, _⟩, _⟩ := x; exact ⟨_, e⟩
  | rng lo hi => obtain ⟨_, _, _, e⟩ := x; exact ⟨_, e⟩
  | frz ob u => obtain ⟨e, _⟩ := x; exact ⟨_, e⟩
  | tbl ps => exact ⟨_, x⟩
  | met f y => exact ⟨_, x⟩
  | ext φ => obtain ⟨_, ⟨_, e⟩, _⟩ := x; exact ⟨_, e⟩
theorem inv_list {pins : List (Addr × Obj)} {σ : L2.St} {H : Hp} {s : Shared} {a : Addr} {us : List V} {h' : Heap} {t' : Nat} (I : Inv X pins σ H s) (na : s.heap.get? a = none)
    (k : ∀ b o, b ≠ X.env.locals → s.heap.get? b = some o → h'.get? b = some o) (ns : ∀ m, s.heap.Ns X.env.locals m → h'.Ns X.env.locals m) (new : ObjOk X.prog X.w (upd H a (.lst us)) h' a (.lst us)) :
    Inv X pins σ (upd H a (.lst us)) { s with heap := h', toks := t' } := by
  have nb : ∀ b o, s.heap.get? b = some o → b ≠ a := fun b o e z => by rw [z, na] at e; cases e
  have tr : ∀ b o, H b = some o → ∃ u, s.heap.get? b = some u := fun b o e => by
    exact obj_there (I.hok b o e)
  have hb : ∀ b o, H b = some o → b ≠ a ∧ b ≠ X.env.locals := fun b o e => by
    obtain ⟨u, q⟩ := tr b o e
    exact ⟨nb b u q, fun z => by rw [z, I.free] at e; cases e⟩
  refine I.step (g' := s.gens) (d' := s.drawn) (ch := []) (fun _ z => nomatch z) (fun b o h1 _ _ q _ => k b o h1 q) (fun b o h1 _ _ q _ => ⟨o.slots, k b o h1 q⟩) (fun b o _ q z => by rw [upd_ne (nb b o q)]; exact z) (fun b o _ q => ?_)
    (fun b xs q => by rw [upd_ne (hb b _ q).1]; exact q) (fun b o u q => by rw [upd_ne (hb b _ q).1]; exact q) (fun b ps q => ⟨#[], by rw [upd_ne (hb b _ q).1]; simpa using q⟩) ns (fun b u q => ?_) I.bare
  · by_cases h1 : b = X.env.locals
    · obtain ⟨m, hn, _⟩ := I.loc
      obtain ⟨o', _, _, e', _⟩ := ns m hn
      exact ⟨o', by rw [h1]; exact e'⟩
    · exact ⟨o, k b o h1 q⟩
  · by_cases h1 : b = a
    · subst h1
      rw [upd_same] at q
      cases q
      exact new
    · rw [upd_ne h1] at q
      refine (I.hok b u q).stay (fun c v hc z => ?_) (fun c z => ?_) fun c xs z => ?_
      · refine k c v (fun w => ?_) z
        rcases hc with rfl | hc
        · exact (hb _ _ q).2 w
        · exact (hb _ _ hc).2 w
      · rw [upd_ne (hb c _ z).1]; exact z
      · rw [upd_ne (hb c _ z).1]; exact z
end
end Wm
end
section
namespace Wm
open PySem PySem.Spec PyProof.Rows L2
section
variable {X : Cx} {cl : Cl} {vs0 : List V} {Wx : WX}
theorem sort_run {pins : List (Addr × Obj)} {σ : L2.St} {H : Hp} {s : Shared} {O W : List Addr} {ρ : List SD} {j k : Nat} {xs : List D} {us : List V} {ks : List Int} {ci : Int} {col row : Str} {f c' a : Addr} {prm : Arguments} {sc : Scope} {pmv tv : Value} {bp p2 p3 pa cp : Pos} {Q : VK}
    (I : Inv X pins σ H s) (sr : SR (gx X cl) vs0 O W σ H ρ) (hH : H a = some (.lst us)) (hR : RpA (gx X cl) O H xs us) (hk : keysD ci xs = some ks) (hz : xs.length ≤ sizeLine) (lo : -(2 ^ 63) ≤ ci) (hi : ci < 2 ^ 63)
    (ec : σ[j]? = some (some (.int ci))) (hj : X.N[j]? = some col) (hv : Vis X.env.scope col) (ls : LamS2 X.env.scope sc row col) (room : Room (k + 3) X.A) (habs : X.mg "abs" = none)
    (of : s.heap.get? f = some (PySem.W.kla_obj "<lambda>" (X.env.qual ++ "<lambda>") prm (.Call (.Name "abs" pa) [.Subscript (.Name row p2) (.Name col p3) bp] [] cp) sc (cloFrom X.env.cells sc.names []) pmv c' tv))
    (hco : H c' = some (LamX.CodeO c' (X.env.qual ++ "<lambda>")))
    (hbd : ∀ v : Value, bindArgs (PySem.W.kla_fn "<lambda>" (X.env.qual ++ "<lambda>") prm (.Call (.Name "abs" pa) [.Subscript (.Name row p2) (.Name col p3) bp] [] cp) sc (cloFrom X.env.cells sc.names []) pmv (.ref c') tv) ⟨[v], []⟩ = pure [(row, v)])
    (hd1 : (col == ("__debug__" : Str)) = false) (hd2 : (col == ("__classdict__" : Str)) = false) (ho1 : (row == ("__debug__" : Str)) = false)
    (hq : ∀ (p : Addr) (us' : List V), H p = none → us'.length ≤ sizeLine → RpA (gx X cl) O H ((stab (ks.zip xs)).map (·.2)) us' → Q (.ref p) (upd H p (.lst us'))) :
    wpAny (model X.prog X.w) X.A (call (.builtin "sorted") [.ref a] [(Str.ofString "key", .ref f)]) (EP X pins σ Q) X.xe s := by
  obtain ⟨its, r, pl, _⟩ := I.list (SqL.of hH)
  have hkl := keysD_len hk
  have hul := hR.length
  have hil := r.length
  have hkz : ks.length = its.length := by omega
  -- the captured cell
  have hfree : ∀ y ∈ sc.names, y.2 = .free → ∃ c, X.env.cells.lookup y.1 = some c := fun y hy e => by
    rcases ls.s1.free y hy e with k | k
    · exact I.ok.has _ (.inl k)
    · exact I.ok.has _ (.inr k)
  obtain ⟨c, tk1, hc, hcell, hcL⟩ : ∃ c tk1, (cloFrom X.env.cells sc.names []).lookup col = some c ∧ s.heap.IsCell c (some (.int ci tk1)) ∧ c ≠ X.env.locals := by
    have hy : (col, NameKind.free) ∈ sc.names := PySem.mem_of_lookup ls.s1.h2
    obtain ⟨c2, h2⟩ := mem_lookup (cloFrom_has (cells := X.env.cells) (acc := []) hy)
    have cm : X.env.cells.lookup col = some c2 := by
      rcases cloFrom_mem (PySem.mem_of_lookup h2) with hm | ⟨h1, h2⟩
      · cases hm
      · obtain ⟨c1, hc⟩ := hfree _ h1 rfl
        have hc : X.env.cells.lookup col = some c1 := hc
        have e2 : c2 = c1 := by
          rw [h2, hc] <;> rfl
        rw [e2]
        exact hc
    obtain ⟨m, hn, hl⟩ := I.loc
    obtain ⟨w', rw', q⟩ := hl j col (.int ci) hj ec hv
    obtain ⟨t, rfl⟩ : ∃ t, w' = Value.int ci t := rw'
    rcases q with ⟨k', _⟩ | ⟨_, c3, e', z⟩
    · have k' : X.env.scope.names.lookup col = some .local := k'
      rcases ls.s1.free _ hy rfl with k2 | k2 <;> rw [show X.env.scope.names.lookup col = _ from k2] at k' <;> cases k'
    · rw [cm] at e'
      cases e'
      exact ⟨c2, t, h2, z, I.cne _ _ cm⟩
  obtain ⟨⟨oc, fv, ft, g1, g2, g3⟩, _⟩ := I.hok c' _ hco
  obtain ⟨m, F⟩ := I.fr
  obtain ⟨oL, esL, epL, eL, dL, _⟩ := F.ns
  have noL : ∀ {b : Addr} {o : Obj}, s.heap.get? b = some o → (∀ es n, o.data ≠ .dict es n) → b ≠ X.env.locals := fun {b o} e nd z => by
    rw [z, eL] at e
    cases e
    exact nd _ _ dL
  -- all else than the frame's own object stays
  have stay : ∀ {h : Heap} {own : List (Addr × Obj)} {m' : Str → Option Value}, Fr X.base X.env.locals h m' → News X.base X.env.locals h (allNews X.base s.heap X.env.locals ++ own) → ∀ b o, b ≠ X.env.locals → s.heap.get? b = some o → h.get? b = some o := fun {h own m'} F' N' b o hb e => by
    cases q : X.base.get? b with
    | some u =>
      have := I.bk b u q
      rw [e] at this
      cases this
      exact F'.keep b _ q
    | none => exact (N' (b, o) (List.mem_append_left _ (mem_allNews hb q e))).1
  obtain ⟨mb, hb1, hb2⟩ := I.mod.blt
  refine ksk_sortedSt (kz := ks) (vs := its) (b := false) (news := allNews X.base s.heap X.env.locals) F news_all pl.isList hkz (by omega) (ksk_s1 _ _) (fun x => ksk_l1 _ _) (fun x => ksk_t1 _ _) (fun i v key e1 e2 h tk own F' N' => ?_) fun Da h' tk out cc F' N' hlt hout => ?_
  · -- one call of the lambda
    have st := stay F' N'
    have iu : i < us.length := by
      have := (List.getElem?_eq_some_iff.mp e1).1
      omega
    obtain ⟨u, e3⟩ : ∃ u, us[i]? = some u := ⟨_, List.getElem?_eq_getElem iu⟩
    obtain ⟨d, e4, rp⟩ := hR.getV e3
    obtain ⟨v', e5, rv⟩ := r.get e3
    rw [e1] at e5
    cases e5
    obtain ⟨ys, w, rfl, ea, rfl⟩ := keyD_some (keysD_at hk e4 e2)
    simp only [Rp] at rp
    obtain ⟨t, vs, rfl, to, ra⟩ := rp
    obtain rfl : v = Value.ref t := rv
    obtain ⟨its2, r2, pl2, _⟩ := I.tuple to.sq
    obtain ⟨x, ex, rx⟩ := atI_rp ra ea
    simp only [Rp] at rx
    subst rx
    obtain ⟨jj, q1, q2, q3, _, _⟩ := atI_get ex
    obtain ⟨y, ey, ry⟩ := r2.get q2
    obtain ⟨tk2, rfl⟩ : ∃ t, y = Value.int w t := ry
    have hl2 := r2.length
    have ht : IsTup h t its2.toArray := by
      obtain ⟨o, o1, o2, n, o3⟩ := pl2
      exact ⟨o, st t o (noL o1 (fun es n z => by rw [o3] at z; cases z)) o1, o2, n, o3⟩
    have hcell' : h.IsCell c (some (.int ci tk1)) := by
      obtain ⟨o, o1, o2⟩ := hcell
      exact ⟨o, st c o hcL o1, o2⟩
    refine slam_call (A := X.A.in1.in1) (c := c) (t := t) (items := its2.toArray) (i := ci) (v := w) (j := jj) (tk1 := tk1) (tk2 := tk2) (mg := X.mg) (mb := mb) room.depth (st f _ (noL of (fun es n z => by cases z)) of) ⟨oc, fv, ft, st c' _ (noL g1 (fun es n z => by rw [g2] at z; cases z)) g1, g2, g3⟩ ls.s1.kind ls.s1.co ls.s1.gen ls.s1.nocell ls.s1.h1 ls.s1.h2 ls.abs hbd hc hcell' ht lo hi (by rw [List.size_toArray, ← hl2]; exact q1) (by simpa using ey)
      (I.mod.nolimit.keeps F'.keep) (I.mod.glob.keeps F'.keep) habs (hb1.keeps F'.keep) (hb2 "abs" (by decide)) hd1 hd2 ho1 fun h'' tk' u old => ?_
    exact KskEnd.intro ⟨F'.ns.keeps old, fun b o e => old b o (F'.keep b o e), F'.above⟩ (fun q hq => let ⟨z1, z2, z3⟩ := N' q hq; ⟨old _ _ z1, z2, z3⟩) (fun q hq => hq)
  · -- the sorted list
    have N2 : News X.base X.env.locals h' (allNews X.base s.heap X.env.locals ++ []) := fun q hq => N' q (List.mem_cons_of_mem _ (by simpa using hq))
    have st := stay F' N2
    obtain ⟨eD, nDL, nDb⟩ := N' (Da, seqObj "list" out cc) List.mem_cons_self
    have nD : s.heap.get? Da = none := by
      cases q : s.heap.get? Da with
      | none => rfl
      | some o => exact absurd (hlt (Da, o) (mem_allNews nDL nDb q)) (Nat.lt_irrefl _)
    have hD : H Da = none := by
      cases q : H Da with
      | none => rfl
      | some o =>
        obtain ⟨u, z⟩ := obj_there (I.hok Da o q)
        rw [nD] at z
        cases z
    -- which list it is
    obtain ⟨L, l1, l2, l3, l4, l5⟩ := tripled (kz := ks) (ds := xs) (by omega) hR r
    obtain ⟨ps, pp, eo, psrt, pst⟩ := hout
    have zz : ks.zip its = L.map fun p => (p.1, p.2.2.2) := by
      rw [← l1, ← l4]
      exact zip_of L fun p => p.2.2
    have e6 : ps = stab (ks.zip its) := same_stab (by simpa using psrt) (stab_sorted _) fun z => by rw [pst z, stab_filter]
    have e7 : out.toList = (stab L).map (·.2.2.2) := by
      rw [eo, e6, zz, stab_map (fun p : D × V × Value => p.2.2), List.map_map]
      rfl
    have e8 : (stab (ks.zip xs)).map (·.2) = (stab L).map (·.2.1) := by
      have z2 : ks.zip xs = L.map fun p => (p.1, p.2.1) := by
        rw [← l1, ← l2]
        exact zip_of L fun p => p.1
      rw [z2, stab_map (fun p : D × V × Value => p.1), List.map_map]
      rfl
    obtain ⟨u1, u2⟩ := untripled (L := stab L) (G := gx X cl) (O := O) (H := H) fun e he => l5 e ((stab_perm L).mem_iff.mp he)
    have lenL : ((stab L).map (·.2.2.1)).length ≤ sizeLine := by
      rw [List.length_map, (stab_perm L).length_eq]
      have : (L.map (·.2.1)).length = xs.length := by rw [l2]
      rw [List.length_map] at this
      omega
    rw [← e7] at u2
    refine ⟨.ref Da, upd H Da (.lst ((stab L).map (·.2.2.1))), inv_list I nD st (fun m' hm => ?_) ⟨lenL, out.toList, cc, u2, ?_⟩, rfl, hq Da _ hD lenL (by rw [e8]; exact u1)⟩
    · rw [SlX.ns_only hm F.ns]
      exact F'.ns
    · rw [eD]
end
end Wm
end
section
namespace Wm
open PySem PySem.Spec PyProof.Rows L2
section
variable {X : Cx} {cl : Cl} {vs0 : List V} {Wx : WX}
theorem ej_sortKey {i j k : Nat} {xn col row : Str} {c P : Addr} {prm : Arguments} {sc : Scope} {p p1 p2 p3 pa cp bp lpos kpos pos : Pos}
    (hi : X.N[i]? = some xn) (hvi : Vis X.env.scope xn) (hj : X.N[j]? = some col) (hvj : Vis X.env.scope col) (hg : Gl X "sorted") (hm : X.mg "sorted" = none) (habs : X.mg "abs" = none)
    (TB : LamX.TabB X.base X.mg c P) (hcode : X.env.code = .ref c) (hmT : (P, X.env.qual ++ "<lambda>") ∈ cl.tabs.tabs) (hu : ∀ p ∈ cl.tabs.tabs, p.1 = P → p.2 = X.env.qual ++ "<lambda>")
    (room : Room (k + 3) X.A) (ls : LamS2 X.env.scope sc row col) (hdef : defaultsOf prm X.env = ([], []))
    (hbd : ∀ (q : Str) (cs : List (Str × Addr)) (pm cv ctv v : Value), bindArgs (PySem.W.kla_fn "<lambda>" q prm (.Call (.Name "abs" pa) [.Subscript (.Name row p2) (.Name col p3) bp] [] cp) sc cs pm cv ctv) ⟨[v], []⟩ = pure [(row, v)])
    (hx1 : (xn == ("__debug__" : Str)) = false := by decide) (hx2 : (xn == ("__classdict__" : Str)) = false := by decide)
    (hd1 : (col == ("__debug__" : Str)) = false := by decide) (hd2 : (col == ("__classdict__" : Str)) = false := by decide) (ho1 : (row == ("__debug__" : Str)) = false := by decide)
    (he : backTo pos (starEach [Expr.Name xn p1] X.env) = (false, eval (.Name xn p1) X.env) :: backTo pos (starEach [] X.env) := by rfl) (hpl : (backTo pos (starEach [Expr.Name xn p1] X.env)).any (·.1) = false := by rfl)
    (hall : (backToKw pos (keywordEach [⟨some "key", .Lambda prm (.Call (.Name "abs" pa) [.Subscript (.Name row p2) (.Name col p3) bp] [] cp) sc lpos, kpos⟩] X.env)).all (·.1.isSome) = true := by rfl)
    (hnone : (backToKw pos (keywordEach [⟨some "key", .Lambda prm (.Call (.Name "abs" pa) [.Subscript (.Name row p2) (.Name col p3) bp] [] cp) sc lpos, kpos⟩] X.env)).any (·.1.isNone) = false := by rfl)
    (hks : (backToKw pos (keywordEach [⟨some "key", .Lambda prm (.Call (.Name "abs" pa) [.Subscript (.Name row p2) (.Name col p3) bp] [] cp) sc lpos, kpos⟩] X.env)).filterMap (·.1) = [Str.ofString "key"] := by rfl) :
    EJ X cl vs0 Wx (.Call (.Name "sorted" p) [.Name xn p1] [⟨some "key", .Lambda prm (.Call (.Name "abs" pa) [.Subscript (.Name row p2) (.Name col p3) bp] [] cp) sc lpos, kpos⟩] pos) (xSortKey i j) := by
  refine ⟨⟨fun σ H Q => ∃ O W ρ, SR (gx X cl) vs0 O W σ H ρ ∧ AftE (gx X cl) vs0 Wx O W σ H Q (xSortKey i j ρ), ⟨fun pins s σ H Q I hw => ?_⟩, fun O W σ H ρ Q sr hw => ⟨O, W, ρ, sr, hw⟩⟩⟩
  obtain ⟨O, W, ρ, sr, hw⟩ := hw
  unfold xSortKey at hw
  cases ek : ownGet ρ i with
  | bad => rw [ek] at hw; exact hw.elim
  | exc c fs ρ' => exact absurd ek ownGet_noexc
  | ok xs =>
    rw [ek] at hw
    have hw : AftE (gx X cl) vs0 Wx O W σ H Q (sortK xs ρ ρ[j]?) := hw
    cases ej : ρ[j]? with
    | none => rw [ej] at hw; exact hw.elim
    | some sj =>
      rw [ej] at hw
      cases sj with
      | sh dj =>
        cases dj with
        | int ci =>
          unfold sortK at hw
          dsimp only at hw
          cases hk : keysD ci xs with
          | none => rw [hk] at hw; exact hw.elim
          | some ks =>
            rw [hk] at hw
            dsimp only at hw
            split at hw
            · rename_i hz
              obtain ⟨a, ea, oa⟩ := ownGet_at sr ek
              obtain ⟨vj, ev, ry⟩ := sr.get ej
              simp only [Rp] at ry
              subst ry
              have hfree : ∀ y ∈ sc.names, y.2 = .free → ∃ c, X.env.cells.lookup y.1 = some c := fun y hy e => by
                rcases ls.s1.free y hy e with k | k
                · exact I.ok.has _ (.inl k)
                · exact I.ok.has _ (.inr k)
              refine wpAny_Call_Name_kw (ld_blt (u := .builtin "sorted") I hg hm (by decide +kernel) ?_ (by decide) (by decide))
              refine PyProof.Rows.callWith_kw (thn ((pa_cons (pe_var (pos := p1) (i := i) hi hvi hx1 hx2) pa_nil).run pos pins s σ H (fun vs H1 => vs = [.ref a] ∧ H1 = H) I ⟨.ref a, ea, rfl, rfl⟩) fun us s1 ⟨vs, H1, I1, r1, q1⟩ => ?_) he hpl hall hnone
              obtain ⟨rfl, rfl⟩ := q1
              obtain ⟨u, rfl, ru⟩ := vals1 r1
              obtain rfl : u = Value.ref a := ru
              refine wpAny_evalAll_cons (wpAny_bind (LamX.lam_make2 (T := cl.tabs.tabs) I1 TB hcode hmT hu sr.tabs.tc.t hdef hfree fun f c' pmv tv H2 s2 I2 eN T2 of nf rf co => wpAny_bind (wpAny_standAt (wpAny_pure (wpAny_evalAll_nil ?_)))))
              rw [hks]
              have sr2 : SR (gx X cl) vs0 O W σ H2 ρ := sr.extN eN T2
              obtain ⟨a2, ea2, oa2⟩ := ownGet_at sr2 ek
              rw [ea] at ea2
              cases ea2
              obtain ⟨_, us, h2, _, hR⟩ := oa2
              refine sort_run I2 sr2 h2 hR hk hz.1 hz.2.1 hz.2.2 ev hj hvj ls room habs of co (fun v => hbd _ _ _ _ _ v) hd1 hd2 ho1 fun p us' np lz ra => ?_
              exact hw (.ref p) (p :: O) (p :: W) _ ((Stp.extN eN).trans sr.wf (Stp.new (same_upd np) np)) (sr2.new (same_upd np) np (noD_not upd_same)) ⟨p, rfl, ⟨List.mem_cons_self, us', upd_same, lz, ra.step sr2.wf (Stp.new (same_upd np) np)⟩, sr2.fre_mk (same_upd np) np⟩
            · exact hw.elim
        | _ => exact hw.elim
      | _ => exact hw.elim
end
end Wm
end
section
namespace Wm
open PySem PySem.Spec PyProof.Rows L2
section
variable {prog : Program} {w : World} {A : Around} {E : Value → Shared → Prop} {s : Shared}
theorem max_intTup {l : Addr} {xs : Array (Int × Tok)} {Q : Value → Shared → Prop} (hh : A.handled = none) (hl : s.heap.IsTuple l (intItems xs)) (hne : 0 < xs.size)
    (h : ∀ v h' tk, (intItems xs)[argBest (fun i j => decide (numAt xs i > numAt xs j)) (xs.size - 1)]? = some v → (∀ b o, s.heap.get? b = some o → h'.get? b = some o) → Q v { s with heap := h', toks := tk }) :
    wpAny (model prog w) A (call (.builtin "max") [.ref l]) Q E s := by
  have hlt : l < s.heap.objs.size := by obtain ⟨_, e, _⟩ := hl; exact Heap.lt_size e
  refine call_max_walk (wpAny_pyIter_tuple hl ?_)
  refine ⟨_, [s.heap.objs.size, l], [s.heap.objs.size], _, _, _, _, rfl, Walks.tuple (A := A.in1) hh _ l (Nat.ne_of_lt hlt) (intItems xs), ⟨⟨_, Heap.get?_push_size _ rfl, rfl, rfl⟩, hl.push _⟩, fun b hb => ?_, by simpa [intItems] using hne, CmpOf.ints_gt (numAt xs) (fun _ _ => intItems_at), fun v h' tk hP hk => ?_⟩
  · show b < (s.heap.push _).objs.size
    rw [Heap.size_push]
    rcases List.mem_cons.mp hb with rfl | hb
    · exact Nat.lt_succ_self _
    · rcases List.mem_cons.mp hb with rfl | hb
      · exact Nat.lt_succ_of_lt hlt
      · cases hb
  · exact h v h' tk (by simpa [intItems] using hP) fun b o e => hk b o (fun hb => absurd (Heap.lt_size e) ((List.mem_singleton.mp hb) ▸ Nat.lt_irrefl _)) (Heap.get?_push_of_some _ e)
theorem max_rawT {l : Addr} {its : List Value} {ns : List Int} {Q : Value → Shared → Prop} (hh : A.handled = none) (hl : s.heap.IsTuple l its.toArray) (hi : IntsAre its ns) (hne : 0 < ns.length)
    (h : ∀ h' tk M t', (∀ b o, s.heap.get? b = some o → h'.get? b = some o) → M ∈ ns → (∀ a, a ∈ ns → a ≤ M) → Q (.int M t') { s with heap := h', toks := tk }) : wpAny (model prog w) A (call (.builtin "max") [.ref l]) Q E s := by
  obtain ⟨xs, e⟩ := hi.allInts.items
  have hn : numsOf (intItems xs).toList = ns := by rw [← e]; exact hi.numsOf
  rw [nums_intItems] at hn
  subst hn
  rw [e] at hl
  have hsz : 0 < xs.size := by simpa using hne
  refine max_intTup hh hl hsz fun v h' tk hv hk => ?_
  obtain ⟨t, rfl⟩ := intItems_at hv
  obtain ⟨h1, h2⟩ := argBest_gt (numAt xs) (xs.size - 1)
  refine h h' tk _ t hk ?_ fun a ha => ?_
  · rw [numAt_eq]; exact PySem.getD_mem (by rw [List.length_map, Array.length_toList]; omega)
  · obtain ⟨j, hj, rfl⟩ := mem_getD ha
    rw [List.length_map, Array.length_toList] at hj
    rw [← numAt_eq]; exact h2 j (by omega)
end
section
variable {X : Cx} {cl : Cl} {vs0 : List V} {Wx : WX}
def rMaxT (K : PySem.W.Frag) : List V → Hp → VK → Prop := fun vs H Q => ∃ (a : Addr) (ns : List Int), vs = [V.ref a] ∧ SqT K H a (ns.map V.int) ∧ 0 < ns.length ∧ ∀ m, m ∈ ns → (∀ y, y ∈ ns → y ≤ m) → Q (.int m) H
theorem cr_maxT (hc : X.calm = true) : CallR X (.builtin "max") (rMaxT X.K) := by
  intro pins s σ H vs us Q I r h
  obtain ⟨a, ns, rfl, hs, hne, q⟩ := h
  obtain ⟨its, rv, hl, hz⟩ := I.tuple hs
  rw [Vals.ref1 r]
  exact max_rawT (I.ok.hd hc) hl rv.ints hne fun h' tk m t' hk h1 h2 => ⟨.int _, H, I.kept hk, ⟨_, rfl⟩, q m h1 h2⟩
def pMaxX : List D → Rs SD
  | [.tup ds] => match asInts ds with
    | some ns => if 0 < ns.length then .ok (.sh (.int (maxL ns))) else .bad
    | none => .bad
  | ds => pMax ds
theorem call_maxX (hc : X.calm = true) : CallR X (.builtin "max") (fun xs H Q => rMaxT X.K xs H Q ∨ ((∃ i j, xs = [.int i, .int j] ∧ Q (.int (if j > i then j else i)) H) ∨ rMax X.K xs H Q)) := (cr_maxT hc).or (call_maxD hc)
theorem pr_maxX : PrimR X cl (fun xs H Q => rMaxT X.K xs H Q ∨ ((∃ i j, xs = [.int i, .int j] ∧ Q (.int (if j > i then j else i)) H) ∨ rMax X.K xs H Q)) pMaxX := by
  intro O W H ds vs Q w ho hp
  unfold pMaxX at hp
  split at hp
  · split at hp
    · split at hp
      · rename_i ns e hl
        obtain ⟨v, rfl, h1⟩ := ho.one
        rw [asInts_eq e] at h1
        obtain ⟨a, us, rfl, t, r⟩ := h1.tup
        have hv := r.ints
        subst hv
        refine .inl ⟨a, ns, rfl, t.sq, hl, fun m h1 h2 => ?_⟩
        have sp := maxL_spec ns hl
        rw [show m = maxL ns from Int.le_antisymm (sp.2 m h1) (h2 _ sp.1)]
        exact hp _ H (Same.refl H) (by simp only [Rp])
      · exact hp.elim
    · exact hp.elim
  · exact .inr (pr_max O W H _ vs Q w ho hp)
@[simp] theorem pMaxX_two (i j : Int) : pMaxX [.int i, .int j] = .ok (.sh (.int (if i < j then j else i))) := (rfl)
@[simp] theorem pMaxX_lst (ds : List D) : pMaxX [.lst ds] = pMax [.lst ds] := (rfl)
theorem pMaxX_tup (ns : List Int) (h : 0 < ns.length) : pMaxX [.tup (ns.map D.int)] = .ok (.sh (.int (maxL ns))) := by
  show (match asInts (ns.map D.int) with
    | some ns => if 0 < ns.length then Rs.ok (SD.sh (.int (maxL ns))) else .bad
    | none => .bad) = _
  rw [asInts_map]
  simp only [if_pos h]
end
end Wm
end
section
namespace Lw
open PySem PySem.Spec PyProof.Rows L2 Wm
def topS (i : Nat) : Stmt := PySem.Challenge.pw_waymoves_k02_whole_any_way_or_a_bar.main.body.getD i (.Pass ⟨0, 0, 0, 0⟩)
abbrev s__law_draw : Stmt := topS 26
theorem sc__law_draw : FnScope ["_law_well", "_law_many", "_law_number", "_law_found"] ["_law_well", "_law_many"] (defScope s__law_draw) := ⟨rfl, rfl, rfl, by decide +kernel, rfl, by decide +kernel, by decide +kernel⟩
abbrev s__law_added : Stmt := topS 28
theorem sc__law_added : FnScope ["_law_one", "_law_other", "_law_many", "_law_mine", "_law_its"] ["_law_one", "_law_other", "_law_many"] (defScope s__law_added) := ⟨rfl, rfl, rfl, by decide +kernel, rfl, by decide +kernel, by decide +kernel⟩
abbrev s__law_dot : Stmt := topS 27
theorem sc__law_dot : FnScope ["_law_one", "_law_other", "_law_mine", "_law_its"] ["_law_one", "_law_other"] (defScope s__law_dot) := ⟨rfl, rfl, rfl, by decide +kernel, rfl, by decide +kernel, by decide +kernel⟩
abbrev s__law_built : Stmt := topS 32
theorem sc__law_built : FnScope ["_law_well", "_law_width", "_law_most", "_law_rows", "_law_vector", "_law_aim", "_law_at", "_law_j", "_law_row", "_law_k"] ["_law_well"] (defScope s__law_built) := ⟨rfl, rfl, rfl, by decide +kernel, rfl, by decide +kernel, by decide +kernel⟩
abbrev s_is_whole : Stmt := topS 5
theorem sc_is_whole : FnScope ["thing"] ["thing"] (defScope s_is_whole) := ⟨rfl, rfl, rfl, by decide +kernel, rfl, by decide +kernel, by decide +kernel⟩
abbrev s_is_row : Stmt := topS 6
theorem sc_is_row : FnScope ["thing", "wide", "one"] ["thing", "wide"] (defScope s_is_row) := ⟨rfl, rfl, rfl, by decide +kernel, rfl, by decide +kernel, by decide +kernel⟩
abbrev s_check_rows : Stmt := topS 7
theorem sc_check_rows : FnScope ["rows", "wide", "at", "row"] ["rows", "wide"] (defScope s_check_rows) := ⟨rfl, rfl, rfl, by decide +kernel, rfl, by decide +kernel, by decide +kernel⟩
abbrev s_check_row : Stmt := topS 8
theorem sc_check_row : FnScope ["row", "wide", "at"] ["row", "wide", "at"] (defScope s_check_row) := ⟨rfl, rfl, rfl, by decide +kernel, rfl, by decide +kernel, by decide +kernel⟩
abbrev s_check_side : Stmt := topS 16
theorem sc_check_side : FnScope ["rows", "side", "wide"] ["rows", "side", "wide"] (defScope s_check_side) := ⟨rfl, rfl, rfl, by decide +kernel, rfl, by decide +kernel, by decide +kernel⟩
abbrev s_added : Stmt := topS 9
theorem sc_added : FnScope ["one", "other", "many", "mine", "its"] ["one", "other", "many"] (defScope s_added) := ⟨rfl, rfl, rfl, by decide +kernel, rfl, by decide +kernel, by decide +kernel⟩
abbrev s_reduced : Stmt := topS 12
theorem sc_reduced : FnScope ["rows", "column", "some", "others", "least", "first", "later", "row"] ["rows", "column"] (defScope s_reduced) := ⟨rfl, rfl, rfl, by decide +kernel, rfl, by decide +kernel, by decide +kernel⟩
abbrev s_unit : Stmt := topS 14
theorem sc_unit : FnScope ["many", "at", "k"] ["many", "at"] (defScope s_unit) := ⟨rfl, rfl, rfl, by decide +kernel, rfl, by decide +kernel, by decide +kernel⟩
abbrev s_flipped : Stmt := topS 13
theorem sc_flipped : FnScope ["rows", "wide", "k", "row"] ["rows", "wide"] (defScope s_flipped) := ⟨rfl, rfl, rfl, by decide +kernel, rfl, by decide +kernel, by decide +kernel⟩
abbrev s_turned : Stmt := topS 11
theorem sc_turned : FnScope ["row", "one"] ["row"] (defScope s_turned) := ⟨rfl, rfl, rfl, by decide +kernel, rfl, by decide +kernel, by decide +kernel⟩
abbrev s_stairs_of : Stmt := topS 17
theorem sc_stairs_of : FnScope ["rows", "wide", "found", "left", "head", "first", "some", "at", "column"] ["rows", "wide"] (defScope s_stairs_of) := ⟨rfl, rfl, rfl, by decide +kernel, rfl, by decide +kernel, by decide +kernel⟩
abbrev s_gone_down : Stmt := topS 18
theorem sc_gone_down : FnScope ["side", "stairs", "wide", "left", "head", "row"] ["side", "stairs", "wide"] (defScope s_gone_down) := ⟨rfl, rfl, rfl, by decide +kernel, rfl, by decide +kernel, by decide +kernel⟩
abbrev s_dot : Stmt := topS 10
theorem sc_dot : FnScope ["one", "other", "mine", "its"] ["one", "other"] (defScope s_dot) := ⟨rfl, rfl, rfl, by decide +kernel, rfl, by decide +kernel, by decide +kernel⟩
abbrev s_bar_of : Stmt := topS 19
theorem sc_bar_of : FnScope ["side", "rest", "stairs", "spot", "many", "shares", "head", "row", "k", "due", "one"] ["side", "rest", "stairs"] (defScope s_bar_of) := ⟨rfl, rfl, rfl, by decide +kernel, rfl, by decide +kernel, by decide +kernel⟩
abbrev s_any_way : Stmt := topS 20
theorem sc_any_way : FnScope ["rows", "side", "wide", "stairs", "rest", "vector"] ["rows", "side", "wide"] (defScope s_any_way) := ⟨rfl, rfl, rfl, by decide +kernel, rfl, by decide +kernel, by decide +kernel⟩
abbrev s_is_bar : Stmt := topS 22
theorem sc_is_bar : FnScope ["thing", "many", "one"] ["thing", "many"] (defScope s_is_bar) := ⟨rfl, rfl, rfl, by decide +kernel, rfl, by decide +kernel, by decide +kernel⟩
abbrev s_check_bar : Stmt := topS 23
theorem sc_check_bar : FnScope ["rows", "side", "wide", "bar", "many", "shares", "at", "column"] ["rows", "side", "wide", "bar"] (defScope s_check_bar) := ⟨rfl, rfl, rfl, by decide +kernel, rfl, by decide +kernel, by decide +kernel⟩
abbrev s_meets : Stmt := topS 21
theorem sc_meets : FnScope ["rows", "side", "vector", "row"] ["rows", "side", "vector"] (defScope s_meets) := ⟨rfl, rfl, rfl, by decide +kernel, rfl, by decide +kernel, by decide +kernel⟩
abbrev s_check_any_way : Stmt := topS 24
theorem sc_check_any_way : FnScope ["rows", "answer", "side", "wide", "word", "thing", "row", "one"] ["rows", "answer", "side", "wide"] (defScope s_check_any_way) := ⟨rfl, rfl, rfl, by decide +kernel, rfl, by decide +kernel, by decide +kernel⟩
abbrev s__law_right_answer : Stmt := topS 31
theorem sc__law_right_answer : FnScope ["_law_rows", "_law_aim", "_law_width", "_law_answer", "_law_word", "_law_thing", "_law_many", "_law_shares", "_law_k", "_law_row"] ["_law_rows", "_law_aim", "_law_width", "_law_answer"] (defScope s__law_right_answer) := ⟨rfl, rfl, rfl, by decide +kernel, rfl, by decide +kernel, by decide +kernel⟩
abbrev s__law_sides_rest : Stmt := topS 30
theorem sc__law_sides_rest : FnScope ["_law_rows", "_law_aim", "_law_left", "_law_column", "_law_some", "_law_row", "_law_k", "_law_later"] ["_law_rows", "_law_aim"] (defScope s__law_sides_rest) := ⟨rfl, rfl, rfl, by decide +kernel, rfl, by decide +kernel, by decide +kernel⟩
abbrev s__law_right : Stmt := topS 33
theorem sc__law_right : FnScope ["_law_well", "_law_handed", "_law_answer", "_law_rows", "_law_aim", "_law_width", "_law_word"] ["_law_well"] (defScope s__law_right) := ⟨rfl, rfl, rfl, by decide +kernel, rfl, by decide +kernel, by decide +kernel⟩
abbrev s_law : Stmt := topS 34
theorem sc_law : FnScope ["_law_script", "_law_k", "_law_cell"] ["_law_script"] (defScope s_law) := ⟨rfl, rfl, rfl, by decide +kernel, rfl, by decide +kernel, by decide +kernel⟩
abbrev s_NoPaper_init : Stmt := inS (topS 3) 0
theorem sc_NoPaper_init : FnScope ["self", "where", "at"] ["self", "where", "at"] (defScope s_NoPaper_init) := ⟨rfl, rfl, rfl, by decide +kernel, rfl, by decide +kernel, by decide +kernel⟩
abbrev s_NoRow_init : Stmt := inS (topS 2) 0
theorem sc_NoRow_init : FnScope ["self", "at"] ["self", "at"] (defScope s_NoRow_init) := ⟨rfl, rfl, rfl, by decide +kernel, rfl, by decide +kernel, by decide +kernel⟩
abbrev exmT : Exm := []
structure Tx (K : PySem.W.Frag) (mg : Str → Option Value) (base : Heap) (cl : Cl) where
  a__law_draw : Addr
  fd__law_draw : FuncData
  F__law_draw : Fun K "_law_draw" "_law_draw" s__law_draw a__law_draw fd__law_draw
  m__law_draw : mg "_law_draw" = some (.ref a__law_draw)
  b__law_draw : Binds K fd__law_draw ["_law_well", "_law_many"] []
  a__law_added : Addr
  fd__law_added : FuncData
  F__law_added : Fun K "_law_added" "_law_added" s__law_added a__law_added fd__law_added
  m__law_added : mg "_law_added" = some (.ref a__law_added)
  b__law_added : Binds K fd__law_added ["_law_one", "_law_other", "_law_many"] []
  a__law_dot : Addr
  fd__law_dot : FuncData
  F__law_dot : Fun K "_law_dot" "_law_dot" s__law_dot a__law_dot fd__law_dot
  m__law_dot : mg "_law_dot" = some (.ref a__law_dot)
  b__law_dot : Binds K fd__law_dot ["_law_one", "_law_other"] []
  a__law_built : Addr
  fd__law_built : FuncData
  F__law_built : Fun K "_law_built" "_law_built" s__law_built a__law_built fd__law_built
  m__law_built : mg "_law_built" = some (.ref a__law_built)
  b__law_built : Binds K fd__law_built ["_law_well"] []
  a_is_whole : Addr
  fd_is_whole : FuncData
  F_is_whole : Fun K "is_whole" "is_whole" s_is_whole a_is_whole fd_is_whole
  m_is_whole : mg "is_whole" = some (.ref a_is_whole)
  b_is_whole : Binds K fd_is_whole ["thing"] []
  a_is_row : Addr
  fd_is_row : FuncData
  F_is_row : Fun K "is_row" "is_row" s_is_row a_is_row fd_is_row
  m_is_row : mg "is_row" = some (.ref a_is_row)
  b_is_row : Binds K fd_is_row ["thing", "wide"] []
  a_check_rows : Addr
  fd_check_rows : FuncData
  F_check_rows : Fun K "check_rows" "check_rows" s_check_rows a_check_rows fd_check_rows
  m_check_rows : mg "check_rows" = some (.ref a_check_rows)
  b_check_rows : Binds K fd_check_rows ["rows", "wide"] []
  a_check_row : Addr
  fd_check_row : FuncData
  F_check_row : Fun K "check_row" "check_row" s_check_row a_check_row fd_check_row
  m_check_row : mg "check_row" = some (.ref a_check_row)
  b_check_row : Binds K fd_check_row ["row", "wide", "at"] []
  a_check_side : Addr
  fd_check_side : FuncData
  F_check_side : Fun K "check_side" "check_side" s_check_side a_check_side fd_check_side
  m_check_side : mg "check_side" = some (.ref a_check_side)
  b_check_side : Binds K fd_check_side ["rows", "side", "wide"] []
  a_added : Addr
  fd_added : FuncData
  F_added : Fun K "added" "added" s_added a_added fd_added
  m_added : mg "added" = some (.ref a_added)
  a_reduced : Addr
  fd_reduced : FuncData
  F_reduced : Fun K "reduced" "reduced" s_reduced a_reduced fd_reduced
  m_reduced : mg "reduced" = some (.ref a_reduced)
  b_reduced : Binds K fd_reduced ["rows", "column"] []
  a_unit : Addr
  fd_unit : FuncData
  F_unit : Fun K "unit" "unit" s_unit a_unit fd_unit
  m_unit : mg "unit" = some (.ref a_unit)
  b_unit : Binds K fd_unit ["many", "at"] []
  a_flipped : Addr
  fd_flipped : FuncData
  F_flipped : Fun K "flipped" "flipped" s_flipped a_flipped fd_flipped
  m_flipped : mg "flipped" = some (.ref a_flipped)
  a_turned : Addr
  fd_turned : FuncData
  F_turned : Fun K "turned" "turned" s_turned a_turned fd_turned
  m_turned : mg "turned" = some (.ref a_turned)
  b_turned : Binds K fd_turned ["row"] []
  a_stairs_of : Addr
  fd_stairs_of : FuncData
  F_stairs_of : Fun K "stairs_of" "stairs_of" s_stairs_of a_stairs_of fd_stairs_of
  m_stairs_of : mg "stairs_of" = some (.ref a_stairs_of)
  b_stairs_of : Binds K fd_stairs_of ["rows", "wide"] []
  a_gone_down : Addr
  fd_gone_down : FuncData
  F_gone_down : Fun K "gone_down" "gone_down" s_gone_down a_gone_down fd_gone_down
  m_gone_down : mg "gone_down" = some (.ref a_gone_down)
  b_gone_down : Binds K fd_gone_down ["side", "stairs", "wide"] []
  a_dot : Addr
  fd_dot : FuncData
  F_dot : Fun K "dot" "dot" s_dot a_dot fd_dot
  m_dot : mg "dot" = some (.ref a_dot)
  b_dot : Binds K fd_dot ["one", "other"] []
  a_bar_of : Addr
  fd_bar_of : FuncData
  F_bar_of : Fun K "bar_of" "bar_of" s_bar_of a_bar_of fd_bar_of
  m_bar_of : mg "bar_of" = some (.ref a_bar_of)
  b_bar_of : Binds K fd_bar_of ["side", "rest", "stairs"] []
  a_any_way : Addr
  fd_any_way : FuncData
  F_any_way : Fun K "any_way" "any_way" s_any_way a_any_way fd_any_way
  m_any_way : mg "any_way" = some (.ref a_any_way)
  a_is_bar : Addr
  fd_is_bar : FuncData
  F_is_bar : Fun K "is_bar" "is_bar" s_is_bar a_is_bar fd_is_bar
  m_is_bar : mg "is_bar" = some (.ref a_is_bar)
  b_is_bar : Binds K fd_is_bar ["thing", "many"] []
  a_check_bar : Addr
  fd_check_bar : FuncData
  F_check_bar : Fun K "check_bar" "check_bar" s_check_bar a_check_bar fd_check_bar
  m_check_bar : mg "check_bar" = some (.ref a_check_bar)
  b_check_bar : Binds K fd_check_bar ["rows", "side", "wide", "bar"] []
  a_meets : Addr
  fd_meets : FuncData
  F_meets : Fun K "meets" "meets" s_meets a_meets fd_meets
  m_meets : mg "meets" = some (.ref a_meets)
  b_meets : Binds K fd_meets ["rows", "side", "vector"] []
  a_check_any_way : Addr
  fd_check_any_way : FuncData
  F_check_any_way : Fun K "check_any_way" "check_any_way" s_check_any_way a_check_any_way fd_check_any_way
  m_check_any_way : mg "check_any_way" = some (.ref a_check_any_way)
  a__law_right_answer : Addr
  fd__law_right_answer : FuncData
  F__law_right_answer : Fun K "_law_right_answer" "_law_right_answer" s__law_right_answer a__law_right_answer fd__law_right_answer
  m__law_right_answer : mg "_law_right_answer" = some (.ref a__law_right_answer)
  b__law_right_answer : Binds K fd__law_right_answer ["_law_rows", "_law_aim", "_law_width", "_law_answer"] []
  a__law_sides_rest : Addr
  fd__law_sides_rest : FuncData
  F__law_sides_rest : Fun K "_law_sides_rest" "_law_sides_rest" s__law_sides_rest a__law_sides_rest fd__law_sides_rest
  m__law_sides_rest : mg "_law_sides_rest" = some (.ref a__law_sides_rest)
  b__law_sides_rest : Binds K fd__law_sides_rest ["_law_rows", "_law_aim"] []
  a__law_right : Addr
  fd__law_right : FuncData
  F__law_right : Fun K "_law_right" "_law_right" s__law_right a__law_right fd__law_right
  m__law_right : mg "_law_right" = some (.ref a__law_right)
  b__law_right : Binds K fd__law_right ["_law_well"] []
  a_law : Addr
  fd_law : FuncData
  F_law : Fun K "law" "law" s_law a_law fd_law
  m_law : mg "law" = some (.ref a_law)
  b_law : Binds K fd_law ["_law_script"] []
  kb_added_2_many : KBs K fd_added ["one", "other", "many"] 2 ["many"] [.arg 0, .arg 1, .arg 2]
  kb_flipped_1_wide : KBs K fd_flipped ["rows", "wide"] 1 ["wide"] [.arg 0, .arg 1]
  kb_any_way_1_side_wide : KBs K fd_any_way ["rows", "side", "wide"] 1 ["side", "wide"] [.arg 0, .arg 1, .arg 2]
  kb_check_any_way_2_side_wide : KBs K fd_check_any_way ["rows", "answer", "side", "wide"] 2 ["side", "wide"] [.arg 0, .arg 1, .arg 2, .arg 3]
  way : WayC K mg "WayError"
  x_NoPaper : ExcC K mg cl "NoPaper" ["where", "at"] "NoPaper.__init__" s_NoPaper_init
  bi_NoPaper : KBs K x_NoPaper.fd ["self", "where", "at"] 2 ["at"] [.arg 0, .arg 1, .arg 2]
  x_NoRow : ExcC K mg cl "NoRow" ["at"] "NoRow.__init__" s_NoRow_init
  bi_NoRow : Binds K x_NoRow.fd ["self", "at"] []
  exm : ExmOk K cl exmT
  x0 : ∀ b, cl.xof b = none
  c__law_sides_rest : Addr
  p__law_sides_rest : Addr
  FC__law_sides_rest : FunC K "_law_sides_rest" "_law_sides_rest" s__law_sides_rest a__law_sides_rest fd__law_sides_rest c__law_sides_rest
  tab__law_sides_rest : LamX.TabB base mg c__law_sides_rest p__law_sides_rest
  ht__law_sides_rest : (p__law_sides_rest, (envOfC "_law_sides_rest" (defScope s__law_sides_rest) 0 0 (.ref c__law_sides_rest)).qual ++ "<lambda>") ∈ cl.tabs.tabs
  hu__law_sides_rest : ∀ p ∈ cl.tabs.tabs, p.1 = p__law_sides_rest → p.2 = (envOfC "_law_sides_rest" (defScope s__law_sides_rest) 0 0 (.ref c__law_sides_rest)).qual ++ "<lambda>"
  z_abs : mg "abs" = none
  z_all : mg "all" = none
  z_any : mg "any" = none
  z_bool : mg "bool" = none
  z_enumerate : mg "enumerate" = none
  z_int : mg "int" = none
  z_isinstance : mg "isinstance" = none
  z_len : mg "len" = none
  z_list : mg "list" = none
  z_max : mg "max" = none
  z_min : mg "min" = none
  z_range : mg "range" = none
  z_reversed : mg "reversed" = none
  z_sorted : mg "sorted" = none
  z_sum : mg "sum" = none
  z_tuple : mg "tuple" = none
  z_zip : mg "zip" = none
section
variable {P : Program} {w : World} {K : PySem.W.Frag} {mg : Str → Option Value} {base : Heap} {cl : Cl}
theorem ok_NoRow_init (T : Tx K mg base cl) : FnOk P w K mg base (L2.CX P w) 1 T.x_NoRow.fI T.x_NoRow.fd ["self", "at"] (spI1 K (cl.at' "NoRow") "at") :=
  T.x_NoRow.F.okX (N := ["self", "at"]) (k := 0) sc_NoRow_init spI1_len fun cdv A outer s H vs Q E hr hsp => ⟨_, pss_cons (ps_expr (pe_winit (by rfl) T.way.m T.way.ga T.way.rd T.way.vV (pa_cons (pv 0) (pa_cons pe_str pa_nil)))) (pss_one (ps_ost (pv 0) (pv 1))), by
    obtain ⟨a, v, rfl, h⟩ := hsp
    exact init1_sound (E := E) ⟨a, v, rfl, h⟩⟩
theorem ok_NoPaper_init (T : Tx K mg base cl) : FnOk P w K mg base (L2.CX P w) 1 T.x_NoPaper.fI T.x_NoPaper.fd ["self", "where", "at"] (spI2 K (cl.at' "NoPaper") "where" "at") :=
  T.x_NoPaper.F.okX (N := ["self", "where", "at"]) (k := 0) sc_NoPaper_init spI2_len fun cdv A outer s H vs Q E hr hsp => ⟨_, pss_cons (ps_expr (pe_winit (by rfl) T.way.m T.way.ga T.way.rd T.way.vV (pa_cons (pv 0) (pa_cons pe_str pa_nil)))) (pss_cons (ps_ost (pv 0) (pv 1)) (pss_one (ps_ost (pv 0) (pv 2)))), by
    obtain ⟨a, u, v, rfl, h⟩ := hsp
    exact init2_sound (E := E) ⟨a, u, v, rfl, h⟩⟩
def Tx.re (T : Tx K mg base cl) {tb : TC} (hb : tb.tabs = cl.tabs.tabs) : Tx K mg base (askC cl tb) where
  a__law_draw := T.a__law_draw
  fd__law_draw := T.fd__law_draw
  F__law_draw := T.F__law_draw
  m__law_draw := T.m__law_draw
  b__law_draw := T.b__law_draw
  a__law_added := T.a__law_added
  fd__law_added := T.fd__law_added
  F__law_added := T.F__law_added
  m__law_added := T.m__law_added
  b__law_added := T.b__law_added
  a__law_dot := T.a__law_dot
  fd__law_dot := T.fd__law_dot
  F__law_dot := T.F__law_dot
  m__law_dot := T.m__law_dot
  b__law_dot := T.b__law_dot
  a__law_built := T.a__law_built
  fd__law_built := T.fd__law_built
  F__law_built := T.F__law_built
  m__law_built := T.m__law_built
  b__law_built := T.b__law_built
  a_is_whole := T.a_is_whole
  fd_is_whole := T.fd_is_whole
  F_is_whole := T.F_is_whole
  m_is_whole := T.m_is_whole
  b_is_whole := T.b_is_whole
  a_is_row := T.a_is_row
  fd_is_row := T.fd_is_row
  F_is_row := T.F_is_row
  m_is_row := T.m_is_row
  b_is_row := T.b_is_row
  a_check_rows := T.a_check_rows
  fd_check_rows := T.fd_check_rows
  F_check_rows := T.F_check_rows
  m_check_rows := T.m_check_rows
  b_check_rows := T.b_check_rows
  a_check_row := T.a_check_row
  fd_check_row := T.fd_check_row
  F_check_row := T.F_check_row
  m_check_row := T.m_check_row
  b_check_row := T.b_check_row
  a_check_side := T.a_check_side
  fd_check_side := T.fd_check_side
  F_check_side := T.F_check_side
  m_check_side := T.m_check_side
  b_check_side := T.b_check_side
  a_added := T.a_added
  fd_added := T.fd_added
  F_added := T.F_added
  m_added := T.m_added
  a_reduced := T.a_reduced
  fd_reduced := T.fd_reduced
  F_reduced := T.F_reduced
  m_reduced := T.m_reduced
  b_reduced := T.b_reduced
  a_unit := T.a_unit
  fd_unit := T.fd_unit
  F_unit := T.F_unit
  m_unit := T.m_unit
  b_unit := T.b_unit
  a_flipped := T.a_flipped
  fd_flipped := T.fd_flipped
  F_flipped := T.F_flipped
  m_flipped := T.m_flipped
  a_turned := T.a_turned
  fd_turned := T.fd_turned
  F_turned := T.F_turned
  m_turned := T.m_turned
  b_turned := T.b_turned
  a_stairs_of := T.a_stairs_of
  fd_stairs_of := T.fd_stairs_of
  F_stairs_of := T.F_stairs_of
  m_stairs_of := T.m_stairs_of
  b_stairs_of := T.b_stairs_of
  a_gone_down := T.a_gone_down
  fd_gone_down := T.fd_gone_down
  F_gone_down := T.F_gone_down
  m_gone_down := T.m_gone_down
  b_gone_down := T.b_gone_down
  a_dot := T.a_dot
  fd_dot := T.fd_dot
  F_dot := T.F_dot
  m_dot := T.m_dot
  b_dot := T.b_dot
  a_bar_of := T.a_bar_of
  fd_bar_of := T.fd_bar_of
  F_bar_of := T.F_bar_of
  m_bar_of := T.m_bar_of
  b_bar_of := T.b_bar_of
  a_any_way := T.a_any_way
  fd_any_way := T.fd_any_way
  F_any_way := T.F_any_way
  m_any_way := T.m_any_way
  a_is_bar := T.a_is_bar
  fd_is_bar := T.fd_is_bar
  F_is_bar := T.F_is_bar
  m_is_bar := T.m_is_bar
  b_is_bar := T.b_is_bar
  a_check_bar := T.a_check_bar
  fd_check_bar := T.fd_check_bar
  F_check_bar := T.F_check_bar
  m_check_bar := T.m_check_bar
  b_check_bar := T.b_check_bar
  a_meets := T.a_meets
  fd_meets := T.fd_meets
  F_meets := T.F_meets
  m_meets := T.m_meets
  b_meets := T.b_meets
  a_check_any_way := T.a_check_any_way
  fd_check_any_way := T.fd_check_any_way
  F_check_any_way := T.F_check_any_way
  m_check_any_way := T.m_check_any_way
  a__law_right_answer := T.a__law_right_answer
  fd__law_right_answer := T.fd__law_right_answer
  F__law_right_answer := T.F__law_right_answer
  m__law_right_answer := T.m__law_right_answer
  b__law_right_answer := T.b__law_right_answer
  a__law_sides_rest := T.a__law_sides_rest
  fd__law_sides_rest := T.fd__law_sides_rest
  F__law_sides_rest := T.F__law_sides_rest
  m__law_sides_rest := T.m__law_sides_rest
  b__law_sides_rest := T.b__law_sides_rest
  a__law_right := T.a__law_right
  fd__law_right := T.fd__law_right
  F__law_right := T.F__law_right
  m__law_right := T.m__law_right
  b__law_right := T.b__law_right
  a_law := T.a_law
  fd_law := T.fd_law
  F_law := T.F_law
  m_law := T.m_law
  b_law := T.b_law
  kb_added_2_many := T.kb_added_2_many
  kb_flipped_1_wide := T.kb_flipped_1_wide
  kb_any_way_1_side_wide := T.kb_any_way_1_side_wide
  kb_check_any_way_2_side_wide := T.kb_check_any_way_2_side_wide
  way := T.way
  x_NoPaper := T.x_NoPaper.re
  bi_NoPaper := T.bi_NoPaper
  x_NoRow := T.x_NoRow.re
  bi_NoRow := T.bi_NoRow
  exm := T.exm
  x0 := fun _ => rfl
  c__law_sides_rest := T.c__law_sides_rest
  p__law_sides_rest := T.p__law_sides_rest
  FC__law_sides_rest := T.FC__law_sides_rest
  tab__law_sides_rest := T.tab__law_sides_rest
  ht__law_sides_rest := hb ▸ T.ht__law_sides_rest
  hu__law_sides_rest := hb ▸ T.hu__law_sides_rest
  z_abs := T.z_abs
  z_all := T.z_all
  z_any := T.z_any
  z_bool := T.z_bool
  z_enumerate := T.z_enumerate
  z_int := T.z_int
  z_isinstance := T.z_isinstance
  z_len := T.z_len
  z_list := T.z_list
  z_max := T.z_max
  z_min := T.z_min
  z_range := T.z_range
  z_reversed := T.z_reversed
  z_sorted := T.z_sorted
  z_sum := T.z_sum
  z_tuple := T.z_tuple
  z_zip := T.z_zip
noncomputable def g__law_draw : Ss := (sSeq (sIf (bT (xPrim [.ex (xPrim [.va 0, .ex (xC (.int 0))] pIx), .ex (xC (.int 0))] pGt)) (sSeq (sSet 3 (xPrim [.ex (xPrim [.va 0, .ex (xC (.int 0))] pIx), .va 1] pMod))
    (sSeq (sStore 0 (xPrim [.ex (xPrim [.va 0, .ex (xC (.int 0))] pIx), .va 1] pFdiv) (.ex (xC (.int 0))))
    (sRetV 3))) sNil)
    (sSeq (sStore 0 (xPrim [.ex (xPrim [.va 0, .ex (xC (.int 2))] pIx), .ex (xC (.int 1))] pAdd) (.ex (xC (.int 2))))
    (sSeq (sSet 2 (xPrim [.ex (xPrim [.ex (xPrim [.ex (xPrim [.ex (xPrim [.va 0, .ex (xC (.int 1))] pIx), .ex (xPrim [.ex (xC (.int 104729)), .ex (xPrim [.va 0, .ex (xC (.int 2))] pIx)] pMul)] pAdd), .ex (xC (.int 1))] pAdd), .ex (xC (.int 48271))] pMul), .ex (xC (.int 2147483647))] pMod))
    (sSeq (sSet 2 (xPrim [.ex (xPrim [.va 2, .ex (xPrim [.ex (xPrim [.va 2, .ex (xC (.int 1009))] pFdiv), .ex (xC (.int 69621))] pAdd)] pMul), .ex (xC (.int 2147483647))] pMod))
    (sRet (xPrim [.ex (xPrim [.ex (xPrim [.va 2, .ex (xPrim [.ex (xPrim [.va 2, .ex (xC (.int 2003))] pFdiv), .ex (xC (.int 40692))] pAdd)] pMul), .ex (xC (.int 2147483399))] pMod), .va 1] pMod))))))
noncomputable def f__law_draw : Fn := bodyF 4 g__law_draw
theorem ok__law_draw (T : Tx K mg base cl) : FnOk P w K mg base (L2.CX P w) 1 T.a__law_draw T.fd__law_draw ["_law_well", "_law_many"] (spF (gk K cl) 2 f__law_draw) :=
  fn_ok (N := ["_law_well", "_law_many", "_law_number", "_law_found"]) (k := 0) (g := g__law_draw) T.F__law_draw sc__law_draw fun cdv A outer s H vs E hr => (bj_cons (sj_if (tj_gt (oj_cons (lj_ex (ej_sbs (oj_cons (lj_va (pv 0)) (oj_cons (lj_ex ej_int) oj_nil)))) (oj_cons (lj_ex ej_int) oj_nil))) (bj_cons (sj_set (i := 3) sc__law_draw.nd rfl (.inl rfl) (ej_mod (oj_cons (lj_ex (ej_sbs (oj_cons (lj_va (pv 0)) (oj_cons (lj_ex ej_int) oj_nil)))) (oj_cons (lj_va (pv 1)) oj_nil))))
    (bj_cons (sj_store (pv 0) (oj_cons (lj_ex ej_int) oj_nil) (ej_fdiv (oj_cons (lj_ex (ej_sbs (oj_cons (lj_va (pv 0)) (oj_cons (lj_ex ej_int) oj_nil)))) (oj_cons (lj_va (pv 1)) oj_nil))))
    (bj_one (sj_retV (pv 3))))) bj_nil)
    (bj_cons (sj_store (pv 0) (oj_cons (lj_ex ej_int) oj_nil) (ej_add (oj_cons (lj_ex (ej_sbs (oj_cons (lj_va (pv 0)) (oj_cons (lj_ex ej_int) oj_nil)))) (oj_cons (lj_ex ej_int) oj_nil))))
    (bj_cons (sj_set (i := 2) sc__law_draw.nd rfl (.inl rfl) (ej_mod (oj_cons (lj_ex (ej_mul (oj_cons (lj_ex (ej_add (oj_cons (lj_ex (ej_add (oj_cons (lj_ex (ej_sbs (oj_cons (lj_va (pv 0)) (oj_cons (lj_ex ej_int) oj_nil)))) (oj_cons (lj_ex (ej_mul (oj_cons (lj_ex ej_int) (oj_cons (lj_ex (ej_sbs (oj_cons (lj_va (pv 0)) (oj_cons (lj_ex ej_int) oj_nil)))) oj_nil)))) oj_nil)))) (oj_cons (lj_ex ej_int) oj_nil)))) (oj_cons (lj_ex ej_int) oj_nil)))) (oj_cons (lj_ex ej_int) oj_nil))))
    (bj_cons (sj_set (i := 2) sc__law_draw.nd rfl (.inl rfl) (ej_mod (oj_cons (lj_ex (ej_mul (oj_cons (lj_va (pv 2)) (oj_cons (lj_ex (ej_add (oj_cons (lj_ex (ej_fdiv (oj_cons (lj_va (pv 2)) (oj_cons (lj_ex ej_int) oj_nil)))) (oj_cons (lj_ex ej_int) oj_nil)))) oj_nil)))) (oj_cons (lj_ex ej_int) oj_nil))))
    (bj_one (sj_ret (ej_mod (oj_cons (lj_ex (ej_mod (oj_cons (lj_ex (ej_mul (oj_cons (lj_va (pv 2)) (oj_cons (lj_ex (ej_add (oj_cons (lj_ex (ej_fdiv (oj_cons (lj_va (pv 2)) (oj_cons (lj_ex ej_int) oj_nil)))) (oj_cons (lj_ex ej_int) oj_nil)))) oj_nil)))) (oj_cons (lj_ex ej_int) oj_nil)))) (oj_cons (lj_va (pv 1)) oj_nil)))))))))
noncomputable def c__law_added_0 : Sx := (xLc (srcZip (.va 0) (.va 1)) (stT [3, 4]) bYes (xPrim [.va 3, .ex (xPrim [.va 2, .va 4] pMul)] pAdd) [3, 4])
noncomputable def g__law_added : Ss := (sRet (xPrim [.ex c__law_added_0] pTuple))
noncomputable def f__law_added : Fn := bodyF 5 g__law_added
theorem ok__law_added (T : Tx K mg base cl) : FnOk P w K mg base (L2.CX P w) 1 T.a__law_added T.fd__law_added ["_law_one", "_law_other", "_law_many"] (spF (gk K cl) 3 f__law_added) :=
  fn_ok (N := ["_law_one", "_law_other", "_law_many", "_law_mine", "_law_its"]) (k := 0) (g := g__law_added) T.F__law_added sc__law_added fun cdv A outer s H vs E hr => (bj_one (sj_ret (ej_callTy call_tuple_of pr_tuple (by rfl) T.z_tuple (by decide +kernel) (oj_cons (lj_ex (ej_lc rfl sc__law_added.nd (ij_zip (by rfl) T.z_zip (lj_va (pv 0)) (lj_va (pv 1))) (blkOk_by (own := [("_law_mine", 3), ("_law_its", 4)]) (by kernel_rfl)) (fun _ _ _ _ _ => (gj_tup (is := [3, 4]) rfl (pgs_cons (pg_name (i := 3) sc__law_added.nd rfl (.inl rfl)) (pgs_cons (pg_name (i := 4) sc__law_added.nd rfl (.inl rfl)) pgs_nil)) rfl)) (fun _ _ _ _ _ => fj_nil) (fun _ _ _ _ _ => (ej_add (oj_cons (lj_va (pv 3)) (oj_cons (lj_ex (ej_mul (oj_cons (lj_va (pv 2)) (oj_cons (lj_va (pv 4)) oj_nil)))) oj_nil)))) (by decide))) oj_nil))))
noncomputable def c__law_dot_0 : Sx := (xLc (srcZip (.va 0) (.va 1)) (stT [2, 3]) bYes (xPrim [.va 2, .va 3] pMul) [2, 3])
noncomputable def g__law_dot : Ss := (sRet (xPrim [.ex c__law_dot_0] pSum))
noncomputable def f__law_dot : Fn := bodyF 4 g__law_dot
theorem ok__law_dot (T : Tx K mg base cl) : FnOk P w K mg base (L2.CX P w) 1 T.a__law_dot T.fd__law_dot ["_law_one", "_law_other"] (spF (gk K cl) 2 f__law_dot) :=
  fn_ok (N := ["_law_one", "_law_other", "_law_mine", "_law_its"]) (k := 0) (g := g__law_dot) T.F__law_dot sc__law_dot fun cdv A outer s H vs E hr => (bj_one (sj_ret (ej_callB (cr_sum rfl) pr_sum (by rfl) T.z_sum (by decide +kernel) (oj_cons (lj_ex (ej_lc rfl sc__law_dot.nd (ij_zip (by rfl) T.z_zip (lj_va (pv 0)) (lj_va (pv 1))) (blkOk_by (own := [("_law_mine", 2), ("_law_its", 3)]) (by kernel_rfl)) (fun _ _ _ _ _ => (gj_tup (is := [2, 3]) rfl (pgs_cons (pg_name (i := 2) sc__law_dot.nd rfl (.inl rfl)) (pgs_cons (pg_name (i := 3) sc__law_dot.nd rfl (.inl rfl)) pgs_nil)) rfl)) (fun _ _ _ _ _ => fj_nil) (fun _ _ _ _ _ => (ej_mul (oj_cons (lj_va (pv 2)) (oj_cons (lj_va (pv 3)) oj_nil)))) (by decide))) oj_nil))))
noncomputable def c__law_built_0 : Sx := (xLc (srcRng1 [.va 1]) (stN 9) bYes (xPrim [.ex (xCall f__law_draw [.va 0, .ex (xPrim [.ex (xPrim [.ex (xC (.int 2)), .va 2] pMul), .ex (xC (.int 1))] pAdd)]), .va 2] pSub) [9])
noncomputable def c__law_built_1 : Sx := (xLc (srcRng1 [.ex (xCall f__law_draw [.va 0, .ex (xC (.int 5))])]) (stN 7) bYes (xPrim [.ex c__law_built_0] pTuple) [7])
noncomputable def b__law_built_0 : Sb := (bAnd (bT (xPrim [.ex (xPrim [.va 3] pLen), .ex (xC (.int 1))] pGt)) (bT (xPrim [.ex (xCall f__law_draw [.va 0, .ex (xC (.int 3))]), .ex (xC (.int 0))] pEq)))
noncomputable def c__law_built_2 : Sx := (xLc (srcRng1 [.va 1]) (stN 9) bYes (xPrim [.ex (xCall f__law_draw [.va 0, .ex (xC (.int 19))]), .ex (xC (.int 9))] pSub) [9])
noncomputable def c__law_built_3 : Sx := (xLc (con (.va 3)) (stN 8) bYes (xCall f__law_dot [.va 8, .va 4]) [8])
noncomputable def b__law_built_1 : Sb := (bAnd (bT (xPrim [.va 5, .ex (xLst [])] pNe)) (bT (xPrim [.ex (xCall f__law_draw [.va 0, .ex (xC (.int 2))]), .ex (xC (.int 0))] pEq)))
noncomputable def g__law_built : Ss := (sSeq (sSet 1 (xPrim [.ex (xC (.int 1)), .ex (xCall f__law_draw [.va 0, .ex (xC (.int 5))])] pAdd))
    (sSeq (sSet 2 (xPrim [.ex (xLst [(xC (.int 9)), (xC (.int 3)), (xC (.int 1)), (xC (.int 1000))]), .ex (xCall f__law_draw [.va 0, .ex (xC (.int 4))])] pIx))
    (sSeq (sSet 3 c__law_built_1)
    (sSeq (sIf b__law_built_0 (sStore 3 (xCall f__law_added [.ex (xPrim [.va 3, .ex (xC (.int 0))] pIx), .ex (xPrim [.va 3, .ex (xPrim [.ex (xC (.int 1))] pNeg)] pIx), .ex (xC (.int 0))]) (.ex (xPrim [.ex (xC (.int 1))] pNeg))) sNil)
    (sSeq (sSet 4 (xPrim [.ex c__law_built_2] pTuple))
    (sSeq (sSet 5 c__law_built_3)
    (sSeq (sIf b__law_built_1 (sSeq (sSet 6 (xCall f__law_draw [.va 0, .ex (xPrim [.va 5] pLen)]))
    (sSeq (sStore 5 (xPrim [.ex (xPrim [.ex (xPrim [.va 5, .va 6] pIx), .ex (xC (.int 1))] pAdd), .ex (xCall f__law_draw [.va 0, .ex (xC (.int 7))])] pAdd) (.va 6))
    (sRet (xTup [(xVar 3), (xPrim [.va 5] pTuple), (xVar 1), (xC .non)])))) sNil)
    (sRet (xTup [(xVar 3), (xPrim [.va 5] pTuple), (xVar 1), (xC (.str "some"))])))))))))
noncomputable def f__law_built : Fn := bodyF 10 g__law_built
theorem ok__law_built (T : Tx K mg base cl) : FnOk P w K mg base (L2.CX P w) 2 T.a__law_built T.fd__law_built ["_law_well"] (spF (gk K cl) 1 f__law_built) :=
  fn_ok (N := ["_law_well", "_law_width", "_law_most", "_law_rows", "_law_vector", "_law_aim", "_law_at", "_law_j", "_law_row", "_law_k"]) (k := 1) (g := g__law_built) T.F__law_built sc__law_built fun cdv A outer s H vs E hr => (bj_cons (sj_set (i := 1) sc__law_built.nd rfl (.inr rfl) (ej_add (oj_cons (lj_ex ej_int) (oj_cons (lj_ex (ej_call (ok__law_draw T) (hr.mono (by first | decide | omega)) (by rfl) T.m__law_draw T.F__law_draw.kp T.b__law_draw (takes_of rfl rfl rfl rfl) (kj_cons (lj_va (pv 0)) (kj_cons (lj_ex ej_int) kj_nil)) rfl)) oj_nil))))
    (bj_cons (sj_set (i := 2) sc__law_built.nd rfl (.inr rfl) (ej_sbs (oj_cons (lj_ex (ej_lst (mj_cons ej_int (mj_cons ej_int (mj_cons ej_int (mj_cons ej_int mj_nil)))))) (oj_cons (lj_ex (ej_call (ok__law_draw T) (hr.mono (by first | decide | omega)) (by rfl) T.m__law_draw T.F__law_draw.kp T.b__law_draw (takes_of rfl rfl rfl rfl) (kj_cons (lj_va (pv 0)) (kj_cons (lj_ex ej_int) kj_nil)) rfl)) oj_nil))))
    (bj_cons (sj_setLc (i := 3) rfl sc__law_built.nd rfl rfl (sw_true rfl rfl rfl (by decide +kernel)) (ij_rng1 (by rfl) T.z_range (oj_cons (lj_ex (ej_call (ok__law_draw T) (hr.mono (by first | decide | omega)) (by rfl) T.m__law_draw T.F__law_draw.kp T.b__law_draw (takes_of rfl rfl rfl rfl) (kj_cons (lj_va (pv 0)) (kj_cons (lj_ex ej_int) kj_nil)) rfl)) oj_nil)) (blkOk_by (own := [("_law_j", 7)]) (by kernel_rfl)) (fun _ _ _ _ _ => (gj_name (i := 7) sc__law_built.nd rfl (.inl rfl))) (fun _ _ _ _ _ => fj_nil) (fun _ _ _ _ _ => (ej_callTy call_tuple_of pr_tuple (by rfl) T.z_tuple (by decide +kernel) (oj_cons (lj_ex (ej_lc rfl sc__law_built.nd (ij_rng1 (by rfl) T.z_range (oj_cons (lj_va (pv 1)) oj_nil)) (blkOk_by (own := [("_law_k", 9)]) (by kernel_rfl)) (fun _ _ _ _ _ => (gj_name (i := 9) sc__law_built.nd rfl (.inl rfl))) (fun _ _ _ _ _ => fj_nil) (fun _ _ _ _ _ => (ej_sub (oj_cons (lj_ex (ej_call (ok__law_draw T) (hr.mono (by first | decide | omega)) (by rfl) T.m__law_draw T.F__law_draw.kp T.b__law_draw takes0 (kj_cons (lj_va (pv 0)) (kj_cons (lj_ex (ej_add (oj_cons (lj_ex (ej_mul (oj_cons (lj_ex ej_int) (oj_cons (lj_va (pv 2)) oj_nil)))) (oj_cons (lj_ex ej_int) oj_nil)))) kj_nil)) rfl)) (oj_cons (lj_va (pv 2)) oj_nil)))) (by decide))) oj_nil))) (by decide))
    (bj_cons (sj_if (WJ.tj (wj_and (tj_gt (oj_cons (lj_ex (ej_callB call_len_seq pr_len (by rfl) T.z_len (by decide +kernel) (oj_cons (lj_va (pv 3)) oj_nil))) (oj_cons (lj_ex ej_int) oj_nil))) (wj_and1 (tj_eq hr.units (oj_cons (lj_ex (ej_call (ok__law_draw T) (hr.mono (by first | decide | omega)) (by rfl) T.m__law_draw T.F__law_draw.kp T.b__law_draw (takes_of rfl rfl rfl rfl) (kj_cons (lj_va (pv 0)) (kj_cons (lj_ex ej_int) kj_nil)) rfl)) (oj_cons (lj_ex ej_int) oj_nil)))))) (bj_one (sj_store (pv 3) (oj_cons (lj_ex (ej_neg (oj_cons (lj_ex ej_int) oj_nil))) oj_nil) (ej_call (ok__law_added T) (hr.mono (by first | decide | omega)) (by rfl) T.m__law_added T.F__law_added.kp T.b__law_added (takes_of rfl rfl rfl rfl) (kj_cons (lj_ex (ej_sbs (oj_cons (lj_va (pv 3)) (oj_cons (lj_ex ej_int) oj_nil)))) (kj_cons (lj_ex (ej_sbs (oj_cons (lj_va (pv 3)) (oj_cons (lj_ex (ej_neg (oj_cons (lj_ex ej_int) oj_nil))) oj_nil)))) (kj_cons (lj_ex ej_int) kj_nil))) rfl))) bj_nil)
    (bj_cons (sj_set (i := 4) sc__law_built.nd rfl (.inr rfl) (ej_callTy call_tuple_of pr_tuple (by rfl) T.z_tuple (by decide +kernel) (oj_cons (lj_ex (ej_lc rfl sc__law_built.nd (ij_rng1 (by rfl) T.z_range (oj_cons (lj_va (pv 1)) oj_nil)) (blkOk_by (own := [("_law_k", 9)]) (by kernel_rfl)) (fun _ _ _ _ _ => (gj_name (i := 9) sc__law_built.nd rfl (.inl rfl))) (fun _ _ _ _ _ => fj_nil) (fun _ _ _ _ _ => (ej_sub (oj_cons (lj_ex (ej_call (ok__law_draw T) (hr.mono (by first | decide | omega)) (by rfl) T.m__law_draw T.F__law_draw.kp T.b__law_draw takes0 (kj_cons (lj_va (pv 0)) (kj_cons (lj_ex ej_int) kj_nil)) rfl)) (oj_cons (lj_ex ej_int) oj_nil)))) (by decide))) oj_nil)))
    (bj_cons (sj_setLc (i := 5) rfl sc__law_built.nd rfl rfl (sw_true rfl rfl rfl (by decide +kernel)) (ij_seq (lj_va (pv 3))) (blkOk_by (own := [("_law_row", 8)]) (by kernel_rfl)) (fun _ _ _ _ _ => (gj_name (i := 8) sc__law_built.nd rfl (.inl rfl))) (fun _ _ _ _ _ => fj_nil) (fun _ _ _ _ _ => (ej_call (ok__law_dot T) (hr.mono (by first | decide | omega)) (by rfl) T.m__law_dot T.F__law_dot.kp T.b__law_dot takes0 (kj_cons (lj_va (pv 8)) (kj_cons (lj_va (pv 4)) kj_nil)) rfl)) (by decide))
    (bj_cons (sj_if (WJ.tj (wj_and (tj_ne hr.units (oj_cons (lj_va (pv 5)) (oj_cons (lj_ex (ej_lst mj_nil)) oj_nil))) (wj_and1 (tj_eq hr.units (oj_cons (lj_ex (ej_call (ok__law_draw T) (hr.mono (by first | decide | omega)) (by rfl) T.m__law_draw T.F__law_draw.kp T.b__law_draw (takes_of rfl rfl rfl rfl) (kj_cons (lj_va (pv 0)) (kj_cons (lj_ex ej_int) kj_nil)) rfl)) (oj_cons (lj_ex ej_int) oj_nil)))))) (bj_cons (sj_set (i := 6) sc__law_built.nd rfl (.inl rfl) (ej_call (ok__law_draw T) (hr.mono (by first | decide | omega)) (by rfl) T.m__law_draw T.F__law_draw.kp T.b__law_draw (takes_of rfl rfl rfl rfl) (kj_cons (lj_va (pv 0)) (kj_cons (lj_ex (ej_callB call_len_seq pr_len (by rfl) T.z_len (by decide +kernel) (oj_cons (lj_va (pv 5)) oj_nil))) kj_nil)) rfl))
    (bj_cons (sj_store (pv 5) (oj_cons (lj_va (pv 6)) oj_nil) (ej_add (oj_cons (lj_ex (ej_add (oj_cons (lj_ex (ej_sbs (oj_cons (lj_va (pv 5)) (oj_cons (lj_va (pv 6)) oj_nil)))) (oj_cons (lj_ex ej_int) oj_nil)))) (oj_cons (lj_ex (ej_call (ok__law_draw T) (hr.mono (by first | decide | omega)) (by rfl) T.m__law_draw T.F__law_draw.kp T.b__law_draw (takes_of rfl rfl rfl rfl) (kj_cons (lj_va (pv 0)) (kj_cons (lj_ex ej_int) kj_nil)) rfl)) oj_nil))))
    (bj_one (sj_ret (ej_tup (mj_cons (ej_var (pv 3)) (mj_cons (ej_callTy call_tuple_of pr_tuple (by rfl) T.z_tuple (by decide +kernel) (oj_cons (lj_va (pv 5)) oj_nil)) (mj_cons (ej_var (pv 1)) (mj_cons ej_non mj_nil))))))))) bj_nil)
    (bj_one (sj_ret (ej_tup (mj_cons (ej_var (pv 3)) (mj_cons (ej_callTy call_tuple_of pr_tuple (by rfl) T.z_tuple (by decide +kernel) (oj_cons (lj_va (pv 5)) oj_nil)) (mj_cons (ej_var (pv 1)) (mj_cons ej_str mj_nil))))))))))))))
noncomputable def g_is_whole : Ss := (sRet (xAnd (xPrim [.va 0] (pIsi .int)) (xNot (xPrim [.va 0] (pIsi .bool)))))
noncomputable def f_is_whole : Fn := bodyF 1 g_is_whole
theorem ok_is_whole (T : Tx K mg base cl) : FnOk P w K mg base (L2.CX P w) 1 T.a_is_whole T.fd_is_whole ["thing"] (spF (gk K cl) 1 f_is_whole) :=
  fn_ok (N := ["thing"]) (k := 0) (g := g_is_whole) T.F_is_whole sc_is_whole fun cdv A outer s H vs E hr => (bj_one (sj_ret (ej_and (ej_isi (t := .int) T.z_isinstance (by rfl) (oj_cons (lj_va (pv 0)) oj_nil) (pe_bltn (v := .ty "int") (by rfl) T.z_int (by decide +kernel) rfl)) (ej_one (ej_not (ej_isi (t := .bool) T.z_isinstance (by rfl) (oj_cons (lj_va (pv 0)) oj_nil) (pe_bltn (v := .ty "bool") (by rfl) T.z_bool (by decide +kernel) rfl)))))))
noncomputable def c_is_row_0 : Sx := (xLc (con (.va 0)) (stN 2) bYes (xCall f_is_whole [.va 2]) [2])
noncomputable def g_is_row : Ss := (sRet (xAnd (xPrim [.va 0] (pIsi .tuple)) (xAnd (xPrim [.ex (xPrim [.va 0] pLen), .va 1] pEq) (xPrim [.ex c_is_row_0] pAll))))
noncomputable def f_is_row : Fn := bodyF 3 g_is_row
theorem ok_is_row (T : Tx K mg base cl) : FnOk P w K mg base (L2.CX P w) 2 T.a_is_row T.fd_is_row ["thing", "wide"] (spF (gk K cl) 2 f_is_row) :=
  fn_ok (N := ["thing", "wide", "one"]) (k := 1) (g := g_is_row) T.F_is_row sc_is_row fun cdv A outer s H vs E hr => (bj_one (sj_ret (ej_and (ej_isi (t := .tuple) T.z_isinstance (by rfl) (oj_cons (lj_va (pv 0)) oj_nil) (pe_bltn (v := .ty "tuple") (by rfl) T.z_tuple (by decide +kernel) rfl)) (ej_and (ej_eq hr.units (oj_cons (lj_ex (ej_callB call_len_seq pr_len (by rfl) T.z_len (by decide +kernel) (oj_cons (lj_va (pv 0)) oj_nil))) (oj_cons (lj_va (pv 1)) oj_nil))) (ej_one (ej_callB (cr_allK rfl) (pr_anyK _) (by rfl) T.z_all (by decide +kernel) (oj_cons (lj_ex (ej_lc rfl sc_is_row.nd (ij_seq (lj_va (pv 0))) (blkOk_by (own := [("one", 2)]) (by kernel_rfl)) (fun _ _ _ _ _ => (gj_name (i := 2) sc_is_row.nd rfl (.inl rfl))) (fun _ _ _ _ _ => fj_nil) (fun _ _ _ _ _ => (ej_call (ok_is_whole T) (hr.mono (by first | decide | omega)) (by rfl) T.m_is_whole T.F_is_whole.kp T.b_is_whole takes0 (kj_cons (lj_va (pv 2)) kj_nil) rfl)) (by decide))) oj_nil)))))))
noncomputable def l_check_rows_0 : Ss := (sIf (bNot (bTru [.ex (xCall f_is_row [.va 3, .va 1])])) (sRaise1 "NoRow" "at" (xVar 2)) sNil)
noncomputable def g_check_rows : Ss := (sSeq (sIf (bNot (bTru [.ex (xPrim [.va 0] (pIsi .list))])) (sRaise1 "NoRow" "at" (xC (.int 0))) sNil)
    (sFor (enumS (conF 0)) (stT [2, 3]) l_check_rows_0))
noncomputable def f_check_rows : Fn := bodyF 4 g_check_rows
theorem ok_check_rows (T : Tx K mg base cl) : FnOk P w K mg base (L2.CX P w) 3 T.a_check_rows T.fd_check_rows ["rows", "wide"] (spF (gk K cl) 2 f_check_rows) :=
  fn_ok (N := ["rows", "wide", "at", "row"]) (k := 2) (g := g_check_rows) T.F_check_rows sc_check_rows fun cdv A outer s H vs E hr => (bj_cons (sj_if (tj_not (tj_tru (oj_cons (lj_ex (ej_isi (t := .list) T.z_isinstance (by rfl) (oj_cons (lj_va (pv 0)) oj_nil) (pe_bltn (v := .ty "list") (by rfl) T.z_list (by decide +kernel) rfl))) oj_nil))) (bj_one (sj_raise1 rfl (takes_of rfl rfl rfl rfl) T.x_NoRow.oex (T.x_NoRow.nf _ (by decide)) T.x_NoRow.iC T.x_NoRow.tI (ok_NoRow_init T) (hr.mono (by first | decide | omega)) T.bi_NoRow (passF (takes_of rfl rfl rfl rfl)) (by rfl) T.x_NoRow.m (mj_cons ej_int mj_nil))) bj_nil)
    (bj_one (sj_for (passes_of rfl) rfl (ij_enumC (by rfl) T.z_enumerate (cj_F (pv 0))) (gj_tup (is := [2, 3]) rfl (pgs_cons (pg_name (i := 2) sc_check_rows.nd rfl (.inl rfl)) (pgs_cons (pg_name (i := 3) sc_check_rows.nd rfl (.inl rfl)) pgs_nil)) rfl) (bj_one (sj_if (tj_not (tj_tru (oj_cons (lj_ex (ej_call (ok_is_row T) (hr.mono (by first | decide | omega)) (by rfl) T.m_is_row T.F_is_row.kp T.b_is_row (takes_of rfl rfl rfl rfl) (kj_cons (lj_va (pv 3)) (kj_cons (lj_va (pv 1)) kj_nil)) rfl)) oj_nil))) (bj_one (sj_raise1 rfl (takes_of rfl rfl rfl rfl) T.x_NoRow.oex (T.x_NoRow.nf _ (by decide)) T.x_NoRow.iC T.x_NoRow.tI (ok_NoRow_init T) (hr.mono (by first | decide | omega)) T.bi_NoRow (passF (takes_of rfl rfl rfl rfl)) (by rfl) T.x_NoRow.m (mj_cons (ej_var (pv 2)) mj_nil))) bj_nil)))))
noncomputable def g_check_row : Ss := (sIf (bNot (bTru [.ex (xCall f_is_row [.va 0, .va 1])])) (sRaise1 "NoRow" "at" (xVar 2)) sNil)
noncomputable def f_check_row : Fn := bodyF 3 g_check_row
theorem ok_check_row (T : Tx K mg base cl) : FnOk P w K mg base (L2.CX P w) 3 T.a_check_row T.fd_check_row ["row", "wide", "at"] (spF (gk K cl) 3 f_check_row) :=
  fn_ok (N := ["row", "wide", "at"]) (k := 2) (g := g_check_row) T.F_check_row sc_check_row fun cdv A outer s H vs E hr => (bj_one (sj_if (tj_not (tj_tru (oj_cons (lj_ex (ej_call (ok_is_row T) (hr.mono (by first | decide | omega)) (by rfl) T.m_is_row T.F_is_row.kp T.b_is_row (takes_of rfl rfl rfl rfl) (kj_cons (lj_va (pv 0)) (kj_cons (lj_va (pv 1)) kj_nil)) rfl)) oj_nil))) (bj_one (sj_raise1 rfl (takes_of rfl rfl rfl rfl) T.x_NoRow.oex (T.x_NoRow.nf _ (by decide)) T.x_NoRow.iC T.x_NoRow.tI (ok_NoRow_init T) (hr.mono (by first | decide | omega)) T.bi_NoRow (passF (takes_of rfl rfl rfl rfl)) (by rfl) T.x_NoRow.m (mj_cons (ej_var (pv 2)) mj_nil))) bj_nil))
noncomputable def g_check_side : Ss := (sSeq (sEx (xCall f_check_rows [.va 0, .va 2]))
    (sEx (xCall f_check_row [.va 1, .ex (xPrim [.va 0] pLen), .ex (xPrim [.va 0] pLen)])))
noncomputable def f_check_side : Fn := bodyF 3 g_check_side
theorem ok_check_side (T : Tx K mg base cl) : FnOk P w K mg base (L2.CX P w) 4 T.a_check_side T.fd_check_side ["rows", "side", "wide"] (spF (gk K cl) 3 f_check_side) :=
  fn_ok (N := ["rows", "side", "wide"]) (k := 3) (g := g_check_side) T.F_check_side sc_check_side fun cdv A outer s H vs E hr => (bj_cons (sj_ex (ej_call (ok_check_rows T) (hr.mono (by first | decide | omega)) (by rfl) T.m_check_rows T.F_check_rows.kp T.b_check_rows (takes_of rfl rfl rfl rfl) (kj_cons (lj_va (pv 0)) (kj_cons (lj_va (pv 2)) kj_nil)) rfl))
    (bj_one (sj_ex (ej_call (ok_check_row T) (hr.mono (by first | decide | omega)) (by rfl) T.m_check_row T.F_check_row.kp T.b_check_row (takes_of rfl rfl rfl rfl) (kj_cons (lj_va (pv 1)) (kj_cons (lj_ex (ej_callB call_len_seq pr_len (by rfl) T.z_len (by decide +kernel) (oj_cons (lj_va (pv 0)) oj_nil))) (kj_cons (lj_ex (ej_callB call_len_seq pr_len (by rfl) T.z_len (by decide +kernel) (oj_cons (lj_va (pv 0)) oj_nil))) kj_nil))) rfl))))
noncomputable def c_added_0 : Sx := (xLc (srcZip (.va 0) (.va 1)) (stT [3, 4]) bYes (xPrim [.va 3, .ex (xPrim [.va 2, .va 4] pMul)] pAdd) [3, 4])
noncomputable def g_added : Ss := (sRet (xPrim [.ex c_added_0] pTuple))
noncomputable def f_added : Fn := bodyF 5 g_added
theorem ok_added (T : Tx K mg base cl) : FnOk P w K mg base (L2.CX P w) 1 T.a_added T.fd_added ["one", "other", "many"] (spF (gk K cl) 3 f_added) :=
  fn_ok (N := ["one", "other", "many", "mine", "its"]) (k := 0) (g := g_added) T.F_added sc_added fun cdv A outer s H vs E hr => (bj_one (sj_ret (ej_callTy call_tuple_of pr_tuple (by rfl) T.z_tuple (by decide +kernel) (oj_cons (lj_ex (ej_lc rfl sc_added.nd (ij_zip (by rfl) T.z_zip (lj_va (pv 0)) (lj_va (pv 1))) (blkOk_by (own := [("mine", 3), ("its", 4)]) (by kernel_rfl)) (fun _ _ _ _ _ => (gj_tup (is := [3, 4]) rfl (pgs_cons (pg_name (i := 3) sc_added.nd rfl (.inl rfl)) (pgs_cons (pg_name (i := 4) sc_added.nd rfl (.inl rfl)) pgs_nil)) rfl)) (fun _ _ _ _ _ => fj_nil) (fun _ _ _ _ _ => (ej_add (oj_cons (lj_va (pv 3)) (oj_cons (lj_ex (ej_mul (oj_cons (lj_va (pv 2)) (oj_cons (lj_va (pv 4)) oj_nil)))) oj_nil)))) (by decide))) oj_nil))))
noncomputable def c_reduced_0 : Sx := (xLc (con (.va 0)) (stN 7) (bT (xPrim [.ex (xPrim [.va 7, .va 1] pIx), .ex (xC (.int 0))] pNe)) (xVar 7) [7])
noncomputable def c_reduced_1 : Sx := (xLc (con (.va 0)) (stN 7) (bT (xPrim [.ex (xPrim [.va 7, .va 1] pIx), .ex (xC (.int 0))] pEq)) (xVar 7) [7])
noncomputable def c_reduced_2 : Sx := (xLc (con (.va 2)) (stN 7) bYes (xPrim [.ex (xPrim [.va 7, .va 1] pIx)] pAbs) [7])
noncomputable def c_reduced_3 : Sx := (xLc (con (.va 2)) (stN 7) (bT (xPrim [.ex (xPrim [.ex (xPrim [.va 7, .va 1] pIx)] pAbs), .va 4] pEq)) (xVar 7) [7])
noncomputable def c_reduced_4 : Sx := (xLc (con (.va 2)) (stN 7) bYes (xCall (permF [.arg 0, .arg 1, .arg 2] [0, 1, 2] f_added) [.va 7, .va 5, .ex (xPrim [.ex (xPrim [.ex (xPrim [.va 7, .va 1] pIx), .ex (xPrim [.va 5, .va 1] pIx)] pFdiv)] pNeg)]) [7])
noncomputable def c_reduced_5 : Sx := (xLc (con (.va 6)) (stN 7) (bT (xPrim [.ex (xPrim [.va 7, .va 1] pIx), .ex (xC (.int 0))] pEq)) (xVar 7) [7])
noncomputable def c_reduced_6 : Sx := (xLc (con (.va 6)) (stN 7) (bT (xPrim [.ex (xPrim [.va 7, .va 1] pIx), .ex (xC (.int 0))] pNe)) (xVar 7) [7])
noncomputable def w_reduced_7 : Ss := (sSeq (sSet 4 (xPrim [.ex c_reduced_2] pMinY))
    (sSeq (sSet 5 (xPrim [.ex c_reduced_3, .ex (xC (.int 0))] pIx))
    (sSeq (sEx (xMut1 2 mRem (xVar 5)))
    (sSeq (sSet 6 c_reduced_4)
    (sSeq (sEx (xMut1 3 mExt c_reduced_5))
    (sSet 2 (xPrim [.ex (xLst [(xVar 5)]), .ex c_reduced_6] pAdd)))))))
noncomputable def g_reduced : Ss := (sSeq (sSet 2 c_reduced_0)
    (sSeq (sSet 3 c_reduced_1)
    (sSeq (sWhile (fun ρ => szS ρ) (bT (xPrim [.ex (xPrim [.va 2] pLen), .ex (xC (.int 1))] pGt)) w_reduced_7)
    (sRet (xTup [(xVar 2), (xVar 3)])))))
noncomputable def f_reduced : Fn := bodyF 8 g_reduced
theorem ok_reduced (T : Tx K mg base cl) : FnOk P w K mg base (L2.CX P w) 2 T.a_reduced T.fd_reduced ["rows", "column"] (spF (gk K cl) 2 f_reduced) :=
  fn_ok (N := ["rows", "column", "some", "others", "least", "first", "later", "row"]) (k := 1) (g := g_reduced) T.F_reduced sc_reduced fun cdv A outer s H vs E hr => (bj_cons (sj_setLc (i := 2) rfl sc_reduced.nd rfl rfl (sw_true rfl rfl rfl (by decide +kernel)) (ij_seq (lj_va (pv 0))) (blkOk_by (own := [("row", 7)]) (by kernel_rfl)) (fun _ _ _ _ _ => (gj_name (i := 7) sc_reduced.nd rfl (.inl rfl))) (fun _ _ _ _ _ => (fj_one (tj_ne hr.units (oj_cons (lj_ex (ej_sbs (oj_cons (lj_va (pv 7)) (oj_cons (lj_va (pv 1)) oj_nil)))) (oj_cons (lj_ex ej_int) oj_nil))))) (fun _ _ _ _ _ => (ej_var (pv 7))) (by decide))
    (bj_cons (sj_setLc (i := 3) rfl sc_reduced.nd rfl rfl (sw_true rfl rfl rfl (by decide +kernel)) (ij_seq (lj_va (pv 0))) (blkOk_by (own := [("row", 7)]) (by kernel_rfl)) (fun _ _ _ _ _ => (gj_name (i := 7) sc_reduced.nd rfl (.inl rfl))) (fun _ _ _ _ _ => (fj_one (tj_eq hr.units (oj_cons (lj_ex (ej_sbs (oj_cons (lj_va (pv 7)) (oj_cons (lj_va (pv 1)) oj_nil)))) (oj_cons (lj_ex ej_int) oj_nil))))) (fun _ _ _ _ _ => (ej_var (pv 7))) (by decide))
    (bj_cons (sj_while (fun ρ => szS ρ) (passes_of rfl) (tj_gt (oj_cons (lj_ex (ej_callB call_len_seq pr_len (by rfl) T.z_len (by decide +kernel) (oj_cons (lj_va (pv 2)) oj_nil))) (oj_cons (lj_ex ej_int) oj_nil))) (bj_cons (sj_set (i := 4) sc_reduced.nd rfl (.inr rfl) (ej_callB (call_minY rfl hr.units) pr_minY (by rfl) T.z_min (by decide +kernel) (oj_cons (lj_ex (ej_lc rfl sc_reduced.nd (ij_seq (lj_va (pv 2))) (blkOk_by (own := [("row", 7)]) (by kernel_rfl)) (fun _ _ _ _ _ => (gj_name (i := 7) sc_reduced.nd rfl (.inl rfl))) (fun _ _ _ _ _ => fj_nil) (fun _ _ _ _ _ => (ej_callB call_abs pr_abs (by rfl) T.z_abs (by decide +kernel) (oj_cons (lj_ex (ej_sbs (oj_cons (lj_va (pv 7)) (oj_cons (lj_va (pv 1)) oj_nil)))) oj_nil))) (by decide))) oj_nil)))
    (bj_cons (sj_set (i := 5) sc_reduced.nd rfl (.inr rfl) (ej_sbs (oj_cons (lj_ex (ej_lc rfl sc_reduced.nd (ij_seq (lj_va (pv 2))) (blkOk_by (own := [("row", 7)]) (by kernel_rfl)) (fun _ _ _ _ _ => (gj_name (i := 7) sc_reduced.nd rfl (.inl rfl))) (fun _ _ _ _ _ => (fj_one (tj_eq hr.units (oj_cons (lj_ex (ej_callB call_abs pr_abs (by rfl) T.z_abs (by decide +kernel) (oj_cons (lj_ex (ej_sbs (oj_cons (lj_va (pv 7)) (oj_cons (lj_va (pv 1)) oj_nil)))) oj_nil))) (oj_cons (lj_va (pv 4)) oj_nil))))) (fun _ _ _ _ _ => (ej_var (pv 7))) (by decide))) (oj_cons (lj_ex ej_int) oj_nil))))
    (bj_cons (sj_ex (ej_mut1 (m := mRem) PySem.F.slot_list_remove PySem.F.type_list_remove (mt_removeD (u65 hr)) mut_rem ne_rem (pv 2) (ej_var (pv 5))))
    (bj_cons (sj_setLc (i := 6) rfl sc_reduced.nd rfl rfl (sw_true rfl rfl rfl (by decide +kernel)) (ij_seq (lj_va (pv 2))) (blkOk_by (own := [("row", 7)]) (by kernel_rfl)) (fun _ _ _ _ _ => (gj_name (i := 7) sc_reduced.nd rfl (.inl rfl))) (fun _ _ _ _ _ => fj_nil) (fun _ _ _ _ _ => (ej_callK (sel := [.arg 0, .arg 1, .arg 2]) (inv := [0, 1, 2]) (ok_added T) (hr.mono (by first | decide | omega)) (by rfl) T.m_added T.F_added.kp T.kb_added_2_many takes0 (.cons rfl (.cons rfl .nil)) (kj_cons (lj_va (pv 7)) (kj_cons (lj_va (pv 5)) (kj_cons (lj_ex (ej_neg (oj_cons (lj_ex (ej_fdiv (oj_cons (lj_ex (ej_sbs (oj_cons (lj_va (pv 7)) (oj_cons (lj_va (pv 1)) oj_nil)))) (oj_cons (lj_ex (ej_sbs (oj_cons (lj_va (pv 5)) (oj_cons (lj_va (pv 1)) oj_nil)))) oj_nil)))) oj_nil))) kj_nil))) (by decide))) (by decide))
    (bj_cons (sj_ex (ej_mut1 (m := mExt) PySem.F.slot_list_extend PySem.F.type_list_extend mt_extend mut_ext ne_ext (pv 3) (ej_lc rfl sc_reduced.nd (ij_seq (lj_va (pv 6))) (blkOk_by (own := [("row", 7)]) (by kernel_rfl)) (fun _ _ _ _ _ => (gj_name (i := 7) sc_reduced.nd rfl (.inl rfl))) (fun _ _ _ _ _ => (fj_one (tj_eq hr.units (oj_cons (lj_ex (ej_sbs (oj_cons (lj_va (pv 7)) (oj_cons (lj_va (pv 1)) oj_nil)))) (oj_cons (lj_ex ej_int) oj_nil))))) (fun _ _ _ _ _ => (ej_var (pv 7))) (by decide))))
    (bj_one (sj_set (i := 2) sc_reduced.nd rfl (.inl rfl) (ej_add (oj_cons (lj_ex (ej_lst (mj_cons (ej_var (pv 5)) mj_nil))) (oj_cons (lj_ex (ej_lc rfl sc_reduced.nd (ij_seq (lj_va (pv 6))) (blkOk_by (own := [("row", 7)]) (by kernel_rfl)) (fun _ _ _ _ _ => (gj_name (i := 7) sc_reduced.nd rfl (.inl rfl))) (fun _ _ _ _ _ => (fj_one (tj_ne hr.units (oj_cons (lj_ex (ej_sbs (oj_cons (lj_va (pv 7)) (oj_cons (lj_va (pv 1)) oj_nil)))) (oj_cons (lj_ex ej_int) oj_nil))))) (fun _ _ _ _ _ => (ej_var (pv 7))) (by decide))) oj_nil)))))))))))
    (bj_one (sj_ret (ej_tup (mj_cons (ej_var (pv 2)) (mj_cons (ej_var (pv 3)) mj_nil))))))))
noncomputable def c_unit_0 : Sx := (xLc (srcRng1 [.va 0]) (stN 2) bYes (xPrim [.ex (xPrim [.va 2, .va 1] pEq)] pInt) [2])
noncomputable def g_unit : Ss := (sRet (xPrim [.ex c_unit_0] pTuple))
noncomputable def f_unit : Fn := bodyF 3 g_unit
theorem ok_unit (T : Tx K mg base cl) : FnOk P w K mg base (L2.CX P w) 1 T.a_unit T.fd_unit ["many", "at"] (spF (gk K cl) 2 f_unit) :=
  fn_ok (N := ["many", "at", "k"]) (k := 0) (g := g_unit) T.F_unit sc_unit fun cdv A outer s H vs E hr => (bj_one (sj_ret (ej_callTy call_tuple_of pr_tuple (by rfl) T.z_tuple (by decide +kernel) (oj_cons (lj_ex (ej_lc rfl sc_unit.nd (ij_rng1 (by rfl) T.z_range (oj_cons (lj_va (pv 0)) oj_nil)) (blkOk_by (own := [("k", 2)]) (by kernel_rfl)) (fun _ _ _ _ _ => (gj_name (i := 2) sc_unit.nd rfl (.inl rfl))) (fun _ _ _ _ _ => fj_nil) (fun _ _ _ _ _ => (ej_callTy call_int1 pr_int (by rfl) T.z_int (by decide +kernel) (oj_cons (lj_ex (ej_eq hr.units (oj_cons (lj_va (pv 2)) (oj_cons (lj_va (pv 1)) oj_nil)))) oj_nil))) (by decide))) oj_nil))))
noncomputable def c_flipped_0 : Sx := (xLc (con (.va 0)) (stN 3) bYes (xPrim [.va 3, .va 2] pIx) [3])
noncomputable def c_flipped_1 : Sx := (xLc (srcRng1 [.va 1]) (stN 2) bYes (xPrim [.ex c_flipped_0] pTuple) [2])
noncomputable def g_flipped : Ss := (sRet c_flipped_1)
noncomputable def f_flipped : Fn := bodyF 4 g_flipped
theorem ok_flipped (T : Tx K mg base cl) : FnOk P w K mg base (L2.CX P w) 1 T.a_flipped T.fd_flipped ["rows", "wide"] (spF (gk K cl) 2 f_flipped) :=
  fn_ok (N := ["rows", "wide", "k", "row"]) (k := 0) (g := g_flipped) T.F_flipped sc_flipped fun cdv A outer s H vs E hr => (bj_one (sj_ret (ej_lc rfl sc_flipped.nd (ij_rng1 (by rfl) T.z_range (oj_cons (lj_va (pv 1)) oj_nil)) (blkOk_by (own := [("k", 2)]) (by kernel_rfl)) (fun _ _ _ _ _ => (gj_name (i := 2) sc_flipped.nd rfl (.inr rfl))) (fun _ _ _ _ _ => fj_nil) (fun _ _ _ _ _ => (ej_callTy call_tuple_of pr_tuple (by rfl) T.z_tuple (by decide +kernel) (oj_cons (lj_ex (ej_lc rfl sc_flipped.nd (ij_seq (lj_va (pv 0))) (blkOk_by (own := [("row", 3)]) (by kernel_rfl)) (fun _ _ _ _ _ => (gj_name (i := 3) sc_flipped.nd rfl (.inl rfl))) (fun _ _ _ _ _ => fj_nil) (fun _ _ _ _ _ => (ej_sbs (oj_cons (lj_va (pv 3)) (oj_cons (lj_va (pv 2)) oj_nil)))) (by decide))) oj_nil))) (by decide))))
noncomputable def c_turned_0 : Sx := (xLc (con (.va 0)) (stN 1) bYes (xPrim [.va 1] pNeg) [1])
noncomputable def g_turned : Ss := (sRet (xPrim [.ex c_turned_0] pTuple))
noncomputable def f_turned : Fn := bodyF 2 g_turned
theorem ok_turned (T : Tx K mg base cl) : FnOk P w K mg base (L2.CX P w) 1 T.a_turned T.fd_turned ["row"] (spF (gk K cl) 1 f_turned) :=
  fn_ok (N := ["row", "one"]) (k := 0) (g := g_turned) T.F_turned sc_turned fun cdv A outer s H vs E hr => (bj_one (sj_ret (ej_callTy call_tuple_of pr_tuple (by rfl) T.z_tuple (by decide +kernel) (oj_cons (lj_ex (ej_lc rfl sc_turned.nd (ij_seq (lj_va (pv 0))) (blkOk_by (own := [("one", 1)]) (by kernel_rfl)) (fun _ _ _ _ _ => (gj_name (i := 1) sc_turned.nd rfl (.inl rfl))) (fun _ _ _ _ _ => fj_nil) (fun _ _ _ _ _ => (ej_neg (oj_cons (lj_va (pv 1)) oj_nil))) (by decide))) oj_nil))))
noncomputable def c_stairs_of_0 : Sx := (xLc (srcEnum (.ex (xCall (permF [.arg 0, .arg 1] [0, 1] f_flipped) [.va 0, .va 1]))) (stT [7, 8]) bYes (xPrim [.va 8, .ex (xCall f_unit [.va 1, .va 7])] pAdd) [7, 8])
noncomputable def l_stairs_of_1 : Ss := (sApp 2 (xTup [(xVar 4), (xIf (bT (xPrim [.ex (xPrim [.va 5, .va 4] pIx), .ex (xC (.int 0))] pGt)) (xVar 5) (xCall f_turned [.va 5]))]))
noncomputable def l_stairs_of_2 : Ss := (sSeq (sTup [6, 3] (xCall f_reduced [.va 3, .va 4]))
    (sFor (conF 6) (stN 5) l_stairs_of_1))
noncomputable def g_stairs_of : Ss := (sSeq (sSet 2 (xLst []))
    (sSeq (sSet 3 c_stairs_of_0)
    (sSeq (sFor (srcRng1 [.ex (xPrim [.va 0] pLen)]) (stN 4) l_stairs_of_2)
    (sRetV 2))))
noncomputable def f_stairs_of : Fn := bodyF 9 g_stairs_of
theorem ok_stairs_of (T : Tx K mg base cl) : FnOk P w K mg base (L2.CX P w) 3 T.a_stairs_of T.fd_stairs_of ["rows", "wide"] (spF (gk K cl) 2 f_stairs_of) :=
  fn_ok (N := ["rows", "wide", "found", "left", "head", "first", "some", "at", "column"]) (k := 2) (g := g_stairs_of) T.F_stairs_of sc_stairs_of fun cdv A outer s H vs E hr => (bj_cons (sj_set (i := 2) sc_stairs_of.nd rfl (.inl rfl) (ej_lst mj_nil))
    (bj_cons (sj_setLc (i := 3) rfl sc_stairs_of.nd rfl rfl (sw_true rfl rfl rfl (by decide +kernel)) (ij_enum (by rfl) T.z_enumerate (lj_ex (ej_callK (sel := [.arg 0, .arg 1]) (inv := [0, 1]) (ok_flipped T) (hr.mono (by first | decide | omega)) (by rfl) T.m_flipped T.F_flipped.kp T.kb_flipped_1_wide (takes_of rfl rfl rfl rfl) (.cons rfl .nil) (kj_cons (lj_va (pv 0)) (kj_cons (lj_va (pv 1)) kj_nil)) (by decide)))) (blkOk_by (own := [("at", 7), ("column", 8)]) (by kernel_rfl)) (fun _ _ _ _ _ => (gj_tup (is := [7, 8]) rfl (pgs_cons (pg_name (i := 7) sc_stairs_of.nd rfl (.inl rfl)) (pgs_cons (pg_name (i := 8) sc_stairs_of.nd rfl (.inl rfl)) pgs_nil)) rfl)) (fun _ _ _ _ _ => fj_nil) (fun _ _ _ _ _ => (ej_add (oj_cons (lj_va (pv 8)) (oj_cons (lj_ex (ej_call (ok_unit T) (hr.mono (by first | decide | omega)) (by rfl) T.m_unit T.F_unit.kp T.b_unit takes0 (kj_cons (lj_va (pv 1)) (kj_cons (lj_va (pv 7)) kj_nil)) rfl)) oj_nil)))) (by decide))
    (bj_cons (sj_for (passes_of rfl) rfl (ij_rng1 (by rfl) T.z_range (oj_cons (lj_ex (ej_callB call_len_seq pr_len (by rfl) T.z_len (by decide +kernel) (oj_cons (lj_va (pv 0)) oj_nil))) oj_nil)) (gj_name (i := 4) sc_stairs_of.nd rfl (.inl rfl)) (bj_cons (sj_tup (is := [6, 3]) rfl (pgs_cons (pg_name (i := 6) sc_stairs_of.nd rfl (.inl rfl)) (pgs_cons (pg_name (i := 3) sc_stairs_of.nd rfl (.inl rfl)) pgs_nil)) (ej_call (ok_reduced T) (hr.mono (by first | decide | omega)) (by rfl) T.m_reduced T.F_reduced.kp T.b_reduced (takes_of rfl rfl rfl rfl) (kj_cons (lj_va (pv 3)) (kj_cons (lj_va (pv 4)) kj_nil)) rfl) rfl)
    (bj_one (sj_for (passes_of rfl) rfl (ij_seqC (cj_F (pv 6))) (gj_name (i := 5) sc_stairs_of.nd rfl (.inl rfl)) (bj_one (sj_app (pv 2) (ej_tup (mj_cons (ej_var (pv 4)) (mj_cons (ej_if (tj_gt (oj_cons (lj_ex (ej_sbs (oj_cons (lj_va (pv 5)) (oj_cons (lj_va (pv 4)) oj_nil)))) (oj_cons (lj_ex ej_int) oj_nil))) (ej_var (pv 5)) (ej_call (ok_turned T) (hr.mono (by first | decide | omega)) (by rfl) T.m_turned T.F_turned.kp T.b_turned (takes_of rfl rfl rfl rfl) (kj_cons (lj_va (pv 5)) kj_nil) rfl)) mj_nil)))))))))
    (bj_one (sj_retV (pv 2))))))
noncomputable def l_gone_down_0 : Ss := (sSet 3 (xCall (permF [.arg 0, .arg 1, .arg 2] [0, 1, 2] f_added) [.va 3, .va 5, .ex (xPrim [.ex (xPrim [.ex (xPrim [.va 3, .va 4] pIx), .ex (xPrim [.va 5, .va 4] pIx)] pFdiv)] pNeg)]))
noncomputable def g_gone_down : Ss := (sSeq (sSet 3 (xPrim [.va 0, .ex (xPrim [.ex (xTup [(xC (.int 0))]), .va 2] pMul)] pAdd))
    (sSeq (sFor (conF 1) (stT [4, 5]) l_gone_down_0)
    (sRet (xTup [(xPrim [.va 3, .ex (xPrim [.va 0] pLen)] pSlHi), (xCall f_turned [.ex (xPrim [.va 3, .ex (xPrim [.va 0] pLen)] pSlLo)])]))))
noncomputable def f_gone_down : Fn := bodyF 6 g_gone_down
theorem ok_gone_down (T : Tx K mg base cl) : FnOk P w K mg base (L2.CX P w) 2 T.a_gone_down T.fd_gone_down ["side", "stairs", "wide"] (spF (gk K cl) 3 f_gone_down) :=
  fn_ok (N := ["side", "stairs", "wide", "left", "head", "row"]) (k := 1) (g := g_gone_down) T.F_gone_down sc_gone_down fun cdv A outer s H vs E hr => (bj_cons (sj_set (i := 3) sc_gone_down.nd rfl (.inl rfl) (ej_add (oj_cons (lj_va (pv 0)) (oj_cons (lj_ex (ej_mul (oj_cons (lj_ex (ej_tup (mj_cons ej_int mj_nil))) (oj_cons (lj_va (pv 2)) oj_nil)))) oj_nil))))
    (bj_cons (sj_for (passes_of rfl) rfl (ij_seqC (cj_F (pv 1))) (gj_tup (is := [4, 5]) rfl (pgs_cons (pg_name (i := 4) sc_gone_down.nd rfl (.inl rfl)) (pgs_cons (pg_name (i := 5) sc_gone_down.nd rfl (.inl rfl)) pgs_nil)) rfl) (bj_one (sj_set (i := 3) sc_gone_down.nd rfl (.inl rfl) (ej_callK (sel := [.arg 0, .arg 1, .arg 2]) (inv := [0, 1, 2]) (ok_added T) (hr.mono (by first | decide | omega)) (by rfl) T.m_added T.F_added.kp T.kb_added_2_many (takes_of rfl rfl rfl rfl) (.cons rfl (.cons rfl .nil)) (kj_cons (lj_va (pv 3)) (kj_cons (lj_va (pv 5)) (kj_cons (lj_ex (ej_neg (oj_cons (lj_ex (ej_fdiv (oj_cons (lj_ex (ej_sbs (oj_cons (lj_va (pv 3)) (oj_cons (lj_va (pv 4)) oj_nil)))) (oj_cons (lj_ex (ej_sbs (oj_cons (lj_va (pv 5)) (oj_cons (lj_va (pv 4)) oj_nil)))) oj_nil)))) oj_nil))) kj_nil))) (by decide)))))
    (bj_one (sj_ret (ej_tup (mj_cons (ej_slHi (oj_cons (lj_va (pv 3)) (oj_cons (lj_ex (ej_callB call_len_seq pr_len (by rfl) T.z_len (by decide +kernel) (oj_cons (lj_va (pv 0)) oj_nil))) oj_nil))) (mj_cons (ej_call (ok_turned T) (hr.mono (by first | decide | omega)) (by rfl) T.m_turned T.F_turned.kp T.b_turned (takes_of rfl rfl rfl rfl) (kj_cons (lj_ex (ej_slLo (oj_cons (lj_va (pv 3)) (oj_cons (lj_ex (ej_callB call_len_seq pr_len (by rfl) T.z_len (by decide +kernel) (oj_cons (lj_va (pv 0)) oj_nil))) oj_nil)))) kj_nil) rfl) mj_nil)))))))
noncomputable def c_dot_0 : Sx := (xLc (srcZip (.va 0) (.va 1)) (stT [2, 3]) bYes (xPrim [.va 2, .va 3] pMul) [2, 3])
noncomputable def g_dot : Ss := (sRet (xPrim [.ex c_dot_0] pSum))
noncomputable def f_dot : Fn := bodyF 4 g_dot
theorem ok_dot (T : Tx K mg base cl) : FnOk P w K mg base (L2.CX P w) 1 T.a_dot T.fd_dot ["one", "other"] (spF (gk K cl) 2 f_dot) :=
  fn_ok (N := ["one", "other", "mine", "its"]) (k := 0) (g := g_dot) T.F_dot sc_dot fun cdv A outer s H vs E hr => (bj_one (sj_ret (ej_callB (cr_sum rfl) pr_sum (by rfl) T.z_sum (by decide +kernel) (oj_cons (lj_ex (ej_lc rfl sc_dot.nd (ij_zip (by rfl) T.z_zip (lj_va (pv 0)) (lj_va (pv 1))) (blkOk_by (own := [("mine", 2), ("its", 3)]) (by kernel_rfl)) (fun _ _ _ _ _ => (gj_tup (is := [2, 3]) rfl (pgs_cons (pg_name (i := 2) sc_dot.nd rfl (.inl rfl)) (pgs_cons (pg_name (i := 3) sc_dot.nd rfl (.inl rfl)) pgs_nil)) rfl)) (fun _ _ _ _ _ => fj_nil) (fun _ _ _ _ _ => (ej_mul (oj_cons (lj_va (pv 2)) (oj_cons (lj_va (pv 3)) oj_nil)))) (by decide))) oj_nil))))
noncomputable def c_bar_of_0 : Sx := (xLc (srcEnum (.va 1)) (stT [8, 10]) (bT (xPrim [.va 10, .ex (xC (.int 0))] pNe)) (xVar 8) [8, 10])
noncomputable def l_bar_of_1 : Ss := (sIf (bT (xPrim [.va 6, .va 3] pEq)) (sSet 4 (xPrim [.va 7, .va 6] pIx)) sNil)
noncomputable def c_bar_of_2 : Sx := (xLc (srcRng1 [.ex (xPrim [.va 0] pLen)]) (stN 8) bYes (xPrim [.ex (xPrim [.va 8, .va 3] pEq)] pInt) [8])
noncomputable def c_bar_of_3 : Sx := (xLc (srcRng2 [.ex (xPrim [.va 6, .ex (xC (.int 1))] pAdd), .ex (xPrim [.va 3, .ex (xC (.int 1))] pAdd)]) (stN 8) bYes (xPrim [.ex (xPrim [.va 5, .va 8] pIx), .ex (xPrim [.va 7, .va 8] pIx)] pMul) [8])
noncomputable def c_bar_of_4 : Sx := (xLc (con (.va 5)) (stN 10) bYes (xPrim [.va 10, .ex (xPrim [.va 7, .va 6] pIx)] pMul) [10])
noncomputable def l_bar_of_5 : Ss := (sIf (bT (xPrim [.va 6, .va 3] pLt)) (sSeq (sSet 9 (xPrim [.ex (xPrim [.ex c_bar_of_3] pSum)] pNeg))
    (sSeq (sSet 5 c_bar_of_4)
    (sSeq (sStore 5 (xVar 9) (.va 6))
    (sSet 4 (xPrim [.va 4, .ex (xPrim [.va 7, .va 6] pIx)] pMul))))) sNil)
noncomputable def c_bar_of_6 : Sx := (xLc (con (.va 2)) (stT [6, 7]) bYes (xPrim [.va 6, .va 3] pNe) [6, 7])
noncomputable def c_bar_of_7 : Sx := (xLc (con (.va 5)) (stN 10) bYes (xPrim [.va 10, .va 4] pMod) [10])
noncomputable def g_bar_of : Ss := (sSeq (sSet 3 (xPrim [.ex c_bar_of_0, .ex (xC (.int 0))] pIx))
    (sSeq (sSet 4 (xC (.int 1)))
    (sSeq (sFor (conF 2) (stT [6, 7]) l_bar_of_1)
    (sSeq (sSet 5 c_bar_of_2)
    (sSeq (sFor (revS (conF 2)) (stT [6, 7]) l_bar_of_5)
    (sSeq (sIf (bTru [.ex (xPrim [.ex c_bar_of_6] pAll)]) (sSet 4 (xPrim [.ex (xPrim [.ex (xCall f_dot [.va 5, .va 0])] pAbs), .ex (xC (.int 1))] pAdd)) sNil)
    (sRet (xTup [(xVar 4), (xPrim [.ex c_bar_of_7] pTuple)]))))))))
noncomputable def f_bar_of : Fn := bodyF 11 g_bar_of
theorem ok_bar_of (T : Tx K mg base cl) : FnOk P w K mg base (L2.CX P w) 2 T.a_bar_of T.fd_bar_of ["side", "rest", "stairs"] (spF (gk K cl) 3 f_bar_of) :=
  fn_ok (N := ["side", "rest", "stairs", "spot", "many", "shares", "head", "row", "k", "due", "one"]) (k := 1) (g := g_bar_of) T.F_bar_of sc_bar_of fun cdv A outer s H vs E hr => (bj_cons (sj_set (i := 3) sc_bar_of.nd rfl (.inr rfl) (ej_sbs (oj_cons (lj_ex (ej_lc rfl sc_bar_of.nd (ij_enum (by rfl) T.z_enumerate (lj_va (pv 1))) (blkOk_by (own := [("k", 8), ("one", 10)]) (by kernel_rfl)) (fun _ _ _ _ _ => (gj_tup (is := [8, 10]) rfl (pgs_cons (pg_name (i := 8) sc_bar_of.nd rfl (.inl rfl)) (pgs_cons (pg_name (i := 10) sc_bar_of.nd rfl (.inl rfl)) pgs_nil)) rfl)) (fun _ _ _ _ _ => (fj_one (tj_ne hr.units (oj_cons (lj_va (pv 10)) (oj_cons (lj_ex ej_int) oj_nil))))) (fun _ _ _ _ _ => (ej_var (pv 8))) (by decide))) (oj_cons (lj_ex ej_int) oj_nil))))
    (bj_cons (sj_set (i := 4) sc_bar_of.nd rfl (.inr rfl) ej_int)
    (bj_cons (sj_for (passes_of rfl) rfl (ij_seqC (cj_F (pv 2))) (gj_tup (is := [6, 7]) rfl (pgs_cons (pg_name (i := 6) sc_bar_of.nd rfl (.inr rfl)) (pgs_cons (pg_name (i := 7) sc_bar_of.nd rfl (.inr rfl)) pgs_nil)) rfl) (bj_one (sj_if (tj_eq hr.units (oj_cons (lj_va (pv 6)) (oj_cons (lj_va (pv 3)) oj_nil))) (bj_one (sj_set (i := 4) sc_bar_of.nd rfl (.inr rfl) (ej_sbs (oj_cons (lj_va (pv 7)) (oj_cons (lj_va (pv 6)) oj_nil))))) bj_nil)))
    (bj_cons (sj_set (i := 5) sc_bar_of.nd rfl (.inr rfl) (ej_lc rfl sc_bar_of.nd (ij_rng1 (by rfl) T.z_range (oj_cons (lj_ex (ej_callB call_len_seq pr_len (by rfl) T.z_len (by decide +kernel) (oj_cons (lj_va (pv 0)) oj_nil))) oj_nil)) (blkOk_by (own := [("k", 8)]) (by kernel_rfl)) (fun _ _ _ _ _ => (gj_name (i := 8) sc_bar_of.nd rfl (.inl rfl))) (fun _ _ _ _ _ => fj_nil) (fun _ _ _ _ _ => (ej_callTy call_int1 pr_int (by rfl) T.z_int (by decide +kernel) (oj_cons (lj_ex (ej_eq hr.units (oj_cons (lj_va (pv 8)) (oj_cons (lj_va (pv 3)) oj_nil)))) oj_nil))) (by decide)))
    (bj_cons (sj_for (passes_of rfl) rfl (ij_revC (by rfl) T.z_reversed (cj_F (pv 2))) (gj_tup (is := [6, 7]) rfl (pgs_cons (pg_name (i := 6) sc_bar_of.nd rfl (.inr rfl)) (pgs_cons (pg_name (i := 7) sc_bar_of.nd rfl (.inr rfl)) pgs_nil)) rfl) (bj_one (sj_if (tj_lt (oj_cons (lj_va (pv 6)) (oj_cons (lj_va (pv 3)) oj_nil))) (bj_cons (sj_set (i := 9) sc_bar_of.nd rfl (.inl rfl) (ej_neg (oj_cons (lj_ex (ej_callB (cr_sum rfl) pr_sum (by rfl) T.z_sum (by decide +kernel) (oj_cons (lj_ex (ej_lc rfl sc_bar_of.nd (ij_rng2 (by rfl) T.z_range (oj_cons (lj_ex (ej_add (oj_cons (lj_va (pv 6)) (oj_cons (lj_ex ej_int) oj_nil)))) (oj_cons (lj_ex (ej_add (oj_cons (lj_va (pv 3)) (oj_cons (lj_ex ej_int) oj_nil)))) oj_nil))) (blkOk_by (own := [("k", 8)]) (by kernel_rfl)) (fun _ _ _ _ _ => (gj_name (i := 8) sc_bar_of.nd rfl (.inl rfl))) (fun _ _ _ _ _ => fj_nil) (fun _ _ _ _ _ => (ej_mul (oj_cons (lj_ex (ej_sbs (oj_cons (lj_va (pv 5)) (oj_cons (lj_va (pv 8)) oj_nil)))) (oj_cons (lj_ex (ej_sbs (oj_cons (lj_va (pv 7)) (oj_cons (lj_va (pv 8)) oj_nil)))) oj_nil)))) (by decide))) oj_nil))) oj_nil)))
    (bj_cons (sj_set (i := 5) sc_bar_of.nd rfl (.inr rfl) (ej_lc rfl sc_bar_of.nd (ij_seq (lj_va (pv 5))) (blkOk_by (own := [("one", 10)]) (by kernel_rfl)) (fun _ _ _ _ _ => (gj_name (i := 10) sc_bar_of.nd rfl (.inl rfl))) (fun _ _ _ _ _ => fj_nil) (fun _ _ _ _ _ => (ej_mul (oj_cons (lj_va (pv 10)) (oj_cons (lj_ex (ej_sbs (oj_cons (lj_va (pv 7)) (oj_cons (lj_va (pv 6)) oj_nil)))) oj_nil)))) (by decide)))
    (bj_cons (sj_store (pv 5) (oj_cons (lj_va (pv 6)) oj_nil) (ej_var (pv 9)))
    (bj_one (sj_set (i := 4) sc_bar_of.nd rfl (.inr rfl) (ej_mul (oj_cons (lj_va (pv 4)) (oj_cons (lj_ex (ej_sbs (oj_cons (lj_va (pv 7)) (oj_cons (lj_va (pv 6)) oj_nil)))) oj_nil)))))))) bj_nil)))
    (bj_cons (sj_if (tj_tru (oj_cons (lj_ex (ej_callB (cr_allK rfl) (pr_anyK _) (by rfl) T.z_all (by decide +kernel) (oj_cons (lj_ex (ej_lc rfl sc_bar_of.nd (ij_seq (lj_va (pv 2))) (blkOk_by (own := [("head", 6), ("row", 7)]) (by kernel_rfl)) (fun _ _ _ _ _ => (gj_tup (is := [6, 7]) rfl (pgs_cons (pg_name (i := 6) sc_bar_of.nd rfl (.inl rfl)) (pgs_cons (pg_name (i := 7) sc_bar_of.nd rfl (.inl rfl)) pgs_nil)) rfl)) (fun _ _ _ _ _ => fj_nil) (fun _ _ _ _ _ => (ej_ne hr.units (oj_cons (lj_va (pv 6)) (oj_cons (lj_va (pv 3)) oj_nil)))) (by decide))) oj_nil))) oj_nil)) (bj_one (sj_set (i := 4) sc_bar_of.nd rfl (.inr rfl) (ej_add (oj_cons (lj_ex (ej_callB call_abs pr_abs (by rfl) T.z_abs (by decide +kernel) (oj_cons (lj_ex (ej_call (ok_dot T) (hr.mono (by first | decide | omega)) (by rfl) T.m_dot T.F_dot.kp T.b_dot (takes_of rfl rfl rfl rfl) (kj_cons (lj_va (pv 5)) (kj_cons (lj_va (pv 0)) kj_nil)) rfl)) oj_nil))) (oj_cons (lj_ex ej_int) oj_nil))))) bj_nil)
    (bj_one (sj_ret (ej_tup (mj_cons (ej_var (pv 4)) (mj_cons (ej_callTy call_tuple_of pr_tuple (by rfl) T.z_tuple (by decide +kernel) (oj_cons (lj_ex (ej_lc rfl sc_bar_of.nd (ij_seq (lj_va (pv 5))) (blkOk_by (own := [("one", 10)]) (by kernel_rfl)) (fun _ _ _ _ _ => (gj_name (i := 10) sc_bar_of.nd rfl (.inl rfl))) (fun _ _ _ _ _ => fj_nil) (fun _ _ _ _ _ => (ej_mod (oj_cons (lj_va (pv 10)) (oj_cons (lj_va (pv 4)) oj_nil)))) (by decide))) oj_nil)) mj_nil)))))))))))
noncomputable def g_any_way : Ss := (sSeq (sEx (xCall f_check_side [.va 0, .va 1, .va 2]))
    (sSeq (sSet 3 (xCall f_stairs_of [.va 0, .va 2]))
    (sSeq (sTup [4, 5] (xCall f_gone_down [.va 1, .va 3, .va 2]))
    (sSeq (sIf (bTru [.ex (xPrim [.va 4] pAny)]) (sRet (xTup [(xC (.str "none")), (xCall f_bar_of [.va 1, .va 4, .va 3])])) sNil)
    (sRet (xTup [(xC (.str "some")), (xVar 5)]))))))
noncomputable def f_any_way : Fn := bodyF 6 g_any_way
theorem ok_any_way (T : Tx K mg base cl) : FnOk P w K mg base (L2.CX P w) 5 T.a_any_way T.fd_any_way ["rows", "side", "wide"] (spF (gk K cl) 3 f_any_way) :=
  fn_ok (N := ["rows", "side", "wide", "stairs", "rest", "vector"]) (k := 4) (g := g_any_way) T.F_any_way sc_any_way fun cdv A outer s H vs E hr => (bj_cons (sj_ex (ej_call (ok_check_side T) (hr.mono (by first | decide | omega)) (by rfl) T.m_check_side T.F_check_side.kp T.b_check_side (takes_of rfl rfl rfl rfl) (kj_cons (lj_va (pv 0)) (kj_cons (lj_va (pv 1)) (kj_cons (lj_va (pv 2)) kj_nil))) rfl))
    (bj_cons (sj_set (i := 3) sc_any_way.nd rfl (.inl rfl) (ej_call (ok_stairs_of T) (hr.mono (by first | decide | omega)) (by rfl) T.m_stairs_of T.F_stairs_of.kp T.b_stairs_of (takes_of rfl rfl rfl rfl) (kj_cons (lj_va (pv 0)) (kj_cons (lj_va (pv 2)) kj_nil)) rfl))
    (bj_cons (sj_tup (is := [4, 5]) rfl (pgs_cons (pg_name (i := 4) sc_any_way.nd rfl (.inl rfl)) (pgs_cons (pg_name (i := 5) sc_any_way.nd rfl (.inl rfl)) pgs_nil)) (ej_call (ok_gone_down T) (hr.mono (by first | decide | omega)) (by rfl) T.m_gone_down T.F_gone_down.kp T.b_gone_down (takes_of rfl rfl rfl rfl) (kj_cons (lj_va (pv 1)) (kj_cons (lj_va (pv 3)) (kj_cons (lj_va (pv 2)) kj_nil))) rfl) rfl)
    (bj_cons (sj_if (tj_tru (oj_cons (lj_ex (ej_callB (cr_anyK rfl) (pr_anyK _) (by rfl) T.z_any (by decide +kernel) (oj_cons (lj_va (pv 4)) oj_nil))) oj_nil)) (bj_one (sj_ret (ej_tup (mj_cons ej_str (mj_cons (ej_call (ok_bar_of T) (hr.mono (by first | decide | omega)) (by rfl) T.m_bar_of T.F_bar_of.kp T.b_bar_of (takes_of rfl rfl rfl rfl) (kj_cons (lj_va (pv 1)) (kj_cons (lj_va (pv 4)) (kj_cons (lj_va (pv 3)) kj_nil))) rfl) mj_nil))))) bj_nil)
    (bj_one (sj_ret (ej_tup (mj_cons ej_str (mj_cons (ej_var (pv 5)) mj_nil)))))))))
noncomputable def b_is_bar_0 : Sb := (bOr (bNot (bTru [.ex (xPrim [.va 0] (pIsi .tuple))])) (bOr (bT (xPrim [.ex (xPrim [.va 0] pLen), .ex (xC (.int 2))] pNe)) (bOr (bNot (bTru [.ex (xCall f_is_whole [.ex (xPrim [.va 0, .ex (xC (.int 0))] pIx)])])) (bT (xPrim [.ex (xPrim [.va 0, .ex (xC (.int 0))] pIx), .ex (xC (.int 2))] pLt)))))
noncomputable def c_is_bar_0 : Sx := (xLc (con (.ex (xPrim [.va 0, .ex (xC (.int 1))] pIx))) (stN 2) bYes (xChain (fun i j => decide (i ≤ j)) (fun i j => decide (i < j)) [.ex (xC (.int 0)), .va 2] [.ex (xPrim [.va 0, .ex (xC (.int 0))] pIx)]) [2])
noncomputable def g_is_bar : Ss := (sSeq (sIf b_is_bar_0 (sRet (xC (.bl false))) sNil)
    (sRet (xAnd (xCall f_is_row [.ex (xPrim [.va 0, .ex (xC (.int 1))] pIx), .va 1]) (xPrim [.ex c_is_bar_0] pAll))))
noncomputable def f_is_bar : Fn := bodyF 3 g_is_bar
theorem ok_is_bar (T : Tx K mg base cl) : FnOk P w K mg base (L2.CX P w) 3 T.a_is_bar T.fd_is_bar ["thing", "many"] (spF (gk K cl) 2 f_is_bar) :=
  fn_ok (N := ["thing", "many", "one"]) (k := 2) (g := g_is_bar) T.F_is_bar sc_is_bar fun cdv A outer s H vs E hr => (bj_cons (sj_if (WJ.tj (wj_or (tj_not (tj_tru (oj_cons (lj_ex (ej_isi (t := .tuple) T.z_isinstance (by rfl) (oj_cons (lj_va (pv 0)) oj_nil) (pe_bltn (v := .ty "tuple") (by rfl) T.z_tuple (by decide +kernel) rfl))) oj_nil))) (wj_or (tj_ne hr.units (oj_cons (lj_ex (ej_callB call_len_seq pr_len (by rfl) T.z_len (by decide +kernel) (oj_cons (lj_va (pv 0)) oj_nil))) (oj_cons (lj_ex ej_int) oj_nil))) (wj_or (tj_not (tj_tru (oj_cons (lj_ex (ej_call (ok_is_whole T) (hr.mono (by first | decide | omega)) (by rfl) T.m_is_whole T.F_is_whole.kp T.b_is_whole (takes_of rfl rfl rfl rfl) (kj_cons (lj_ex (ej_sbs (oj_cons (lj_va (pv 0)) (oj_cons (lj_ex ej_int) oj_nil)))) kj_nil) rfl)) oj_nil))) (wj_or1 (tj_lt (oj_cons (lj_ex (ej_sbs (oj_cons (lj_va (pv 0)) (oj_cons (lj_ex ej_int) oj_nil)))) (oj_cons (lj_ex ej_int) oj_nil)))))))) (bj_one (sj_ret ej_bl)) bj_nil)
    (bj_one (sj_ret (ej_and (ej_call (ok_is_row T) (hr.mono (by first | decide | omega)) (by rfl) T.m_is_row T.F_is_row.kp T.b_is_row (takes_of rfl rfl rfl rfl) (kj_cons (lj_ex (ej_sbs (oj_cons (lj_va (pv 0)) (oj_cons (lj_ex ej_int) oj_nil)))) (kj_cons (lj_va (pv 1)) kj_nil)) rfl) (ej_one (ej_callB (cr_allK rfl) (pr_anyK _) (by rfl) T.z_all (by decide +kernel) (oj_cons (lj_ex (ej_lc rfl sc_is_bar.nd (ij_seq (lj_ex (ej_sbs (oj_cons (lj_va (pv 0)) (oj_cons (lj_ex ej_int) oj_nil))))) (blkOk_by (own := [("one", 2)]) (by kernel_rfl)) (fun _ _ _ _ _ => (gj_name (i := 2) sc_is_bar.nd rfl (.inl rfl))) (fun _ _ _ _ _ => fj_nil) (fun _ _ _ _ _ => (ej_chain (g1 := (fun i j => decide (i ≤ j))) (g2 := (fun i j => decide (i < j))) op_le op_lt (oj_cons (lj_ex ej_int) (oj_cons (lj_va (pv 2)) oj_nil)) (oj_cons (lj_ex (ej_sbs (oj_cons (lj_va (pv 0)) (oj_cons (lj_ex ej_int) oj_nil)))) oj_nil))) (by decide))) oj_nil)))))))
noncomputable def l_check_bar_0 : Ss := (sIf (bT (xPrim [.ex (xPrim [.ex (xCall f_dot [.va 5, .va 7]), .va 4] pMod), .ex (xC (.int 0))] pNe)) (sRaiseS "NoPaper" "where" "at" "bar" (xVar 6)) sNil)
noncomputable def g_check_bar : Ss := (sSeq (sIf (bNot (bTru [.ex (xCall f_is_bar [.va 3, .ex (xPrim [.va 0] pLen)])])) (sRaiseS "NoPaper" "where" "at" "bar" (xPrim [.ex (xC (.int 1))] pNeg)) sNil)
    (sSeq (sTup [4, 5] (xVar 3))
    (sSeq (sFor (srcEnum (.ex (xCall (permF [.arg 0, .arg 1] [0, 1] f_flipped) [.va 0, .va 2]))) (stT [6, 7]) l_check_bar_0)
    (sIf (bT (xPrim [.ex (xPrim [.ex (xCall f_dot [.va 5, .va 1]), .va 4] pMod), .ex (xC (.int 0))] pEq)) (sRaiseS "NoPaper" "where" "at" "bar" (xVar 2)) sNil))))
noncomputable def f_check_bar : Fn := bodyF 8 g_check_bar
theorem ok_check_bar (T : Tx K mg base cl) : FnOk P w K mg base (L2.CX P w) 4 T.a_check_bar T.fd_check_bar ["rows", "side", "wide", "bar"] (spF (gk K cl) 4 f_check_bar) :=
  fn_ok (N := ["rows", "side", "wide", "bar", "many", "shares", "at", "column"]) (k := 3) (g := g_check_bar) T.F_check_bar sc_check_bar fun cdv A outer s H vs E hr => (bj_cons (sj_if (tj_not (tj_tru (oj_cons (lj_ex (ej_call (ok_is_bar T) (hr.mono (by first | decide | omega)) (by rfl) T.m_is_bar T.F_is_bar.kp T.b_is_bar (takes_of rfl rfl rfl rfl) (kj_cons (lj_va (pv 3)) (kj_cons (lj_ex (ej_callB call_len_seq pr_len (by rfl) T.z_len (by decide +kernel) (oj_cons (lj_va (pv 0)) oj_nil))) kj_nil)) rfl)) oj_nil))) (bj_one (sj_raiseS rfl (takes_of rfl rfl rfl rfl) T.x_NoPaper.oex (T.x_NoPaper.nf _ (by decide)) (T.x_NoPaper.nf _ (by decide)) T.x_NoPaper.iC T.x_NoPaper.tI (ok_NoPaper_init T) (hr.mono (by first | decide | omega)) T.bi_NoPaper (passF (takes_of rfl rfl rfl rfl)) (by rfl) T.x_NoPaper.m (ej_neg (oj_cons (lj_ex ej_int) oj_nil)))) bj_nil)
    (bj_cons (sj_tup (is := [4, 5]) rfl (pgs_cons (pg_name (i := 4) sc_check_bar.nd rfl (.inl rfl)) (pgs_cons (pg_name (i := 5) sc_check_bar.nd rfl (.inl rfl)) pgs_nil)) (ej_var (pv 3)) rfl)
    (bj_cons (sj_for (passes_of rfl) rfl (ij_enum (by rfl) T.z_enumerate (lj_ex (ej_callK (sel := [.arg 0, .arg 1]) (inv := [0, 1]) (ok_flipped T) (hr.mono (by first | decide | omega)) (by rfl) T.m_flipped T.F_flipped.kp T.kb_flipped_1_wide (takes_of rfl rfl rfl rfl) (.cons rfl .nil) (kj_cons (lj_va (pv 0)) (kj_cons (lj_va (pv 2)) kj_nil)) (by decide)))) (gj_tup (is := [6, 7]) rfl (pgs_cons (pg_name (i := 6) sc_check_bar.nd rfl (.inl rfl)) (pgs_cons (pg_name (i := 7) sc_check_bar.nd rfl (.inl rfl)) pgs_nil)) rfl) (bj_one (sj_if (tj_ne hr.units (oj_cons (lj_ex (ej_mod (oj_cons (lj_ex (ej_call (ok_dot T) (hr.mono (by first | decide | omega)) (by rfl) T.m_dot T.F_dot.kp T.b_dot (takes_of rfl rfl rfl rfl) (kj_cons (lj_va (pv 5)) (kj_cons (lj_va (pv 7)) kj_nil)) rfl)) (oj_cons (lj_va (pv 4)) oj_nil)))) (oj_cons (lj_ex ej_int) oj_nil))) (bj_one (sj_raiseS rfl (takes_of rfl rfl rfl rfl) T.x_NoPaper.oex (T.x_NoPaper.nf _ (by decide)) (T.x_NoPaper.nf _ (by decide)) T.x_NoPaper.iC T.x_NoPaper.tI (ok_NoPaper_init T) (hr.mono (by first | decide | omega)) T.bi_NoPaper (passF (takes_of rfl rfl rfl rfl)) (by rfl) T.x_NoPaper.m (ej_var (pv 6)))) bj_nil)))
    (bj_one (sj_if (tj_eq hr.units (oj_cons (lj_ex (ej_mod (oj_cons (lj_ex (ej_call (ok_dot T) (hr.mono (by first | decide | omega)) (by rfl) T.m_dot T.F_dot.kp T.b_dot (takes_of rfl rfl rfl rfl) (kj_cons (lj_va (pv 5)) (kj_cons (lj_va (pv 1)) kj_nil)) rfl)) (oj_cons (lj_va (pv 4)) oj_nil)))) (oj_cons (lj_ex ej_int) oj_nil))) (bj_one (sj_raiseS rfl (takes_of rfl rfl rfl rfl) T.x_NoPaper.oex (T.x_NoPaper.nf _ (by decide)) (T.x_NoPaper.nf _ (by decide)) T.x_NoPaper.iC T.x_NoPaper.tI (ok_NoPaper_init T) (hr.mono (by first | decide | omega)) T.bi_NoPaper (passF (takes_of rfl rfl rfl rfl)) (by rfl) T.x_NoPaper.m (ej_var (pv 2)))) bj_nil)))))
noncomputable def c_meets_0 : Sx := (xLc (con (.va 0)) (stN 3) bYes (xCall f_dot [.va 3, .va 2]) [3])
noncomputable def g_meets : Ss := (sRet (xPrim [.ex c_meets_0, .ex (xPrim [.va 1] pList)] pEq))
noncomputable def f_meets : Fn := bodyF 4 g_meets
theorem ok_meets (T : Tx K mg base cl) : FnOk P w K mg base (L2.CX P w) 2 T.a_meets T.fd_meets ["rows", "side", "vector"] (spF (gk K cl) 3 f_meets) :=
  fn_ok (N := ["rows", "side", "vector", "row"]) (k := 1) (g := g_meets) T.F_meets sc_meets fun cdv A outer s H vs E hr => (bj_one (sj_ret (ej_eq hr.units (oj_cons (lj_ex (ej_lc rfl sc_meets.nd (ij_seq (lj_va (pv 0))) (blkOk_by (own := [("row", 3)]) (by kernel_rfl)) (fun _ _ _ _ _ => (gj_name (i := 3) sc_meets.nd rfl (.inl rfl))) (fun _ _ _ _ _ => fj_nil) (fun _ _ _ _ _ => (ej_call (ok_dot T) (hr.mono (by first | decide | omega)) (by rfl) T.m_dot T.F_dot.kp T.b_dot takes0 (kj_cons (lj_va (pv 3)) (kj_cons (lj_va (pv 2)) kj_nil)) rfl)) (by decide))) (oj_cons (lj_ex (ej_callTy call_list_of pr_list (by rfl) T.z_list (by decide +kernel) (oj_cons (lj_va (pv 1)) oj_nil))) oj_nil)))))
noncomputable def b_check_any_way_0 : Sb := (bOr (bNot (bTru [.ex (xPrim [.va 1] (pIsi .tuple))])) (bOr (bT (xPrim [.ex (xPrim [.va 1] pLen), .ex (xC (.int 2))] pNe)) (bT (xPrim [.ex (xPrim [.va 1, .ex (xC (.int 0))] pIx), .ex (xTup [(xC (.str "some")), (xC (.str "none"))])] (pInX true)))))
noncomputable def c_check_any_way_0 : Sx := (xLc (srcZip (.va 0) (.va 2)) (stT [6, 7]) bYes (xPrim [.ex (xCall f_dot [.va 6, .va 5]), .va 7] pEq) [6, 7])
noncomputable def g_check_any_way : Ss := (sSeq (sEx (xCall f_check_side [.va 0, .va 2, .va 3]))
    (sSeq (sIf b_check_any_way_0 (sRaiseS "NoPaper" "where" "at" "answer" (xPrim [.ex (xC (.int 1))] pNeg)) sNil)
    (sSeq (sTup [4, 5] (xVar 1))
    (sIf (bT (xPrim [.va 4, .ex (xC (.str "none"))] pEq)) (sEx (xCall f_check_bar [.va 0, .va 2, .va 3, .va 5])) (sIf (bNot (bTru [.ex (xCall f_is_row [.va 5, .va 3])])) (sRaiseS "NoPaper" "where" "at" "answer" (xPrim [.ex (xC (.int 1))] pNeg)) (sIf (bNot (bTru [.ex (xCall f_meets [.va 0, .va 2, .va 5])])) (sRaiseS "NoPaper" "where" "at" "answer" (xIdx (.bl false) c_check_any_way_0)) sNil))))))
noncomputable def f_check_any_way : Fn := bodyF 8 g_check_any_way
theorem ok_check_any_way (T : Tx K mg base cl) : FnOk P w K mg base (L2.CX P w) 5 T.a_check_any_way T.fd_check_any_way ["rows", "answer", "side", "wide"] (spF (gk K cl) 4 f_check_any_way) :=
  fn_ok (N := ["rows", "answer", "side", "wide", "word", "thing", "row", "one"]) (k := 4) (g := g_check_any_way) T.F_check_any_way sc_check_any_way fun cdv A outer s H vs E hr => (bj_cons (sj_ex (ej_call (ok_check_side T) (hr.mono (by first | decide | omega)) (by rfl) T.m_check_side T.F_check_side.kp T.b_check_side (takes_of rfl rfl rfl rfl) (kj_cons (lj_va (pv 0)) (kj_cons (lj_va (pv 2)) (kj_cons (lj_va (pv 3)) kj_nil))) rfl))
    (bj_cons (sj_if (WJ.tj (wj_or (tj_not (tj_tru (oj_cons (lj_ex (ej_isi (t := .tuple) T.z_isinstance (by rfl) (oj_cons (lj_va (pv 1)) oj_nil) (pe_bltn (v := .ty "tuple") (by rfl) T.z_tuple (by decide +kernel) rfl))) oj_nil))) (wj_or (tj_ne hr.units (oj_cons (lj_ex (ej_callB call_len_seq pr_len (by rfl) T.z_len (by decide +kernel) (oj_cons (lj_va (pv 1)) oj_nil))) (oj_cons (lj_ex ej_int) oj_nil))) (wj_or1 (tj_notInX (u65 hr) (oj_cons (lj_ex (ej_sbs (oj_cons (lj_va (pv 1)) (oj_cons (lj_ex ej_int) oj_nil)))) (oj_cons (lj_ex (ej_tup (mj_cons ej_str (mj_cons ej_str mj_nil)))) oj_nil))))))) (bj_one (sj_raiseS rfl (takes_of rfl rfl rfl rfl) T.x_NoPaper.oex (T.x_NoPaper.nf _ (by decide)) (T.x_NoPaper.nf _ (by decide)) T.x_NoPaper.iC T.x_NoPaper.tI (ok_NoPaper_init T) (hr.mono (by first | decide | omega)) T.bi_NoPaper (passF (takes_of rfl rfl rfl rfl)) (by rfl) T.x_NoPaper.m (ej_neg (oj_cons (lj_ex ej_int) oj_nil)))) bj_nil)
    (bj_cons (sj_tup (is := [4, 5]) rfl (pgs_cons (pg_name (i := 4) sc_check_any_way.nd rfl (.inl rfl)) (pgs_cons (pg_name (i := 5) sc_check_any_way.nd rfl (.inr rfl)) pgs_nil)) (ej_var (pv 1)) rfl)
    (bj_one (sj_if (tj_eq hr.units (oj_cons (lj_va (pv 4)) (oj_cons (lj_ex ej_str) oj_nil))) (bj_one (sj_ex (ej_call (ok_check_bar T) (hr.mono (by first | decide | omega)) (by rfl) T.m_check_bar T.F_check_bar.kp T.b_check_bar (takes_of rfl rfl rfl rfl) (kj_cons (lj_va (pv 0)) (kj_cons (lj_va (pv 2)) (kj_cons (lj_va (pv 3)) (kj_cons (lj_va (pv 5)) kj_nil)))) rfl))) (bj_one (sj_if (tj_not (tj_tru (oj_cons (lj_ex (ej_call (ok_is_row T) (hr.mono (by first | decide | omega)) (by rfl) T.m_is_row T.F_is_row.kp T.b_is_row (takes_of rfl rfl rfl rfl) (kj_cons (lj_va (pv 5)) (kj_cons (lj_va (pv 3)) kj_nil)) rfl)) oj_nil))) (bj_one (sj_raiseS rfl (takes_of rfl rfl rfl rfl) T.x_NoPaper.oex (T.x_NoPaper.nf _ (by decide)) (T.x_NoPaper.nf _ (by decide)) T.x_NoPaper.iC T.x_NoPaper.tI (ok_NoPaper_init T) (hr.mono (by first | decide | omega)) T.bi_NoPaper (passF (takes_of rfl rfl rfl rfl)) (by rfl) T.x_NoPaper.m (ej_neg (oj_cons (lj_ex ej_int) oj_nil)))) (bj_one (sj_if (tj_not (tj_tru (oj_cons (lj_ex (ej_call (ok_meets T) (hr.mono (by first | decide | omega)) (by rfl) T.m_meets T.F_meets.kp T.b_meets (takes_of rfl rfl rfl rfl) (kj_cons (lj_va (pv 0)) (kj_cons (lj_va (pv 2)) (kj_cons (lj_va (pv 5)) kj_nil))) rfl)) oj_nil))) (bj_one (sj_raiseS rfl (takes_of rfl rfl rfl rfl) T.x_NoPaper.oex (T.x_NoPaper.nf _ (by decide)) (T.x_NoPaper.nf _ (by decide)) T.x_NoPaper.iC T.x_NoPaper.tI (ok_NoPaper_init T) (hr.mono (by first | decide | omega)) T.bi_NoPaper (passF (takes_of rfl rfl rfl rfl)) (by rfl) T.x_NoPaper.m (ej_idxB (u65 hr) (ej_lc rfl sc_check_any_way.nd (ij_zip (by rfl) T.z_zip (lj_va (pv 0)) (lj_va (pv 2))) (blkOk_by (own := [("row", 6), ("one", 7)]) (by kernel_rfl)) (fun _ _ _ _ _ => (gj_tup (is := [6, 7]) rfl (pgs_cons (pg_name (i := 6) sc_check_any_way.nd rfl (.inl rfl)) (pgs_cons (pg_name (i := 7) sc_check_any_way.nd rfl (.inl rfl)) pgs_nil)) rfl)) (fun _ _ _ _ _ => fj_nil) (fun _ _ _ _ _ => (ej_eq hr.units (oj_cons (lj_ex (ej_call (ok_dot T) (hr.mono (by first | decide | omega)) (by rfl) T.m_dot T.F_dot.kp T.b_dot takes0 (kj_cons (lj_va (pv 6)) (kj_cons (lj_va (pv 5)) kj_nil)) rfl)) (oj_cons (lj_va (pv 7)) oj_nil)))) (by decide))))) bj_nil)))))))))
noncomputable def c__law_right_answer_0 : Sx := (xLc (con (.va 0)) (stN 9) bYes (xCall f__law_dot [.va 9, .va 5]) [9])
noncomputable def b__law_right_answer_0 : Sb := (bOr (bT (xPrim [.va 4, .ex (xC (.str "none"))] pNe)) (bOr (bT (xPrim [.va 6, .ex (xC (.int 2))] pLt)) (bOr (bT (xPrim [.ex (xPrim [.va 7] pLen), .ex (xPrim [.va 0] pLen)] pNe)) (bOr (bT (xPrim [.ex (xPrim [.va 7] pMinY), .ex (xC (.int 0))] pLt)) (bT (xPrim [.ex (xPrim [.va 7] pMaxX), .va 6] pGe))))))
noncomputable def c__law_right_answer_1 : Sx := (xLc (con (.va 0)) (stN 9) bYes (xPrim [.va 9, .va 8] pIx) [9])
noncomputable def c__law_right_answer_2 : Sx := (xLc (srcRng1 [.va 2]) (stN 8) (bT (xPrim [.ex (xPrim [.ex (xCall f__law_dot [.va 7, .ex c__law_right_answer_1]), .va 6] pMod), .ex (xC (.int 0))] pNe)) (xVar 8) [8])
noncomputable def g__law_right_answer : Ss := (sSeq (sTup [4, 5] (xVar 3))
    (sSeq (sIf (bT (xPrim [.va 4, .ex (xC (.str "some"))] pEq)) (sRet (xAnd (xPrim [.va 5] (pIsi .tuple)) (xAnd (xPrim [.ex (xPrim [.va 5] pLen), .va 2] pEq) (xPrim [.ex c__law_right_answer_0, .ex (xPrim [.va 1] pList)] pEq)))) sNil)
    (sSeq (sTup [6, 7] (xVar 5))
    (sSeq (sIf b__law_right_answer_0 (sRet (xC (.bl false))) sNil)
    (sSeq (sIf (bT (xPrim [.ex c__law_right_answer_2, .ex (xLst [])] pNe)) (sRet (xC (.bl false))) sNil)
    (sRet (xPrim [.ex (xPrim [.ex (xCall f__law_dot [.va 7, .va 1]), .va 6] pMod), .ex (xC (.int 0))] pNe)))))))
noncomputable def f__law_right_answer : Fn := bodyF 10 g__law_right_answer
theorem ok__law_right_answer (T : Tx K mg base cl) : FnOk P w K mg base (L2.CX P w) 2 T.a__law_right_answer T.fd__law_right_answer ["_law_rows", "_law_aim", "_law_width", "_law_answer"] (spF (gk K cl) 4 f__law_right_answer) :=
  fn_ok (N := ["_law_rows", "_law_aim", "_law_width", "_law_answer", "_law_word", "_law_thing", "_law_many", "_law_shares", "_law_k", "_law_row"]) (k := 1) (g := g__law_right_answer) T.F__law_right_answer sc__law_right_answer fun cdv A outer s H vs E hr => (bj_cons (sj_tup (is := [4, 5]) rfl (pgs_cons (pg_name (i := 4) sc__law_right_answer.nd rfl (.inl rfl)) (pgs_cons (pg_name (i := 5) sc__law_right_answer.nd rfl (.inr rfl)) pgs_nil)) (ej_var (pv 3)) rfl)
    (bj_cons (sj_if (tj_eq hr.units (oj_cons (lj_va (pv 4)) (oj_cons (lj_ex ej_str) oj_nil))) (bj_one (sj_ret (ej_and (ej_isi (t := .tuple) T.z_isinstance (by rfl) (oj_cons (lj_va (pv 5)) oj_nil) (pe_bltn (v := .ty "tuple") (by rfl) T.z_tuple (by decide +kernel) rfl)) (ej_and (ej_eq hr.units (oj_cons (lj_ex (ej_callB call_len_seq pr_len (by rfl) T.z_len (by decide +kernel) (oj_cons (lj_va (pv 5)) oj_nil))) (oj_cons (lj_va (pv 2)) oj_nil))) (ej_one (ej_eq hr.units (oj_cons (lj_ex (ej_lc rfl sc__law_right_answer.nd (ij_seq (lj_va (pv 0))) (blkOk_by (own := [("_law_row", 9)]) (by kernel_rfl)) (fun _ _ _ _ _ => (gj_name (i := 9) sc__law_right_answer.nd rfl (.inl rfl))) (fun _ _ _ _ _ => fj_nil) (fun _ _ _ _ _ => (ej_call (ok__law_dot T) (hr.mono (by first | decide | omega)) (by rfl) T.m__law_dot T.F__law_dot.kp T.b__law_dot takes0 (kj_cons (lj_va (pv 9)) (kj_cons (lj_va (pv 5)) kj_nil)) rfl)) (by decide))) (oj_cons (lj_ex (ej_callTy call_list_of pr_list (by rfl) T.z_list (by decide +kernel) (oj_cons (lj_va (pv 1)) oj_nil))) oj_nil)))))))) bj_nil)
    (bj_cons (sj_tup (is := [6, 7]) rfl (pgs_cons (pg_name (i := 6) sc__law_right_answer.nd rfl (.inr rfl)) (pgs_cons (pg_name (i := 7) sc__law_right_answer.nd rfl (.inr rfl)) pgs_nil)) (ej_var (pv 5)) rfl)
    (bj_cons (sj_if (WJ.tj (wj_or (tj_ne hr.units (oj_cons (lj_va (pv 4)) (oj_cons (lj_ex ej_str) oj_nil))) (wj_or (tj_lt (oj_cons (lj_va (pv 6)) (oj_cons (lj_ex ej_int) oj_nil))) (wj_or (tj_ne hr.units (oj_cons (lj_ex (ej_callB call_len_seq pr_len (by rfl) T.z_len (by decide +kernel) (oj_cons (lj_va (pv 7)) oj_nil))) (oj_cons (lj_ex (ej_callB call_len_seq pr_len (by rfl) T.z_len (by decide +kernel) (oj_cons (lj_va (pv 0)) oj_nil))) oj_nil))) (wj_or (tj_lt (oj_cons (lj_ex (ej_callB (call_minY rfl hr.units) pr_minY (by rfl) T.z_min (by decide +kernel) (oj_cons (lj_va (pv 7)) oj_nil))) (oj_cons (lj_ex ej_int) oj_nil))) (wj_or1 (tj_ge (oj_cons (lj_ex (ej_callB (call_maxX rfl) pr_maxX (by rfl) T.z_max (by decide +kernel) (oj_cons (lj_va (pv 7)) oj_nil))) (oj_cons (lj_va (pv 6)) oj_nil))))))))) (bj_one (sj_ret ej_bl)) bj_nil)
    (bj_cons (sj_if (tj_ne hr.units (oj_cons (lj_ex (ej_lc rfl sc__law_right_answer.nd (ij_rng1 (by rfl) T.z_range (oj_cons (lj_va (pv 2)) oj_nil)) (blkOk_by (own := [("_law_k", 8)]) (by kernel_rfl)) (fun _ _ _ _ _ => (gj_name (i := 8) sc__law_right_answer.nd rfl (.inr rfl))) (fun _ _ _ _ _ => (fj_one (tj_ne hr.units (oj_cons (lj_ex (ej_mod (oj_cons (lj_ex (ej_call (ok__law_dot T) (hr.mono (by first | decide | omega)) (by rfl) T.m__law_dot T.F__law_dot.kp T.b__law_dot takes0 (kj_cons (lj_va (pv 7)) (kj_cons (lj_ex (ej_lc rfl sc__law_right_answer.nd (ij_seq (lj_va (pv 0))) (blkOk_by (own := [("_law_row", 9)]) (by kernel_rfl)) (fun _ _ _ _ _ => (gj_name (i := 9) sc__law_right_answer.nd rfl (.inl rfl))) (fun _ _ _ _ _ => fj_nil) (fun _ _ _ _ _ => (ej_sbs (oj_cons (lj_va (pv 9)) (oj_cons (lj_va (pv 8)) oj_nil)))) (by decide))) kj_nil)) rfl)) (oj_cons (lj_va (pv 6)) oj_nil)))) (oj_cons (lj_ex ej_int) oj_nil))))) (fun _ _ _ _ _ => (ej_var (pv 8))) (by decide))) (oj_cons (lj_ex (ej_lst mj_nil)) oj_nil))) (bj_one (sj_ret ej_bl)) bj_nil)
    (bj_one (sj_ret (ej_ne hr.units (oj_cons (lj_ex (ej_mod (oj_cons (lj_ex (ej_call (ok__law_dot T) (hr.mono (by first | decide | omega)) (by rfl) T.m__law_dot T.F__law_dot.kp T.b__law_dot (takes_of rfl rfl rfl rfl) (kj_cons (lj_va (pv 7)) (kj_cons (lj_va (pv 1)) kj_nil)) rfl)) (oj_cons (lj_va (pv 6)) oj_nil)))) (oj_cons (lj_ex ej_int) oj_nil))))))))))
noncomputable def c__law_sides_rest_0 : Sx := (xLc (con (.va 0)) (stN 5) bYes (xPrim [.va 5, .va 6] pIx) [5])
noncomputable def c__law_sides_rest_1 : Sx := (xLc (srcRng1 [.ex (xPrim [.ex (xPrim [.va 0, .ex (xC (.int 0))] pIx)] pLen)]) (stN 6) bYes (xPrim [.ex c__law_sides_rest_0] pTuple) [6])
noncomputable def c__law_sides_rest_2 : Sx := (xLc (con (.va 2)) (stN 5) (bT (xPrim [.ex (xPrim [.va 5, .va 3] pIx), .ex (xC (.int 0))] pNe)) (xVar 5) [5])
noncomputable def c__law_sides_rest_3 : Sx := (xLc (con (.va 2)) (stN 5) (bT (xPrim [.ex (xPrim [.va 5, .va 3] pIx), .ex (xC (.int 0))] pEq)) (xVar 5) [5])
noncomputable def c__law_sides_rest_4 : Sx := (xLc (con (.ex (xPrim [.va 4, .ex (xC (.int 1))] pSlLo))) (stN 5) bYes (xCall f__law_added [.va 5, .ex (xPrim [.va 4, .ex (xC (.int 0))] pIx), .ex (xPrim [.ex (xPrim [.ex (xPrim [.va 5, .va 3] pIx), .ex (xPrim [.ex (xPrim [.va 4, .ex (xC (.int 0))] pIx), .va 3] pIx)] pFdiv)] pNeg)]) [5])
noncomputable def c__law_sides_rest_5 : Sx := (xLc (con (.va 7)) (stN 5) (bT (xPrim [.ex (xPrim [.va 5, .va 3] pIx), .ex (xC (.int 0))] pEq)) (xVar 5) [5])
noncomputable def c__law_sides_rest_6 : Sx := (xLc (con (.va 7)) (stN 5) (bT (xPrim [.ex (xPrim [.va 5, .va 3] pIx), .ex (xC (.int 0))] pNe)) (xVar 5) [5])
noncomputable def w__law_sides_rest_7 : Ss := (sSeq (sSet 4 (xSortKey 4 3))
    (sSeq (sSet 7 c__law_sides_rest_4)
    (sSeq (sSet 2 (xPrim [.va 2, .ex c__law_sides_rest_5] pAdd))
    (sSet 4 (xPrim [.ex (xPrim [.va 4, .ex (xC (.int 1))] pSlHi), .ex c__law_sides_rest_6] pAdd)))))
noncomputable def l__law_sides_rest_8 : Ss := (sSet 1 (xCall f__law_added [.va 1, .va 5, .ex (xPrim [.ex (xPrim [.ex (xPrim [.va 1, .va 3] pIx), .ex (xPrim [.va 5, .va 3] pIx)] pFdiv)] pNeg)]))
noncomputable def l__law_sides_rest_9 : Ss := (sSeq (sSet 4 c__law_sides_rest_2)
    (sSeq (sSet 2 c__law_sides_rest_3)
    (sSeq (sWhile (fun ρ => szS ρ) (bT (xPrim [.ex (xPrim [.va 4] pLen), .ex (xC (.int 1))] pGt)) w__law_sides_rest_7)
    (sFor (conF 4) (stN 5) l__law_sides_rest_8))))
noncomputable def g__law_sides_rest : Ss := (sSeq (sSet 2 c__law_sides_rest_1)
    (sSeq (sFor (srcRng1 [.ex (xPrim [.va 0] pLen)]) (stN 3) l__law_sides_rest_9)
    (sRetV 1)))
noncomputable def f__law_sides_rest : Fn := bodyF 8 g__law_sides_rest
theorem ok__law_sides_rest (T : Tx K mg base cl) : FnOk P w K mg base (L2.CX P w) 5 T.a__law_sides_rest T.fd__law_sides_rest ["_law_rows", "_law_aim"] (spF (gk K cl) 2 f__law_sides_rest) :=
  fn_okC (N := ["_law_rows", "_law_aim", "_law_left", "_law_column", "_law_some", "_law_row", "_law_k", "_law_later"]) (k := 4) (g := g__law_sides_rest) T.FC__law_sides_rest sc__law_sides_rest fun A outer s H vs E hr => (bj_cons (sj_setLc (i := 2) rfl sc__law_sides_rest.nd rfl rfl (sw_true rfl rfl rfl (by decide +kernel)) (ij_rng1 (by rfl) T.z_range (oj_cons (lj_ex (ej_callB call_len_seq pr_len (by rfl) T.z_len (by decide +kernel) (oj_cons (lj_ex (ej_sbs (oj_cons (lj_va (pv 0)) (oj_cons (lj_ex ej_int) oj_nil)))) oj_nil))) oj_nil)) (blkOk_by (own := [("_law_k", 6)]) (by kernel_rfl)) (fun _ _ _ _ _ => (gj_name (i := 6) sc__law_sides_rest.nd rfl (.inr rfl))) (fun _ _ _ _ _ => fj_nil) (fun _ _ _ _ _ => (ej_callTy call_tuple_of pr_tuple (by rfl) T.z_tuple (by decide +kernel) (oj_cons (lj_ex (ej_lc rfl sc__law_sides_rest.nd (ij_seq (lj_va (pv 0))) (blkOk_by (own := [("_law_row", 5)]) (by kernel_rfl)) (fun _ _ _ _ _ => (gj_name (i := 5) sc__law_sides_rest.nd rfl (.inl rfl))) (fun _ _ _ _ _ => fj_nil) (fun _ _ _ _ _ => (ej_sbs (oj_cons (lj_va (pv 5)) (oj_cons (lj_va (pv 6)) oj_nil)))) (by decide))) oj_nil))) (by decide))
    (bj_cons (sj_for (passes_of rfl) rfl (ij_rng1 (by rfl) T.z_range (oj_cons (lj_ex (ej_callB call_len_seq pr_len (by rfl) T.z_len (by decide +kernel) (oj_cons (lj_va (pv 0)) oj_nil))) oj_nil)) (gj_name (i := 3) sc__law_sides_rest.nd rfl (.inr rfl)) (bj_cons (sj_set (i := 4) sc__law_sides_rest.nd rfl (.inr rfl) (ej_lc rfl sc__law_sides_rest.nd (ij_seq (lj_va (pv 2))) (blkOk_by (own := [("_law_row", 5)]) (by kernel_rfl)) (fun _ _ _ _ _ => (gj_name (i := 5) sc__law_sides_rest.nd rfl (.inl rfl))) (fun _ _ _ _ _ => (fj_one (tj_ne hr.units (oj_cons (lj_ex (ej_sbs (oj_cons (lj_va (pv 5)) (oj_cons (lj_va (pv 3)) oj_nil)))) (oj_cons (lj_ex ej_int) oj_nil))))) (fun _ _ _ _ _ => (ej_var (pv 5))) (by decide)))
    (bj_cons (sj_setLc (i := 2) rfl sc__law_sides_rest.nd rfl rfl (sw_true rfl rfl rfl (by decide +kernel)) (ij_seq (lj_va (pv 2))) (blkOk_by (own := [("_law_row", 5)]) (by kernel_rfl)) (fun _ _ _ _ _ => (gj_name (i := 5) sc__law_sides_rest.nd rfl (.inl rfl))) (fun _ _ _ _ _ => (fj_one (tj_eq hr.units (oj_cons (lj_ex (ej_sbs (oj_cons (lj_va (pv 5)) (oj_cons (lj_va (pv 3)) oj_nil)))) (oj_cons (lj_ex ej_int) oj_nil))))) (fun _ _ _ _ _ => (ej_var (pv 5))) (by decide))
    (bj_cons (sj_while (fun ρ => szS ρ) (passes_of rfl) (tj_gt (oj_cons (lj_ex (ej_callB call_len_seq pr_len (by rfl) T.z_len (by decide +kernel) (oj_cons (lj_va (pv 4)) oj_nil))) (oj_cons (lj_ex ej_int) oj_nil))) (bj_cons (sj_set (i := 4) sc__law_sides_rest.nd rfl (.inr rfl) (ej_sortKey (i := 4) (j := 3) (k := 0) rfl (by first | exact .inl rfl | exact .inr (.inl rfl) | exact .inr (.inr rfl)) rfl (by first | exact .inl rfl | exact .inr (.inl rfl) | exact .inr (.inr rfl)) (by rfl) T.z_sorted T.z_abs T.tab__law_sides_rest rfl T.ht__law_sides_rest T.hu__law_sides_rest (hr.mono (by first | decide | omega)) (lamS2_by (by kernel_rfl)) rfl (fun _ _ _ _ _ _ => rfl)))
    (bj_cons (sj_setLc (i := 7) rfl sc__law_sides_rest.nd rfl rfl (sw_true rfl rfl rfl (by decide +kernel)) (ij_seq (lj_ex (ej_slLo (oj_cons (lj_va (pv 4)) (oj_cons (lj_ex ej_int) oj_nil))))) (blkOk_by (own := [("_law_row", 5)]) (by kernel_rfl)) (fun _ _ _ _ _ => (gj_name (i := 5) sc__law_sides_rest.nd rfl (.inl rfl))) (fun _ _ _ _ _ => fj_nil) (fun _ _ _ _ _ => (ej_call (ok__law_added T) (hr.mono (by first | decide | omega)) (by rfl) T.m__law_added T.F__law_added.kp T.b__law_added takes0 (kj_cons (lj_va (pv 5)) (kj_cons (lj_ex (ej_sbs (oj_cons (lj_va (pv 4)) (oj_cons (lj_ex ej_int) oj_nil)))) (kj_cons (lj_ex (ej_neg (oj_cons (lj_ex (ej_fdiv (oj_cons (lj_ex (ej_sbs (oj_cons (lj_va (pv 5)) (oj_cons (lj_va (pv 3)) oj_nil)))) (oj_cons (lj_ex (ej_sbs (oj_cons (lj_ex (ej_sbs (oj_cons (lj_va (pv 4)) (oj_cons (lj_ex ej_int) oj_nil)))) (oj_cons (lj_va (pv 3)) oj_nil)))) oj_nil)))) oj_nil))) kj_nil))) rfl)) (by decide))
    (bj_cons (sj_set (i := 2) sc__law_sides_rest.nd rfl (.inl rfl) (ej_add (oj_cons (lj_va (pv 2)) (oj_cons (lj_ex (ej_lc rfl sc__law_sides_rest.nd (ij_seq (lj_va (pv 7))) (blkOk_by (own := [("_law_row", 5)]) (by kernel_rfl)) (fun _ _ _ _ _ => (gj_name (i := 5) sc__law_sides_rest.nd rfl (.inl rfl))) (fun _ _ _ _ _ => (fj_one (tj_eq hr.units (oj_cons (lj_ex (ej_sbs (oj_cons (lj_va (pv 5)) (oj_cons (lj_va (pv 3)) oj_nil)))) (oj_cons (lj_ex ej_int) oj_nil))))) (fun _ _ _ _ _ => (ej_var (pv 5))) (by decide))) oj_nil))))
    (bj_one (sj_set (i := 4) sc__law_sides_rest.nd rfl (.inr rfl) (ej_add (oj_cons (lj_ex (ej_slHi (oj_cons (lj_va (pv 4)) (oj_cons (lj_ex ej_int) oj_nil)))) (oj_cons (lj_ex (ej_lc rfl sc__law_sides_rest.nd (ij_seq (lj_va (pv 7))) (blkOk_by (own := [("_law_row", 5)]) (by kernel_rfl)) (fun _ _ _ _ _ => (gj_name (i := 5) sc__law_sides_rest.nd rfl (.inl rfl))) (fun _ _ _ _ _ => (fj_one (tj_ne hr.units (oj_cons (lj_ex (ej_sbs (oj_cons (lj_va (pv 5)) (oj_cons (lj_va (pv 3)) oj_nil)))) (oj_cons (lj_ex ej_int) oj_nil))))) (fun _ _ _ _ _ => (ej_var (pv 5))) (by decide))) oj_nil)))))))))
    (bj_one (sj_for (passes_of rfl) rfl (ij_seqC (cj_F (pv 4))) (gj_name (i := 5) sc__law_sides_rest.nd rfl (.inl rfl)) (bj_one (sj_set (i := 1) sc__law_sides_rest.nd rfl (.inl rfl) (ej_call (ok__law_added T) (hr.mono (by first | decide | omega)) (by rfl) T.m__law_added T.F__law_added.kp T.b__law_added (takes_of rfl rfl rfl rfl) (kj_cons (lj_va (pv 1)) (kj_cons (lj_va (pv 5)) (kj_cons (lj_ex (ej_neg (oj_cons (lj_ex (ej_fdiv (oj_cons (lj_ex (ej_sbs (oj_cons (lj_va (pv 1)) (oj_cons (lj_va (pv 3)) oj_nil)))) (oj_cons (lj_ex (ej_sbs (oj_cons (lj_va (pv 5)) (oj_cons (lj_va (pv 3)) oj_nil)))) oj_nil)))) oj_nil))) kj_nil))) rfl)))))))))
    (bj_one (sj_retV (pv 1)))))
noncomputable def b__law_right_0 : Sb := (bOr (bNot (bTru [.ex (xPrim [.va 2] (pIsi .tuple))])) (bOr (bT (xPrim [.ex (xPrim [.va 2] pLen), .ex (xC (.int 2))] pNe)) (bT (xPrim [.va 1, .va 3] pNe))))
noncomputable def b__law_right_1 : Sb := (bOr (bAnd (bT (xPrim [.va 6, .ex (xC .non)] pNotN)) (bT (xPrim [.ex (xPrim [.va 2, .ex (xC (.int 0))] pIx), .va 6] pNe))) (bNot (bTru [.ex (xCall f__law_right_answer [.va 3, .va 4, .va 5, .va 2])])))
noncomputable def b__law_right_2 : Sb := (bAnd (bT (xPrim [.va 3, .ex (xLst [])] pNe)) (bT (xPrim [.ex (xPrim [.ex (xPrim [.va 2, .ex (xC (.int 0))] pIx), .ex (xC (.str "some"))] pEq), .ex (xNot (xPrim [.ex (xCall f__law_sides_rest [.va 3, .va 4])] pAny))] pNe)))
noncomputable def b__law_right_3 : Sb := (bT (xPrim [.ex (xCall (permF [.arg 0, .arg 1, .arg 2, .arg 3] [0, 1, 2, 3] f_check_any_way) [.va 3, .va 2, .va 4, .va 5]), .ex (xC .non)] pNotN))
noncomputable def b__law_right_4 : Sb := (bT (xPrim [.ex (xPrim [.ex (xCall (permF [.arg 0, .arg 1, .arg 2] [0, 1, 2] f_any_way) [.ex (xPrim [.va 3] pRevA), .ex (xPrim [.va 4] pRevA), .va 5]), .ex (xC (.int 0))] pIx), .ex (xPrim [.va 2, .ex (xC (.int 0))] pIx)] pNe))
noncomputable def g__law_right : Ss := (sSeq (sTup [3, 4, 5, 6] (xCall f__law_built [.va 0]))
    (sSeq (sSet 1 (xPrim [.va 3] pList))
    (sSeq (sSet 2 (xCall (permF [.arg 0, .arg 1, .arg 2] [0, 1, 2] f_any_way) [.ex (xVar 1), .va 4, .va 5]))
    (sSeq (sIf b__law_right_0 (sRet (xC (.bl false))) sNil)
    (sSeq (sIf b__law_right_1 (sRet (xC (.bl false))) sNil)
    (sSeq (sIf b__law_right_2 (sRet (xC (.bl false))) sNil)
    (sSeq (sIf b__law_right_3 (sRet (xC (.bl false))) sNil)
    (sSeq (sIf b__law_right_4 (sRet (xC (.bl false))) sNil)
    (sRet (xPrim [.ex (xCall (permF [.arg 0, .arg 1, .arg 2] [0, 1, 2] f_any_way) [.ex (xPrim [.va 3] pList), .va 4, .va 5]), .va 2] pEq))))))))))
noncomputable def f__law_right : Fn := bodyF 7 g__law_right
theorem ok__law_right (T : Tx K mg base cl) : FnOk P w K mg base (L2.CX P w) 6 T.a__law_right T.fd__law_right ["_law_well"] (spF (gk K cl) 1 f__law_right) :=
  fn_ok (N := ["_law_well", "_law_handed", "_law_answer", "_law_rows", "_law_aim", "_law_width", "_law_word"]) (k := 5) (g := g__law_right) T.F__law_right sc__law_right fun cdv A outer s H vs E hr => (bj_cons (sj_tup (is := [3, 4, 5, 6]) rfl (pgs_cons (pg_name (i := 3) sc__law_right.nd rfl (.inl rfl)) (pgs_cons (pg_name (i := 4) sc__law_right.nd rfl (.inl rfl)) (pgs_cons (pg_name (i := 5) sc__law_right.nd rfl (.inl rfl)) (pgs_cons (pg_name (i := 6) sc__law_right.nd rfl (.inl rfl)) pgs_nil)))) (ej_call (ok__law_built T) (hr.mono (by first | decide | omega)) (by rfl) T.m__law_built T.F__law_built.kp T.b__law_built (takes_of rfl rfl rfl rfl) (kj_cons (lj_va (pv 0)) kj_nil) rfl) rfl)
    (bj_cons (sj_set (i := 1) sc__law_right.nd rfl (.inl rfl) (ej_callTy call_list_of pr_list (by rfl) T.z_list (by decide +kernel) (oj_cons (lj_va (pv 3)) oj_nil)))
    (bj_cons (sj_set (i := 2) sc__law_right.nd rfl (.inl rfl) (ej_callK (sel := [.arg 0, .arg 1, .arg 2]) (inv := [0, 1, 2]) (ok_any_way T) (hr.mono (by first | decide | omega)) (by rfl) T.m_any_way T.F_any_way.kp T.kb_any_way_1_side_wide (takes_of rfl rfl rfl rfl) (.cons rfl .nil) (kj_cons (lj_ex (ej_var (pv 1))) (kj_cons (lj_va (pv 4)) (kj_cons (lj_va (pv 5)) kj_nil))) (by decide)))
    (bj_cons (sj_if (WJ.tj (wj_or (tj_not (tj_tru (oj_cons (lj_ex (ej_isi (t := .tuple) T.z_isinstance (by rfl) (oj_cons (lj_va (pv 2)) oj_nil) (pe_bltn (v := .ty "tuple") (by rfl) T.z_tuple (by decide +kernel) rfl))) oj_nil))) (wj_or (tj_ne hr.units (oj_cons (lj_ex (ej_callB call_len_seq pr_len (by rfl) T.z_len (by decide +kernel) (oj_cons (lj_va (pv 2)) oj_nil))) (oj_cons (lj_ex ej_int) oj_nil))) (wj_or1 (tj_ne hr.units (oj_cons (lj_va (pv 1)) (oj_cons (lj_va (pv 3)) oj_nil))))))) (bj_one (sj_ret ej_bl)) bj_nil)
    (bj_cons (sj_if (WJ.tj (wj_or (WJ.tj (wj_and (tj_notN (oj_cons (lj_va (pv 6)) (oj_cons (lj_ex ej_non) oj_nil))) (wj_and1 (tj_ne hr.units (oj_cons (lj_ex (ej_sbs (oj_cons (lj_va (pv 2)) (oj_cons (lj_ex ej_int) oj_nil)))) (oj_cons (lj_va (pv 6)) oj_nil)))))) (wj_or1 (tj_not (tj_tru (oj_cons (lj_ex (ej_call (ok__law_right_answer T) (hr.mono (by first | decide | omega)) (by rfl) T.m__law_right_answer T.F__law_right_answer.kp T.b__law_right_answer (takes_of rfl rfl rfl rfl) (kj_cons (lj_va (pv 3)) (kj_cons (lj_va (pv 4)) (kj_cons (lj_va (pv 5)) (kj_cons (lj_va (pv 2)) kj_nil)))) rfl)) oj_nil)))))) (bj_one (sj_ret ej_bl)) bj_nil)
    (bj_cons (sj_if (WJ.tj (wj_and (tj_ne hr.units (oj_cons (lj_va (pv 3)) (oj_cons (lj_ex (ej_lst mj_nil)) oj_nil))) (wj_and1 (tj_ne hr.units (oj_cons (lj_ex (ej_eq hr.units (oj_cons (lj_ex (ej_sbs (oj_cons (lj_va (pv 2)) (oj_cons (lj_ex ej_int) oj_nil)))) (oj_cons (lj_ex ej_str) oj_nil)))) (oj_cons (lj_ex (ej_not (ej_callB (cr_anyK rfl) (pr_anyK _) (by rfl) T.z_any (by decide +kernel) (oj_cons (lj_ex (ej_call (ok__law_sides_rest T) (hr.mono (by first | decide | omega)) (by rfl) T.m__law_sides_rest T.F__law_sides_rest.kp T.b__law_sides_rest (takes_of rfl rfl rfl rfl) (kj_cons (lj_va (pv 3)) (kj_cons (lj_va (pv 4)) kj_nil)) rfl)) oj_nil)))) oj_nil)))))) (bj_one (sj_ret ej_bl)) bj_nil)
    (bj_cons (sj_if (tj_notN (oj_cons (lj_ex (ej_callK (sel := [.arg 0, .arg 1, .arg 2, .arg 3]) (inv := [0, 1, 2, 3]) (ok_check_any_way T) (hr.mono (by first | decide | omega)) (by rfl) T.m_check_any_way T.F_check_any_way.kp T.kb_check_any_way_2_side_wide (takes_of rfl rfl rfl rfl) (.cons rfl (.cons rfl .nil)) (kj_cons (lj_va (pv 3)) (kj_cons (lj_va (pv 2)) (kj_cons (lj_va (pv 4)) (kj_cons (lj_va (pv 5)) kj_nil)))) (by decide))) (oj_cons (lj_ex ej_non) oj_nil))) (bj_one (sj_ret ej_bl)) bj_nil)
    (bj_cons (sj_if (tj_ne hr.units (oj_cons (lj_ex (ej_sbs (oj_cons (lj_ex (ej_callK (sel := [.arg 0, .arg 1, .arg 2]) (inv := [0, 1, 2]) (ok_any_way T) (hr.mono (by first | decide | omega)) (by rfl) T.m_any_way T.F_any_way.kp T.kb_any_way_1_side_wide (takes_of rfl rfl rfl rfl) (.cons rfl .nil) (kj_cons (lj_ex (ej_revA (oj_cons (lj_va (pv 3)) oj_nil))) (kj_cons (lj_ex (ej_revA (oj_cons (lj_va (pv 4)) oj_nil))) (kj_cons (lj_va (pv 5)) kj_nil))) (by decide))) (oj_cons (lj_ex ej_int) oj_nil)))) (oj_cons (lj_ex (ej_sbs (oj_cons (lj_va (pv 2)) (oj_cons (lj_ex ej_int) oj_nil)))) oj_nil))) (bj_one (sj_ret ej_bl)) bj_nil)
    (bj_one (sj_ret (ej_eq hr.units (oj_cons (lj_ex (ej_callK (sel := [.arg 0, .arg 1, .arg 2]) (inv := [0, 1, 2]) (ok_any_way T) (hr.mono (by first | decide | omega)) (by rfl) T.m_any_way T.F_any_way.kp T.kb_any_way_1_side_wide (takes_of rfl rfl rfl rfl) (.cons rfl .nil) (kj_cons (lj_ex (ej_callTy call_list_of pr_list (by rfl) T.z_list (by decide +kernel) (oj_cons (lj_va (pv 3)) oj_nil))) (kj_cons (lj_va (pv 4)) (kj_cons (lj_va (pv 5)) kj_nil))) (by decide))) (oj_cons (lj_va (pv 2)) oj_nil)))))))))))))
noncomputable def b_law_0 : Sb := (bNot (bTru [.ex (xCallT f__law_right (xLst [(xPrim [.va 2, .ex (xPrim [.ex (xPrim [.va 2, .ex (xPrim [.ex (xC (.int 10)), .ex (xC (.int 18))] pPow)] pGe)] pInt)] pMul), (xPrim [.ex (xPrim [.va 2, .ex (xC (.int 2147483647))] pMod), .ex (xPrim [.ex (xC (.int 7919)), .va 1] pMul)] pAdd), (xC (.int 0))]))]))
noncomputable def l_law_0 : Ss := (sIf b_law_0 (sRet (xC (.bl false))) sNil)
noncomputable def g_law : Ss := (sSeq (sFor (srcEnum (.ex (xPrim [.ex (xPrim [.va 0, .ex (xLst [(xC (.int 0))])] pAdd), .ex (xC (.int 8))] pSlHi))) (stT [1, 2]) l_law_0)
    (sRet (xAnd (xPrim [.ex (xPrim [.ex (xCall (permF [.arg 0, .arg 1, .arg 2] [0, 1, 2] f_any_way) [.ex (xLst [(xTup [(xC (.int 2)), (xC (.int 4))])]), .ex (xTup [(xC (.int 3))]), .ex (xC (.int 2))]), .ex (xC (.int 0))] pIx), .ex (xC (.str "none"))] pEq) (xPrim [.ex (xPrim [.ex (xCall (permF [.arg 0, .arg 1, .arg 2] [0, 1, 2] f_any_way) [.ex (xLst [(xTup [(xC (.int 2)), (xC (.int 4))])]), .ex (xTup [(xC (.int 6))]), .ex (xC (.int 2))]), .ex (xC (.int 0))] pIx), .ex (xC (.str "some"))] pEq))))
noncomputable def f_law : Fn := bodyF 3 g_law
theorem ok_law (T : Tx K mg base cl) : FnOk P w K mg base (L2.CX P w) 7 T.a_law T.fd_law ["_law_script"] (spF (gk K cl) 1 f_law) :=
  fn_ok (N := ["_law_script", "_law_k", "_law_cell"]) (k := 6) (g := g_law) T.F_law sc_law fun cdv A outer s H vs E hr => (bj_cons (sj_for (passes_of rfl) rfl (ij_enum (by rfl) T.z_enumerate (lj_ex (ej_slHi (oj_cons (lj_ex (ej_add (oj_cons (lj_va (pv 0)) (oj_cons (lj_ex (ej_lst (mj_cons ej_int mj_nil))) oj_nil)))) (oj_cons (lj_ex ej_int) oj_nil))))) (gj_tup (is := [1, 2]) rfl (pgs_cons (pg_name (i := 1) sc_law.nd rfl (.inl rfl)) (pgs_cons (pg_name (i := 2) sc_law.nd rfl (.inl rfl)) pgs_nil)) rfl) (bj_one (sj_if (tj_not (tj_tru (oj_cons (lj_ex (ej_callT (ok__law_right T) (hr.mono (by decide)) (by rfl) T.m__law_right T.F__law_right.kp T.b__law_right (takes_of rfl rfl rfl rfl) (ej_lst (mj_cons (ej_mul (oj_cons (lj_va (pv 2)) (oj_cons (lj_ex (ej_callTy call_int1 pr_int (by rfl) T.z_int (by decide +kernel) (oj_cons (lj_ex (ej_ge (oj_cons (lj_va (pv 2)) (oj_cons (lj_ex (ej_pow (oj_cons (lj_ex ej_int) (oj_cons (lj_ex ej_int) oj_nil)))) oj_nil)))) oj_nil))) oj_nil))) (mj_cons (ej_add (oj_cons (lj_ex (ej_mod (oj_cons (lj_va (pv 2)) (oj_cons (lj_ex ej_int) oj_nil)))) (oj_cons (lj_ex (ej_mul (oj_cons (lj_ex ej_int) (oj_cons (lj_va (pv 1)) oj_nil)))) oj_nil))) (mj_cons ej_int mj_nil)))))) oj_nil))) (bj_one (sj_ret ej_bl)) bj_nil)))
    (bj_one (sj_ret (ej_and (ej_eq hr.units (oj_cons (lj_ex (ej_sbs (oj_cons (lj_ex (ej_callK (sel := [.arg 0, .arg 1, .arg 2]) (inv := [0, 1, 2]) (ok_any_way T) (hr.mono (by first | decide | omega)) (by rfl) T.m_any_way T.F_any_way.kp T.kb_any_way_1_side_wide (takes_of rfl rfl rfl rfl) (.cons rfl .nil) (kj_cons (lj_ex (ej_lst (mj_cons (ej_tup (mj_cons ej_int (mj_cons ej_int mj_nil))) mj_nil))) (kj_cons (lj_ex (ej_tup (mj_cons ej_int mj_nil))) (kj_cons (lj_ex ej_int) kj_nil))) (by decide))) (oj_cons (lj_ex ej_int) oj_nil)))) (oj_cons (lj_ex ej_str) oj_nil))) (ej_one (ej_eq hr.units (oj_cons (lj_ex (ej_sbs (oj_cons (lj_ex (ej_callK (sel := [.arg 0, .arg 1, .arg 2]) (inv := [0, 1, 2]) (ok_any_way T) (hr.mono (by first | decide | omega)) (by rfl) T.m_any_way T.F_any_way.kp T.kb_any_way_1_side_wide (takes_of rfl rfl rfl rfl) (.cons rfl .nil) (kj_cons (lj_ex (ej_lst (mj_cons (ej_tup (mj_cons ej_int (mj_cons ej_int mj_nil))) mj_nil))) (kj_cons (lj_ex (ej_tup (mj_cons ej_int mj_nil))) (kj_cons (lj_ex ej_int) kj_nil))) (by decide))) (oj_cons (lj_ex ej_int) oj_nil)))) (oj_cons (lj_ex ej_str) oj_nil))))))))
end
end Lw
end
section
namespace Lw
open PySem PySem.Spec PyProof.Rows L2 Wm
structure Wl where
  a : Int
  b : Int
  c : Int
def wl (w : Wl) : List D := [.int w.a, .int w.b, .int w.c]
def n1 (w : Wl) : Int := ((w.b + 104729 * (w.c + 1) + 1) * 48271).fmod 2147483647
def n2 (w : Wl) : Int := (n1 w * ((n1 w).fdiv 1009 + 69621)).fmod 2147483647
def dr (w : Wl) (m : Int) : Int := if 0 < w.a then w.a.fmod m else ((n2 w * ((n2 w).fdiv 2003 + 40692)).fmod 2147483399).fmod m
def dw (w : Wl) (m : Int) : Wl := if 0 < w.a then ⟨w.a.fdiv m, w.b, w.c⟩ else ⟨w.a, w.b, w.c + 1⟩
theorem fmod_bd (x m : Int) (h : 0 < m) : 0 ≤ x.fmod m ∧ x.fmod m < m := ⟨Int.fmod_nonneg_of_pos x h, Int.fmod_lt_of_pos x h⟩
theorem dr_bd (w : Wl) (m : Int) (h : 0 < m) : 0 ≤ dr w m ∧ dr w m < m := by
  unfold dr
  split
  · exact fmod_bd _ _ h
  · exact fmod_bd _ _ h
theorem draw_ev (w : Wl) (m : Int) (hm : 0 < m) (hm2 : m ≤ 4000000000) : f__law_draw [.byr (wl w), .sh (.int m)] = .ok (.sh (.int (dr w m)), [.byr (wl (dw w m)), .no]) := by
  obtain ⟨a, b, c⟩ := w
  have h0 : m ≠ 0 := by omega
  have hd : ∀ i, CDv i m := fun i => cdv_small h0 (by omega)
  by_cases ha : 0 < a
  · simp [f__law_draw, g__law_draw, wl, dr, dw, ha, h0, hd]
  · have k1 : ∀ x, IntMulOk 104729 x := fun x => mul_okL (by decide)
    have k2 : ∀ x, IntMulOk x 48271 := fun x => mul_okR (by decide)
    have k3 : ∀ x : Int, IntMulOk (x.fmod 2147483647) ((x.fmod 2147483647).fdiv 1009 + 69621) := fun x => mul_okL (by have := fmod_bd x 2147483647 (by decide); omega)
    have k4 : ∀ x : Int, IntMulOk (x.fmod 2147483647) ((x.fmod 2147483647).fdiv 2003 + 40692) := fun x => mul_okL (by have := fmod_bd x 2147483647 (by decide); omega)
    have k5 : ∀ x, CDv x 1009 := fun x => cdv_small (by decide) (by decide)
    have k6 : ∀ x, CDv x 2003 := fun x => cdv_small (by decide) (by decide)
    simp [f__law_draw, g__law_draw, wl, dr, dw, ha, h0, pMul_int, k1, k2, k3, k4, k5, k6, n1, n2]
abbrev tI (r : List Int) : D := .tup (r.map D.int)
theorem sz {m : Nat} (h : m ≤ 100000) : m ≤ sizeLine := by rw [szl]; omega
theorem szlt {m : Nat} (h : m ≤ 100000) : m < sizeLine := by rw [szl]; omega
theorem rgk {m : Nat} (h : m ≤ 100000) : rngOk (m : Int) := rngOk_nat m (by omega)
theorem okNs_ints (n : Nat) : ∀ r : List Int, okNs n (r.map D.int) = true
  | [] => by simp
  | x :: r => by simp [okNs_ints n r]
theorem eqDs_ints : ∀ r s : List Int, eqDs (r.map D.int) (s.map D.int) = (r == s)
  | [], [] => rfl
  | [], y :: s => rfl
  | x :: r, [] => rfl
  | x :: r, y :: s => by
    simp only [List.map_cons, eqDs_cons, eqD_int, eqDs_ints r s]
    rfl
def isWh : D → Bool
  | .int _ => true
  | _ => false
def okT : D → Bool
  | .ins _ _ => false
  | .scr _ => false
  | _ => true
theorem whole_ev (d : D) (h : okT d = true) : f_is_whole [.sh d] = .ok (.sh (.bl (isWh d)), [.no]) := by
  cases d <;> first | (cases h; done) | simp [f_is_whole, g_is_whole, isB, isWh]
def isRow (d : D) (n : Int) : Bool := match d with
  | .tup ds => decide ((ds.length : Int) = n) && ds.all isWh
  | _ => false
def okR (d : D) : Bool := match d with
  | .tup ds => ds.all okT
  | d => okT d
theorem isRow_of (r : List Int) : isRow (tI r) r.length = true := by
  simp only [isRow, List.length_map, decide_true, Bool.true_and]
  rw [List.all_map, List.all_eq_true]
  intro x _
  rfl
theorem row_ev (d : D) (n : Int) (h : okR d = true) : f_is_row [.sh d, .sh (.int n)] = .ok (.sh (.bl (isRow d n)), [.no, .no]) := by
  cases d with
  | tup ds =>
    by_cases hn : (ds.length : Int) = n
    · simp [f_is_row, g_is_row, isB, hn, isRow, c_is_row_0]
      rw [lc_map (f := fun d => D.bl (isWh d))]
      · have e1 : (ds.map fun d => D.bl (isWh d)).all okB = true := by
          rw [List.all_map, List.all_eq_true]; intro x _; rfl
        have e2 : ((ds.map fun d => D.bl (isWh d)).map trB).all id = ds.all isWh := by
          rw [List.map_map, List.all_map]; rfl
        simp only [lcBack_ok, bind_ok, frz_own, ops_nil, pAnyK_lst, e1, e2, if_true]
        simp
      · intro d hd k
        simp [whole_ev d (List.all_eq_true.mp h d hd)]
    · simp [f_is_row, g_is_row, isB, hn, isRow]
  | ins c fs => cases h
  | scr ns => cases h
  | _ => simp [f_is_row, g_is_row, isB, isRow]
section
variable {S : Type} {m : Itm} {st : Tg} {test : Sb} {elt : Sx} {vs : List Nat}
theorem lc_ints {P : Int → Prop} (R : S → List SD) : ∀ {ds : List D}, (∀ s, ∀ d ∈ ds, ∃ x s', P x ∧ ∀ k, lcTg m test elt vs k (st d (R s)) = (k (R s')).bind fun q => .ok (D.int x :: q.1, q.2)) → ∀ s, ∃ (r : List Int) (s' : S), lcL m st test elt vs ds (R s) = .ok (r.map D.int, R s') ∧ r.length = ds.length ∧ ∀ x ∈ r, P x
  | [], _, s => ⟨[], s, rfl, rfl, fun x hx => by cases hx⟩
  | d :: ds, h, s => by
    obtain ⟨x, s1, hp, e⟩ := h s d (by simp)
    obtain ⟨r, s2, e2, hl, hr⟩ := lc_ints R (ds := ds) (fun s d hd => h s d (List.mem_cons_of_mem _ hd)) s1
    refine ⟨x :: r, s2, ?_, by simp [hl], fun y hy => ?_⟩
    · rw [lcL_cons, e, e2]
      rfl
    · rcases List.mem_cons.mp hy with rfl | hy
      · exact hp
      · exact hr y hy
theorem lc_rows {P : List Int → Prop} (R : S → List SD) : ∀ {ds : List D}, (∀ s, ∀ d ∈ ds, ∃ x s', P x ∧ ∀ k, lcTg m test elt vs k (st d (R s)) = (k (R s')).bind fun q => .ok (tI x :: q.1, q.2)) → ∀ s, ∃ (r : List (List Int)) (s' : S), lcL m st test elt vs ds (R s) = .ok (r.map tI, R s') ∧ r.length = ds.length ∧ ∀ x ∈ r, P x
  | [], _, s => ⟨[], s, rfl, rfl, fun x hx => by cases hx⟩
  | d :: ds, h, s => by
    obtain ⟨x, s1, hp, e⟩ := h s d (by simp)
    obtain ⟨r, s2, e2, hl, hr⟩ := lc_rows R (ds := ds) (fun s d hd => h s d (List.mem_cons_of_mem _ hd)) s1
    refine ⟨x :: r, s2, ?_, by simp [hl], fun y hy => ?_⟩
    · rw [lcL_cons, e, e2]
      rfl
    · rcases List.mem_cons.mp hy with rfl | hy
      · exact hp
      · exact hr y hy
end
end Lw
end
section
namespace Lw
open PySem PySem.Spec PyProof.Rows L2 Wm
theorem all_bl {f : D → Bool} (xs : List D) : pAll [.lst (xs.map fun d => D.bl (f d))] = .ok (.sh (.bl (xs.all f))) := by
  have e1 : (xs.map fun d => D.bl (f d)).all okB = true := by
    rw [List.all_map, List.all_eq_true]; intro x _; rfl
  have e2 : ((xs.map fun d => D.bl (f d)).map trB).all id = xs.all f := by
    rw [List.map_map, List.all_map]; rfl
  simp only [pAnyK_lst, e1, e2, if_true]
@[simp] theorem pList_tup (xs : List D) : pList [.tup xs] = .ok (.own xs) := (rfl)
theorem at_mem (xs : List D) (i : Int) (h0 : 0 ≤ i) (h1 : i < xs.length) : ∃ x ∈ xs, atI xs i = some x := by
  have hl : i.toNat < xs.length := by omega
  refine ⟨xs[i.toNat], List.getElem_mem hl, ?_⟩
  exact atI_at _ _ _ h0 (List.getElem?_eq_getElem hl)
theorem seq_nx {g h : Ss} {ρ ρ' : List SD} (e : g ρ = .ok (.nx ρ')) : sSeq g h ρ = h ρ' := by rw [sSeq_ap, e]; rfl
theorem okR_tup {ds : List D} (h : ∀ d ∈ ds, okT d = true) : okR (.tup ds) = true := List.all_eq_true.mpr h
theorem ints_okT (r : List Int) : ∀ d ∈ r.map D.int, okT d = true := fun d hd => by
  obtain ⟨i, _, rfl⟩ := List.mem_map.mp hd; rfl
end Lw
end
section
namespace Lw
open PySem PySem.Spec PyProof.Rows L2 Wm
def lsl (b : Bool) (xs : List D) : SD := bif b then .byr xs else .sh (.lst xs)
def lso (b : Bool) (xs : List D) : SD := bif b then .byr xs else .no
theorem row_tI (r : List Int) (n : Nat) (h : r.length = n) : f_is_row [.sh (tI r), .sh (.int n)] = .ok (.sh (.bl true), [.no, .no]) := by
  rw [row_ev _ _ (okR_tup (ints_okT r)), ← h, isRow_of]
theorem checkr_ok (b : Bool) (rs : List (List Int)) (n : Nat) (h : ∀ r ∈ rs, r.length = n) : f_check_rows [lsl b (rs.map tI), .sh (.int n)] = .ok (.sh .non, [lso b (rs.map tI), .no]) := by
  have turn : ∀ (s0 : SD), ∀ x ∈ rs.zipIdx, ∀ ρ, (∃ x3 x4, ρ = [s0, .sh (.int n), x3, x4]) → ∃ ρ', (∃ x3 x4, ρ' = [s0, .sh (.int n), x3, x4]) ∧ ∀ k, forT l_check_rows_0 k (stT [2, 3] (D.tup [.int (x.2 : Nat), tI x.1]) ρ) = k ρ' := by
    rintro s0 ⟨d, i⟩ hx _ ⟨x3, x4, rfl⟩
    have hd := h d (List.fst_mem_of_mem_zipIdx hx)
    exact ⟨_, ⟨.sh (.int (i : Nat)), .sh (tI d), rfl⟩, fun k => by simp [l_check_rows_0, row_tI d n hd]⟩
  have e0 := enum_map (g := tI) rs
  cases b with
  | false =>
    obtain ⟨ρ', ⟨x3, x4, rfl⟩, e⟩ := for_thru _ (turn (.sh (.lst (rs.map tI)))) ⟨.no, .no, rfl⟩
    simp [lsl, lso, f_check_rows, g_check_rows, isB, e0, e]
  | true =>
    obtain ⟨ρ', ⟨x3, x4, rfl⟩, e⟩ := forK_thru (m := ⟨rs.zipIdx.map fun p => D.tup [.int (p.2 : Nat), tI p.1], [(0, .byr (rs.map tI))]⟩) _ (by rintro ρ ⟨x3, x4, rfl⟩; simp) (turn (.byr (rs.map tI))) ⟨.no, .no, rfl⟩
    simp [lsl, lso, f_check_rows, g_check_rows, isB, e0, e]
def at0 (r : List Int) (p : Nat) : Int := r.getD p 0
theorem at0_get (r : List Int) (p : Nat) (h : p < r.length) : atI (r.map D.int) (p : Int) = some (.int (at0 r p)) := by
  apply atI_nth
  rw [List.getElem?_map, at0, List.getElem?_eq_getElem h, List.getD_eq_getElem?_getD, List.getElem?_eq_getElem h]
  rfl
end Lw
end
section
namespace Dt
def sm : Nat → (Nat → Int) → Int
  | 0, _ => 0
  | n + 1, f => sm n f + f n
theorem sm_congr {f g : Nat → Int} : ∀ {n : Nat}, (∀ i, i < n → f i = g i) → sm n f = sm n g
  | 0, _ => rfl
  | n + 1, h => by
    unfold sm
    rw [sm_congr fun i hi => h i (Nat.lt_succ_of_lt hi), h n (Nat.lt_succ_self n)]
theorem sm_add {f g : Nat → Int} : ∀ {n : Nat}, sm n (fun i => f i + g i) = sm n f + sm n g
  | 0 => rfl
  | n + 1 => by
    show sm n (fun i => f i + g i) + (f n + g n) = (sm n f + f n) + (sm n g + g n)
    rw [sm_add]; omega
theorem sm_mul {c : Int} {f : Nat → Int} : ∀ {n : Nat}, sm n (fun i => c * f i) = c * sm n f
  | 0 => by simp [sm]
  | n + 1 => by
    unfold sm
    rw [sm_mul, Int.mul_add]
theorem sm_neg {f : Nat → Int} : ∀ {n : Nat}, sm n (fun i => - f i) = - sm n f
  | 0 => rfl
  | n + 1 => by
    show sm n (fun i => - f i) + - f n = - (sm n f + f n)
    rw [sm_neg]; omega
theorem sm_zero : ∀ {n : Nat}, sm n (fun _ => 0) = 0
  | 0 => rfl
  | n + 1 => by
    unfold sm
    rw [sm_zero]; rfl
theorem sm_swap {f : Nat → Nat → Int} {m : Nat} : ∀ {n : Nat}, sm n (fun i => sm m (f i)) = sm m (fun j => sm n (fun i => f i j))
  | 0 => by
    show 0 = sm m fun _ => 0
    rw [sm_zero]
  | n + 1 => by
    show sm n (fun i => sm m (f i)) + sm m (f n) = sm m (fun j => sm n (fun i => f i j) + f n j)
    rw [sm_add, sm_swap]
theorem sm_first {f : Nat → Int} : ∀ {n : Nat}, sm (n + 1) f = f 0 + sm n (fun i => f (i + 1))
  | 0 => by simp [sm]
  | n + 1 => by
    rw [sm, sm_first (n := n), sm]; omega
def sk (k j : Nat) : Nat := if j < k then j else j + 1
def us (k l : Nat) : Nat := if l < k then l else l - 1
theorem sm_skip {F : Nat → Int} {k : Nat} : ∀ {n : Nat}, k ≤ n → sm n (fun j => F (sk k j)) = sm (n + 1) (fun l => if l = k then 0 else F l)
  | 0, h => by
    have : k = 0 := by omega
    subst this
    simp [sm]
  | n + 1, h => by
    by_cases e : k = n + 1
    · subst e
      have h1 : sm (n + 1) (fun j => F (sk (n + 1) j)) = sm (n + 1) (fun l => if l = n + 1 then 0 else F l) := sm_congr fun i hi => by
        rw [if_neg (by omega)]
        unfold sk
        rw [if_pos hi]
      rw [h1]
      conv => rhs; rw [sm]
      rw [if_pos rfl]; omega
    · have hk : k ≤ n := by omega
      have h1 : sk k n = n + 1 := by unfold sk; rw [if_neg (by omega)]
      rw [sm, sm_skip hk, h1]
      conv => rhs; rw [sm]
      rw [if_neg (by omega)]
def sg (k : Nat) : Int := if k % 2 = 0 then 1 else -1
theorem sg_succ (k : Nat) : sg (k + 1) = - sg k := by
  unfold sg
  by_cases h : k % 2 = 0
  · rw [if_pos h, if_neg (by omega)]
  · rw [if_neg h, if_pos (by omega)]; rfl
abbrev Mt := Nat → Nat → Int
def mi (k : Nat) (A : Mt) : Mt := fun i j => A (i + 1) (sk k j)
def det : Nat → Mt → Int
  | 0, _ => 1
  | n + 1, A => sm (n + 1) fun k => sg k * A 0 k * det n (mi k A)
theorem det_congr : ∀ {n : Nat} {A B : Mt}, (∀ i j, i < n → j < n → A i j = B i j) → det n A = det n B
  | 0, _, _, _ => rfl
  | n + 1, A, B, h => by
    unfold det
    refine sm_congr fun k hk => ?_
    rw [h 0 k (by omega) hk, det_congr (A := mi k A) (B := mi k B) fun i j hi hj => h _ _ (by omega) (by unfold sk; split <;> omega)]
def sr (i : Nat) (u : Nat → Int) (A : Mt) : Mt := fun r j => if r = i then u j else A r j
theorem mi_sr0 {u : Nat → Int} {A : Mt} {k : Nat} : mi k (sr 0 u A) = mi k A := by
  funext i j
  unfold mi sr
  rw [if_neg (by omega)]
theorem mi_srS {u : Nat → Int} {A : Mt} {k i : Nat} : mi k (sr (i + 1) u A) = sr i (fun j => u (sk k j)) (mi k A) := by
  funext r j
  unfold mi sr
  by_cases h : r = i
  · rw [if_pos (by omega), if_pos h]
  · rw [if_neg (by omega), if_neg h]
theorem det_lin {x y : Int} : ∀ {n i : Nat} {u v : Nat → Int} {A : Mt}, i < n → det n (sr i (fun j => x * u j + y * v j) A) = x * det n (sr i u A) + y * det n (sr i v A)
  | 0, _, _, _, _, h => by omega
  | n + 1, 0, u, v, A, _ => by
    unfold det
    rw [← sm_mul, ← sm_mul, ← sm_add]
    refine sm_congr fun k hk => ?_
    rw [mi_sr0, mi_sr0, mi_sr0]
    have e : ∀ w : Nat → Int, sr 0 w A 0 k = w k := fun w => if_pos rfl
    rw [e, e, e]
    grind
  | n + 1, i + 1, u, v, A, h => by
    unfold det
    rw [← sm_mul, ← sm_mul, ← sm_add]
    refine sm_congr fun k hk => ?_
    rw [mi_srS, mi_srS, mi_srS, det_lin (by omega)]
    have e : ∀ w : Nat → Int, sr (i + 1) w A 0 k = A 0 k := fun w => if_neg (by omega)
    rw [e, e, e]
    grind
def tw (a b r : Nat) : Nat := if r = a then b else if r = b then a else r
def sw (a b : Nat) (A : Mt) : Mt := fun r j => A (tw a b r) j
theorem mi_sw {k i : Nat} {A : Mt} : mi k (sw (i + 1) (i + 2) A) = sw i (i + 1) (mi k A) := by
  funext r j
  unfold mi sw
  congr 1
  unfold tw
  repeat' split
  all_goals omega
theorem det_two (n : Nat) (A : Mt) : det (n + 2) A = sm (n + 2) fun k => sm (n + 2) fun l => if l = k then 0 else sg k * sg (us k l) * (A 0 k * A 1 l) * det n (fun i c => A (i + 2) (sk k (sk (us k l) c))) := by
  show (sm (n + 2) fun k => sg k * A 0 k * (sm (n + 1) fun j => sg j * mi k A 0 j * det n (mi j (mi k A)))) = _
  refine sm_congr fun k hk => ?_
  rw [← sm_mul]
  have e := sm_skip (F := fun l => sg k * sg (us k l) * (A 0 k * A 1 l) * det n (fun i c => A (i + 2) (sk k (sk (us k l) c)))) (show k ≤ n + 1 by omega)
  rw [← e]
  refine sm_congr fun j hj => ?_
  have hu : us k (sk k j) = j := by
    unfold us sk
    by_cases h : j < k
    · rw [if_pos h, if_pos h]
    · rw [if_neg h, if_neg (by omega)]; omega
  rw [hu]
  show sg k * A 0 k * (sg j * A 1 (sk k j) * det n (fun i c => A (i + 2) (sk k (sk j c)))) = _
  grind
theorem det_sw0 (n : Nat) (A : Mt) : det (n + 2) (sw 0 1 A) = - det (n + 2) A := by
  rw [det_two, det_two, sm_swap, ← sm_neg]
  refine sm_congr fun k hk => ?_
  rw [← sm_neg]
  refine sm_congr fun l hl => ?_
  by_cases e : l = k
  · rw [if_pos e, if_pos e.symm]; rfl
  · rw [if_neg e, if_neg (Ne.symm e)]
    have e1 : (fun i c => sw 0 1 A (i + 2) (sk l (sk (us l k) c))) = (fun i c => A (i + 2) (sk k (sk (us k l) c))) := by
      funext i c
      unfold sw
      have : tw 0 1 (i + 2) = i + 2 := by unfold tw; rw [if_neg (by omega), if_neg (by omega)]
      rw [this]
      congr 1
      unfold sk us
      repeat' split
      all_goals omega
    rw [e1]
    have e2 : sg l * sg (us l k) = - (sg k * sg (us k l)) := by
      unfold us
      by_cases h : k < l
      · rw [if_pos h, if_neg (by omega)]
        obtain ⟨m, rfl⟩ : ∃ m, l = m + 1 := ⟨l - 1, by omega⟩
        rw [sg_succ, Nat.add_sub_cancel]
        grind
      · rw [if_neg h, if_pos (by omega)]
        obtain ⟨m, rfl⟩ : ∃ m, k = m + 1 := ⟨k - 1, by omega⟩
        rw [sg_succ, Nat.add_sub_cancel]
        grind
    have e3 : sw 0 1 A 0 l = A 1 l := rfl
    have e4 : sw 0 1 A 1 k = A 0 k := rfl
    rw [e2, e3, e4]
    grind
theorem det_adj : ∀ {n i : Nat} {A : Mt}, i + 1 < n → det n (sw i (i + 1) A) = - det n A
  | 0, _, _, h => by omega
  | 1, _, _, h => by omega
  | n + 2, 0, A, _ => det_sw0 n A
  | n + 2, i + 1, A, h => by
    rw [det, det, ← sm_neg]
    refine sm_congr fun k hk => ?_
    rw [mi_sw, det_adj (by omega)]
    have : sw (i + 1) (i + 2) A 0 k = A 0 k := by
      unfold sw tw
      rw [if_neg (by omega), if_neg (by omega)]
    rw [this]
    grind
theorem det_alike : ∀ {d n a : Nat} {A : Mt}, a + d + 1 < n → (∀ j, A a j = A (a + d + 1) j) → det n A = 0
  | 0, n, a, A, h, e => by
    have h1 : sw a (a + 1) A = A := by
      funext r j
      unfold sw tw
      repeat' split
      · rename_i q; subst q; exact (e j).symm
      · rename_i q; subst q; exact e j
      · rfl
    have h2 := det_adj (A := A) (show a + 1 < n by omega)
    rw [h1] at h2
    omega
  | d + 1, n, a, A, h, e => by
    have h2 := det_adj (A := A) (show a + d + 1 + 1 < n by omega)
    have h3 := det_alike (d := d) (n := n) (a := a) (A := sw (a + d + 1) (a + d + 1 + 1) A) (by omega) fun j => by
      have q1 : tw (a + d + 1) (a + d + 1 + 1) a = a := by unfold tw; rw [if_neg (by omega), if_neg (by omega)]
      have q2 : tw (a + d + 1) (a + d + 1 + 1) (a + d + 1) = a + d + 1 + 1 := by unfold tw; rw [if_pos rfl]
      unfold sw
      rw [q1, q2]
      exact e j
    omega
theorem det_same {n a b : Nat} {A : Mt} (ha : a < n) (hb : b < n) (hn : a ≠ b) (e : ∀ j, A a j = A b j) : det n A = 0 := by
  rcases Nat.lt_or_gt_of_ne hn with h | h
  · obtain ⟨d, rfl⟩ : ∃ d, b = a + d + 1 := ⟨b - a - 1, by omega⟩
    exact det_alike hb e
  · obtain ⟨d, rfl⟩ : ∃ d, a = b + d + 1 := ⟨a - b - 1, by omega⟩
    exact det_alike ha fun j => (e j).symm
theorem sr_self {i : Nat} {A : Mt} : sr i (A i) A = A := by
  funext r j
  unfold sr
  split
  · rename_i h; rw [h]
  · rfl
theorem det_col0 : ∀ {n : Nat} {A : Mt}, (∀ i, i < n + 1 → A i 0 = 0) → det (n + 1) A = 0
  | n, A, h => by
    rw [det, sm_first, h 0 (by omega)]
    have e : sm n (fun i => sg (i + 1) * A 0 (i + 1) * det n (mi (i + 1) A)) = sm n (fun _ => 0) := sm_congr fun k hk => by
      obtain ⟨m, rfl⟩ : ∃ m, n = m + 1 := ⟨n - 1, by omega⟩
      rw [det_col0 (A := mi (k + 1) A) fun i hi => h _ (by omega)]
      omega
    rw [e, sm_zero]
    omega
theorem det_first {n : Nat} {A : Mt} (h : ∀ i, i < n → A (i + 1) 0 = 0) : det (n + 1) A = A 0 0 * det n (fun i j => A (i + 1) (j + 1)) := by
  rw [det, sm_first]
  have e : sm n (fun i => sg (i + 1) * A 0 (i + 1) * det n (mi (i + 1) A)) = sm n (fun _ => 0) := sm_congr fun k hk => by
    obtain ⟨m, rfl⟩ : ∃ m, n = m + 1 := ⟨n - 1, by omega⟩
    rw [det_col0 (A := mi (k + 1) A) fun i hi => h _ (by omega)]
    omega
  rw [e, sm_zero]
  have e2 : mi 0 A = fun i j => A (i + 1) (j + 1) := by
    funext i j
    unfold mi sk
    rw [if_neg (by omega)]
  rw [e2]
  show 1 * A 0 0 * _ + 0 = _
  rw [Int.one_mul, Int.add_zero]
theorem det_all {c : Int} : ∀ {n : Nat} {A : Mt}, det n (fun i j => c * A i j) = c ^ n * det n A
  | 0, _ => by simp [det]
  | n + 1, A => by
    rw [det, det, ← sm_mul]
    refine sm_congr fun k hk => ?_
    have e : mi k (fun i j => c * A i j) = fun i j => c * mi k A i j := rfl
    rw [e, det_all, Int.pow_succ]
    grind
end Dt
end
section
namespace Dt
def chr (A : Mt) (r : Nat) : Mt := fun i j => if 0 < i ∧ i ≤ r then A 0 0 * A i j + (- A i 0) * A 0 j else A i j
theorem det_chr {n : Nat} {A : Mt} : ∀ {r : Nat}, r ≤ n → det (n + 1) (chr A r) = A 0 0 ^ r * det (n + 1) A
  | 0, _ => by
    have : chr A 0 = A := by
      funext i j
      unfold chr
      rw [if_neg (by omega)]
    rw [this]
    simp
  | r + 1, h => by
    have e : chr A (r + 1) = sr (r + 1) (fun j => A 0 0 * A (r + 1) j + (- A (r + 1) 0) * A 0 j) (chr A r) := by
      funext i j
      unfold sr
      by_cases hi : i = r + 1
      · subst hi
        rw [if_pos rfl]
        unfold chr
        rw [if_pos (by omega)]
      · rw [if_neg hi]
        unfold chr
        by_cases h2 : 0 < i ∧ i ≤ r
        · rw [if_pos h2, if_pos (by omega)]
        · rw [if_neg h2, if_neg (by omega)]
    have r0 : ∀ j, chr A r 0 j = A 0 j := fun j => by unfold chr; rw [if_neg (by omega)]
    have r1 : ∀ j, chr A r (r + 1) j = A (r + 1) j := fun j => by unfold chr; rw [if_neg (by omega)]
    have s1 : sr (r + 1) (A (r + 1)) (chr A r) = chr A r := by
      have : A (r + 1) = chr A r (r + 1) := by funext j; rw [r1]
      rw [this, sr_self]
    have s2 : det (n + 1) (sr (r + 1) (A 0) (chr A r)) = 0 := det_same (a := r + 1) (b := 0) (by omega) (by omega) (by omega) fun j => by
      unfold sr
      rw [if_pos rfl, if_neg (by omega), r0]
    rw [e, det_lin (by omega), s1, s2, det_chr (by omega), Int.pow_succ]
    grind
def cond (A : Mt) : Mt := fun i j => A 0 0 * A (i + 1) (j + 1) - A (i + 1) 0 * A 0 (j + 1)
theorem det_cond0 {n : Nat} {A : Mt} : A 0 0 * det n (cond A) = A 0 0 ^ n * det (n + 1) A := by
  have h := det_chr (A := A) (Nat.le_refl n)
  have r0 : ∀ j, chr A n 0 j = A 0 j := fun j => by unfold chr; rw [if_neg (by omega)]
  have z : ∀ i, i < n → chr A n (i + 1) 0 = 0 := fun i hi => by
    unfold chr
    rw [if_pos (by omega)]
    grind
  rw [det_first z, r0] at h
  rw [← h]
  congr 1
  refine det_congr fun i j hi hj => ?_
  unfold chr cond
  rw [if_pos (by omega)]
  grind
theorem det_cond {n : Nat} {A : Mt} (h : A 0 0 ≠ 0) : det (n + 1) (cond A) = A 0 0 ^ n * det (n + 2) A := by
  have e := det_cond0 (n := n + 1) (A := A)
  rw [Int.pow_succ] at e
  have e2 : A 0 0 * det (n + 1) (cond A) = A 0 0 * (A 0 0 ^ n * det (n + 2) A) := by rw [e]; grind
  exact Int.eq_of_mul_eq_mul_left h e2
def Good (l : Int) (N : Mt) : Prop := ∀ (r : Nat) (I J : Nat → Nat), l ^ r ∣ det (r + 1) (fun i j => N (I i) (J j))
theorem det_two_two (A : Mt) : det 2 A = A 0 0 * A 1 1 - A 1 0 * A 0 1 := by
  simp [det, sm, sg, mi, sk]
  grind
theorem Good.one (N : Mt) : Good 1 N := fun r I J => by
  rw [Int.one_pow]
  exact Int.one_dvd _
theorem Good.sw {l : Int} {N : Mt} (a b : Nat) (h : Good l N) : Good l (sw a b N) := fun r I J => h r (fun i => tw a b (I i)) J
def nxt (l : Int) (N : Mt) : Mt := fun i j => (cond N i j).fdiv l
theorem Good.exact {l : Int} {N : Mt} (h : Good l N) (hl : l ≠ 0) : cond N = fun i j => l * nxt l N i j := by
  funext i j
  have d := h 1 (fun r => if r = 0 then 0 else i + 1) (fun r => if r = 0 then 0 else j + 1)
  rw [det_two_two] at d
  have d : l ∣ cond N i j := by
    have e : l ^ 1 = l := by rw [Int.pow_succ, Int.pow_zero, Int.one_mul]
    rw [e] at d
    exact d
  unfold nxt
  rw [Int.mul_comm]
  exact (Int.fdiv_mul_cancel_of_dvd d).symm
def ah (I : Nat → Nat) (i : Nat) : Nat := match i with
  | 0 => 0
  | i + 1 => I i + 1
theorem Good.next {l : Int} {N : Mt} (h : Good l N) (hl : l ≠ 0) (hp : N 0 0 ≠ 0) : Good (N 0 0) (nxt l N) := fun r I J => by
  obtain ⟨d, hd⟩ := h (r + 1) (ah I) (ah J)
  have e1 : det (r + 1) (fun i j => cond N (I i) (J j)) = N 0 0 ^ r * det (r + 2) (fun i j => N (ah I i) (ah J j)) := by
    exact det_cond (A := fun i j => N (ah I i) (ah J j)) (n := r) hp
  rw [h.exact hl] at e1
  have e2 : det (r + 1) (fun i j => l * nxt l N (I i) (J j)) = l ^ (r + 1) * det (r + 1) (fun i j => nxt l N (I i) (J j)) := det_all (A := fun i j => nxt l N (I i) (J j))
  rw [e2, hd] at e1
  have e3 : l ^ (r + 1) * det (r + 1) (fun i j => nxt l N (I i) (J j)) = l ^ (r + 1) * (N 0 0 ^ r * d) := by rw [e1]; grind
  exact ⟨d, Int.eq_of_mul_eq_mul_left (Int.pow_ne_zero hl) e3⟩
def piv (n c : Nat) (M : Mt) : List Nat := (List.range (n - c)).filterMap fun i => if M (c + i) c ≠ 0 then some (c + i) else none
def stepM (c : Nat) (l : Int) (M : Mt) : Mt := fun k j => if c < k ∧ c < j then (M k j * M c c - M k c * M c j).fdiv l else M k j
def bar (n : Nat) : Nat → Nat → Mt → Int → Int → Int
  | 0, _, _, s, l => s * l
  | m + 1, c, M, s, l => match piv n c M with
    | [] => 0
    | p :: _ => bar n m (c + 1) (stepM c l (sw c p M)) (if p ≠ c then - s else s) (sw c p M c c)
end Dt
end
section
namespace Lw
open PySem PySem.Spec PyProof.Rows L2 Wm
def mx (g : List (List Int)) (i j : Nat) : Int := at0 (g.getD i []) j
def dt (g : List (List Int)) : Int := Dt.det g.length (mx g)
theorem getD_mem {α : Type} {xs : List α} {i : Nat} {d : α} (h : i < xs.length) : xs.getD i d ∈ xs := by
  rw [List.getD_eq_getElem?_getD, List.getElem?_eq_getElem h]
  exact List.getElem_mem h
end Lw
end
section
namespace Rd
def at0 (r : List Int) (p : Nat) : Int := r.getD p 0
def addL (r s : List Int) (m : Int) : List Int := List.zipWith (fun a b => a + m * b) r s
def cut (c : Nat) (f r : List Int) : List Int := addL r f (-((at0 r c).fdiv (at0 f c)))
def Bn (N : Nat) (r : List Int) : Prop := ∀ x ∈ r, x.natAbs ≤ N
theorem Bn.le {N M : Nat} {r : List Int} (h : Bn N r) (hl : N ≤ M) : Bn M r := fun x hx => Nat.le_trans (h x hx) hl
theorem at0_mem {r : List Int} {c : Nat} (h : c < r.length) : at0 r c ∈ r := by
  unfold at0
  rw [List.getD_eq_getElem?_getD, List.getElem?_eq_getElem h]
  exact List.getElem_mem h
theorem Bn.at {N c : Nat} {r : List Int} (h : Bn N r) (hc : c < r.length) : (at0 r c).natAbs ≤ N := h _ (at0_mem hc)
theorem addL_len {r s : List Int} {m : Int} (h : r.length = s.length) : (addL r s m).length = r.length := by simp [addL, h]
theorem at0_addL {r s : List Int} {m : Int} {c : Nat} (h1 : c < r.length) (h2 : c < s.length) : at0 (addL r s m) c = at0 r c + m * at0 s c := by
  unfold at0 addL
  simp only [List.getD_eq_getElem?_getD]
  rw [List.getElem?_eq_getElem h1, List.getElem?_eq_getElem h2, List.getElem?_eq_getElem (by simp; omega)]
  simp
theorem mem_addL {s : List Int} {m x : Int} : ∀ {r s : List Int}, x ∈ addL r s m → ∃ a ∈ r, ∃ b ∈ s, x = a + m * b
  | [], s, h => by simp [addL] at h
  | a :: r, [], h => by simp [addL] at h
  | a :: r, b :: s, h => by
    have h : x = a + m * b ∨ x ∈ addL r s m := by simpa [addL] using h
    rcases h with h | h
    · exact ⟨a, by simp, b, by simp, h⟩
    · obtain ⟨a', ha, b', hb, e⟩ := mem_addL (s := s) h
      exact ⟨a', by simp [ha], b', by simp [hb], e⟩
theorem addL_bn {N M k : Nat} {r s : List Int} {m : Int} (h1 : Bn N r) (h2 : Bn M s) (hm : m.natAbs ≤ k) : Bn (N + k * M) (addL r s m) := by
  intro x hx
  obtain ⟨a, ha, b, hb, rfl⟩ := mem_addL (s := s) hx
  have e1 := h1 a ha
  have e2 := h2 b hb
  have e3 : (m * b).natAbs ≤ k * M := by rw [Int.natAbs_mul]; exact Nat.mul_le_mul hm e2
  have := Int.natAbs_add_le a (m * b)
  omega
theorem cut_len {c : Nat} {f r : List Int} (h : r.length = f.length) : (cut c f r).length = r.length := addL_len h
theorem cut_at {c : Nat} {f r : List Int} (h1 : c < r.length) (h2 : c < f.length) : at0 (cut c f r) c = (at0 r c).fmod (at0 f c) := by
  unfold cut
  rw [at0_addL h1 h2, Int.fmod_def, Int.neg_mul, Int.mul_comm (at0 f c)]
  omega
theorem fmod_lt (x y : Int) (hy : y ≠ 0) : (x.fmod y).natAbs < y.natAbs := by
  by_cases h : 0 < y
  · have h1 := Int.fmod_nonneg_of_pos x h
    have h2 := Int.fmod_lt_of_pos x h
    omega
  · have h1 := Int.fmod_nonneg_of_pos (-x) (show 0 < -y by omega)
    have h2 := Int.fmod_lt_of_pos (-x) (show 0 < -y by omega)
    rw [Int.neg_fmod_neg] at h1 h2
    omega
theorem fmod_sign (x y : Int) (hy : y ≠ 0) (h0 : x.fmod y ≠ 0) : 0 < x.fmod y ↔ 0 < y := by
  by_cases h : 0 < y
  · have h1 := Int.fmod_nonneg_of_pos x h
    constructor
    · intro _; exact h
    · intro _; omega
  · have h1 := Int.fmod_nonneg_of_pos (-x) (show 0 < -y by omega)
    rw [Int.neg_fmod_neg] at h1
    constructor
    · intro h2; omega
    · intro h2; exact absurd h2 h
theorem fdiv_mul (x y : Int) : y * x.fdiv y = x - x.fmod y := by
  have := Int.fmod_def x y
  omega
theorem fdiv_le (x y : Int) (hy : y ≠ 0) : (x.fdiv y).natAbs ≤ x.natAbs + 1 := by
  have h1 := fdiv_mul x y
  have h2 := fmod_lt x y hy
  have h3 : (y * x.fdiv y).natAbs ≤ x.natAbs + (y.natAbs - 1) := by
    rw [h1]
    have := Int.natAbs_sub_le x (x.fmod y)
    omega
  rw [Int.natAbs_mul] at h3
  have hp : 1 ≤ y.natAbs := by omega
  by_cases hq : (x.fdiv y).natAbs ≤ x.natAbs + 1
  · exact hq
  · exfalso
    have hq : x.natAbs + 2 ≤ (x.fdiv y).natAbs := by omega
    have h4 : y.natAbs * (x.natAbs + 2) ≤ y.natAbs * (x.fdiv y).natAbs := Nat.mul_le_mul_left _ hq
    have h5 : x.natAbs ≤ y.natAbs * x.natAbs := Nat.le_mul_of_pos_left _ hp
    have h6 : y.natAbs * (x.natAbs + 2) = y.natAbs * x.natAbs + y.natAbs * 2 := Nat.mul_add ..
    omega
theorem same_sgn {x y : Int} (hx : x ≠ 0) (hy : y ≠ 0) (h : 0 < x ↔ 0 < y) : (x.fdiv y).natAbs * y.natAbs ≤ x.natAbs ∧ (x.fmod y).natAbs = x.natAbs % y.natAbs := by
  have key : ∀ x y : Int, 0 < x → 0 < y → (x.fdiv y).natAbs * y.natAbs ≤ x.natAbs ∧ (x.fmod y).natAbs = x.natAbs % y.natAbs := fun x y hx hy => by
    have e1 : x.fdiv y = x / y := Int.fdiv_eq_ediv_of_nonneg x (by omega)
    have e2 : x.fmod y = x % y := Int.fmod_eq_emod_of_nonneg x (by omega)
    rw [e1, e2]
    obtain ⟨a, rfl⟩ : ∃ a : Nat, x = a := ⟨x.toNat, by omega⟩
    obtain ⟨b, rfl⟩ : ∃ b : Nat, y = b := ⟨y.toNat, by omega⟩
    have e3 : ((a : Int) / (b : Int)).natAbs = a / b := by rw [← Int.natCast_ediv]; rfl
    have e4 : ((a : Int) % (b : Int)).natAbs = a % b := by rw [← Int.natCast_emod]; rfl
    rw [e3, e4]
    exact ⟨Nat.div_mul_le_self a b, rfl⟩
  by_cases hp : 0 < x
  · exact key x y hp (h.mp hp)
  · have hq : ¬ 0 < y := fun z => hp (h.mpr z)
    have := key (-x) (-y) (by omega) (by omega)
    rw [Int.neg_fdiv_neg, Int.neg_fmod_neg] at this
    simpa using this
end Rd
end
section
namespace Rd
abbrev Rows := List (List Int)
def nz (c : Nat) (r : List Int) : Bool := at0 r c != 0
def zr (c : Nat) (r : List Int) : Bool := at0 r c == 0
def led (c : Nat) (f : List Int) (S : Rows) : Rows := (S.erase f).map (cut c f)
inductive Red (c : Nat) : Rows → Rows → Rows → Rows → Prop
  | done (S O : Rows) : Red c S O S O
  | step {S O S' O' : Rows} (f : List Int) (hf : f ∈ S) (hm : ∀ r ∈ S, (at0 f c).natAbs ≤ (at0 r c).natAbs) (h : Red c (f :: (led c f S).filter (nz c)) (O ++ (led c f S).filter (zr c)) S' O') : Red c S O S' O'
def Wd (n N : Nat) (S : Rows) : Prop := ∀ r ∈ S, r.length = n ∧ Bn N r
structure Ph (c n M : Nat) (S O : Rows) (a X : Nat) : Prop where
  ex : ∃ p rest, S = p :: rest ∧ (at0 p c).natAbs = a ∧ (∀ r ∈ rest, (at0 r c).natAbs < a ∧ at0 r c ≠ 0 ∧ (0 < at0 r c ↔ 0 < at0 p c)) ∧ (rest ≠ [] → ∃ r ∈ rest, X * a * a * (at0 r c).natAbs ≤ M)
  a0 : 0 < a
  w : Wd n X S
  x : X ≤ 2 * M
  o : Wd n (2 * M) O
theorem Wd.le {n N M : Nat} {S : Rows} (h : Wd n N S) (hl : N ≤ M) : Wd n M S := fun r hr => ⟨(h r hr).1, (h r hr).2.le hl⟩
theorem Wd.app {n N : Nat} {S T : Rows} (h : Wd n N S) (g : Wd n N T) : Wd n N (S ++ T) := fun r hr => by
  rcases List.mem_append.mp hr with hr | hr
  · exact h r hr
  · exact g r hr
theorem Wd.filter {n N : Nat} {S : Rows} {p : List Int → Bool} (h : Wd n N S) : Wd n N (S.filter p) := fun r hr => h r (List.mem_filter.mp hr).1
theorem mem_led {c : Nat} {f r : List Int} {S : Rows} (h : r ∈ led c f S) : ∃ s ∈ S.erase f, r = cut c f s := by
  obtain ⟨s, hs, e⟩ := List.mem_map.mp h
  exact ⟨s, hs, e.symm⟩
theorem Ph.next {c n M a X : Nat} {S O : Rows} (h : Ph c n M S O a X) (hc : c < n) (h2 : 1 < S.length) {f : List Int} (hf : f ∈ S) (hm : ∀ r ∈ S, (at0 f c).natAbs ≤ (at0 r c).natAbs) :
    ∃ X', Ph c n M (f :: (led c f S).filter (nz c)) (O ++ (led c f S).filter (zr c)) (at0 f c).natAbs X' ∧ (at0 f c).natAbs < a := by
  obtain ⟨p, rest, rfl, ha, hr, hb⟩ := h.ex
  have hne : rest ≠ [] := fun z => by subst z; simp at h2
  obtain ⟨r0, hr0, hM⟩ := hb hne
  -- the least one is no p
  have hl0 : (at0 f c).natAbs ≤ (at0 r0 c).natAbs := hm r0 (by simp [hr0])
  have hla : (at0 f c).natAbs < a := Nat.lt_of_le_of_lt hl0 (hr r0 hr0).1
  have hfp : f ≠ p := fun z => by rw [z, ha] at hla; omega
  have hfr : f ∈ rest := by
    rcases List.mem_cons.mp hf with z | z
    · exact absurd z hfp
    · exact z
  obtain ⟨_, hf0, hfs⟩ := hr f hfr
  have hl : 0 < (at0 f c).natAbs := by omega
  have p0 : at0 p c ≠ 0 := by have := h.a0; omega
  have wf := h.w f hf
  have wp := h.w p (by simp)
  generalize el : (at0 f c).natAbs = l at hl hla hl0 hm
  -- all of them: sign, size
  have all : ∀ s ∈ p :: rest, at0 s c ≠ 0 ∧ (0 < at0 s c ↔ 0 < at0 f c) ∧ (at0 s c).natAbs ≤ a := by
    intro s hs
    rcases List.mem_cons.mp hs with rfl | hs
    · exact ⟨p0, hfs.symm, by omega⟩
    · exact ⟨(hr s hs).2.1, (hr s hs).2.2.trans hfs.symm, by have := (hr s hs).1; omega⟩
  have led1 : ∀ r ∈ led c f (p :: rest), ∃ s ∈ p :: rest, r = cut c f s ∧ at0 r c = (at0 s c).fmod (at0 f c) ∧ r.length = n ∧ Bn (X + (a / l) * X) r := by
    intro r hr
    obtain ⟨s, hs, rfl⟩ := mem_led hr
    have hs := List.mem_of_mem_erase hs
    have ws := h.w s hs
    obtain ⟨s0, ss, sa⟩ := all s hs
    refine ⟨s, hs, rfl, cut_at (by omega) (by omega), ?_, ?_⟩
    · rw [cut_len (by rw [ws.1, wf.1])]
      exact ws.1
    · refine addL_bn ws.2 wf.2 ?_
      rw [Int.natAbs_neg]
      have := (same_sgn s0 hf0 ss).1
      rw [el] at this
      exact (Nat.le_div_iff_mul_le hl).mpr (Nat.le_trans this sa)
  have hX : (X + (a / l) * X) * l ≤ 2 * (a * X) := by
    have e1 : (a / l) * X * l ≤ a * X := by
      have := Nat.div_mul_le_self a l
      calc (a / l) * X * l = (a / l) * l * X := by rw [Nat.mul_assoc, Nat.mul_comm X l, ← Nat.mul_assoc]
        _ ≤ a * X := Nat.mul_le_mul_right X this
    have e2 : X * l ≤ a * X := by rw [Nat.mul_comm a X]; exact Nat.mul_le_mul_left X (by omega)
    rw [Nat.add_mul]
    omega
  have hMl : X * a * a * l ≤ M := Nat.le_trans (Nat.mul_le_mul_left _ hl0) hM
  have ha0 := h.a0
  have hX2 : X + (a / l) * X ≤ 2 * M := by
    have e1 : X + (a / l) * X ≤ (X + (a / l) * X) * l := Nat.le_mul_of_pos_right _ hl
    have e2 : a * X ≤ X * a * a * l := by
      rw [Nat.mul_comm a X]
      calc X * a ≤ X * a * a := Nat.le_mul_of_pos_right _ ha0
        _ ≤ X * a * a * l := Nat.le_mul_of_pos_right _ hl
    omega
  refine ⟨X + (a / l) * X, ⟨⟨f, (led c f (p :: rest)).filter (nz c), rfl, el, fun r hr => ?_, fun hn => ?_⟩, hl, fun r hr => ?_, hX2, h.o.app fun r hr => ?_⟩, hla⟩
  · obtain ⟨hr1, hr2⟩ := List.mem_filter.mp hr
    obtain ⟨s, hs, e, ec, _⟩ := led1 r hr1
    have n0 : at0 r c ≠ 0 := by simpa [nz] using hr2
    refine ⟨?_, n0, ?_⟩
    · rw [ec, ← el]; exact fmod_lt _ _ hf0
    · rw [ec]; exact fmod_sign _ _ hf0 (by rw [← ec]; exact n0)
  · -- the bound
    by_cases hd : a % l = 0
    · obtain ⟨r, hr⟩ := List.exists_mem_of_ne_nil _ hn
      obtain ⟨hr1, hr2⟩ := List.mem_filter.mp hr
      obtain ⟨s, hs, e, ec, _⟩ := led1 r hr1
      have hlt : (at0 r c).natAbs < l := by rw [ec, ← el]; exact fmod_lt _ _ hf0
      refine ⟨r, hr, ?_⟩
      have ha2 : 2 * l ≤ a := by
        have := Nat.div_add_mod a l
        rw [hd] at this
        by_cases hq : a / l ≤ 1
        · have : l * (a / l) ≤ l * 1 := Nat.mul_le_mul_left l hq
          omega
        · have : l * 2 ≤ l * (a / l) := Nat.mul_le_mul_left l (by omega)
          omega
      generalize (at0 r c).natAbs = y at hlt
      calc (X + a / l * X) * l * l * y ≤ 2 * (a * X) * l * y := Nat.mul_le_mul_right _ (Nat.mul_le_mul_right _ hX)
        _ ≤ 2 * (a * X) * l * l := Nat.mul_le_mul_left _ (by omega)
        _ = (X * a * l) * (2 * l) := by
          rw [Nat.mul_comm a X]
          simp only [Nat.mul_assoc, Nat.mul_left_comm, Nat.mul_comm]
        _ ≤ (X * a * l) * a := Nat.mul_le_mul_left _ ha2
        _ = X * a * a * l := by rw [Nat.mul_assoc (X * a), Nat.mul_comm l a, ← Nat.mul_assoc]
        _ ≤ M := hMl
    · have hpe : p ∈ (p :: rest).erase f := (List.mem_erase_of_ne (Ne.symm hfp)).mpr (by simp)
      have hp1 : cut c f p ∈ led c f (p :: rest) := List.mem_map.mpr ⟨p, hpe, rfl⟩
      have ec : at0 (cut c f p) c = (at0 p c).fmod (at0 f c) := cut_at (by omega) (by omega)
      have em : (at0 (cut c f p) c).natAbs = a % l := by
        rw [ec, (same_sgn p0 hf0 hfs.symm).2, ha, el]
      refine ⟨cut c f p, List.mem_filter.mpr ⟨hp1, ?_⟩, ?_⟩
      · have : at0 (cut c f p) c ≠ 0 := by omega
        simpa [nz] using this
      · rw [em]
        have h2 : 2 * (a % l) ≤ a := by
          have e1 := Nat.div_add_mod a l
          have e2 := Nat.mod_lt a hl
          have e3 : 1 ≤ a / l := (Nat.le_div_iff_mul_le hl).mpr (by omega)
          have e4 : l * 1 ≤ l * (a / l) := Nat.mul_le_mul_left l e3
          omega
        generalize a % l = y at h2
        calc (X + a / l * X) * l * l * y ≤ 2 * (a * X) * l * y := Nat.mul_le_mul_right _ (Nat.mul_le_mul_right _ hX)
          _ = (X * a * l) * (2 * y) := by
            rw [Nat.mul_comm a X]
            simp only [Nat.mul_assoc, Nat.mul_left_comm, Nat.mul_comm]
          _ ≤ (X * a * l) * a := Nat.mul_le_mul_left _ h2
          _ = X * a * a * l := by rw [Nat.mul_assoc (X * a), Nat.mul_comm l a, ← Nat.mul_assoc]
          _ ≤ M := hMl
  · rcases List.mem_cons.mp hr with rfl | hr
    · exact ⟨wf.1, wf.2.le (by omega)⟩
    · obtain ⟨hr1, _⟩ := List.mem_filter.mp hr
      obtain ⟨s, hs, e, ec, h3, h4⟩ := led1 r hr1
      exact ⟨h3, h4⟩
  · obtain ⟨hr1, _⟩ := List.mem_filter.mp hr
    obtain ⟨s, hs, e, ec, h3, h4⟩ := led1 r hr1
    exact ⟨h3, h4.le hX2⟩
theorem Ph.first {c n X : Nat} {S O : Rows} (hc : c < n) (w : Wd n X S) (wo : Wd n X O) (h0 : ∀ r ∈ S, at0 r c ≠ 0) {f : List Int} (hf : f ∈ S) (hm : ∀ r ∈ S, (at0 f c).natAbs ≤ (at0 r c).natAbs) :
    Ph c n ((X + (X + 1) * X) * X * X * X) (f :: (led c f S).filter (nz c)) (O ++ (led c f S).filter (zr c)) (at0 f c).natAbs (X + (X + 1) * X) := by
  have wf := w f hf
  have hf0 := h0 f hf
  have hfX : (at0 f c).natAbs ≤ X := wf.2.at (by omega)
  have hX : 1 ≤ X := by omega
  have led1 : ∀ r ∈ led c f S, ∃ s ∈ S, at0 r c = (at0 s c).fmod (at0 f c) ∧ r.length = n ∧ Bn (X + (X + 1) * X) r := by
    intro r hr
    obtain ⟨s, hs, rfl⟩ := mem_led hr
    have hs := List.mem_of_mem_erase hs
    have ws := w s hs
    refine ⟨s, hs, cut_at (by omega) (by omega), ?_, addL_bn ws.2 wf.2 ?_⟩
    · rw [cut_len (by rw [ws.1, wf.1])]
      exact ws.1
    · rw [Int.natAbs_neg]
      have := fdiv_le (at0 s c) (at0 f c) hf0
      have := ws.2.at (c := c) (by omega)
      omega
  generalize hY : X + (X + 1) * X = Y at led1
  have hXY : X ≤ Y := by rw [← hY]; omega
  have hYM : Y ≤ Y * X * X * X := by
    calc Y ≤ Y * X := Nat.le_mul_of_pos_right _ hX
      _ ≤ Y * X * X := Nat.le_mul_of_pos_right _ hX
      _ ≤ Y * X * X * X := Nat.le_mul_of_pos_right _ hX
  refine ⟨⟨f, (led c f S).filter (nz c), rfl, rfl, fun r hr => ?_, fun hn => ?_⟩, by omega, fun r hr => ?_, by omega, (wo.le (by omega)).app fun r hr => ?_⟩
  · obtain ⟨hr1, hr2⟩ := List.mem_filter.mp hr
    obtain ⟨s, hs, ec, _⟩ := led1 r hr1
    have n0 : at0 r c ≠ 0 := by simpa [nz] using hr2
    refine ⟨?_, n0, ?_⟩
    · rw [ec]; exact fmod_lt _ _ hf0
    · rw [ec]; exact fmod_sign _ _ hf0 (by rw [← ec]; exact n0)
  · obtain ⟨r, hr⟩ := List.exists_mem_of_ne_nil _ hn
    obtain ⟨hr1, hr2⟩ := List.mem_filter.mp hr
    obtain ⟨s, hs, ec, _⟩ := led1 r hr1
    have hlt : (at0 r c).natAbs < (at0 f c).natAbs := by rw [ec]; exact fmod_lt _ _ hf0
    exact ⟨r, hr, Nat.mul_le_mul (Nat.mul_le_mul (Nat.mul_le_mul_left _ hfX) hfX) (by omega)⟩
  · rcases List.mem_cons.mp hr with rfl | hr
    · exact ⟨wf.1, wf.2.le hXY⟩
    · obtain ⟨hr1, _⟩ := List.mem_filter.mp hr
      obtain ⟨s, hs, ec, h3, h4⟩ := led1 r hr1
      exact ⟨h3, h4⟩
  · obtain ⟨hr1, _⟩ := List.mem_filter.mp hr
    obtain ⟨s, hs, ec, h3, h4⟩ := led1 r hr1
    exact ⟨h3, h4.le (by omega)⟩
end Rd
end
section
namespace La
open Rd
abbrev Vec := Nat → Int
inductive Sp (S : Rows) : Vec → Prop
  | zero : Sp S fun _ => 0
  | add {v : Vec} {r : List Int} (k : Int) (h : Sp S v) (hr : r ∈ S) : Sp S fun i => v i + k * at0 r i
theorem Sp.mem {S : Rows} {r : List Int} (h : r ∈ S) : Sp S (at0 r) := by
  have := Sp.add (r := r) 1 (Sp.zero (S := S)) h
  have e : (fun i => (0 : Int) + 1 * at0 r i) = at0 r := by funext i; omega
  rwa [e] at this
theorem Sp.comb {S : Rows} {u v : Vec} (k : Int) (hu : Sp S u) (hv : Sp S v) : Sp S fun i => u i + k * v i := by
  induction hv with
  | zero =>
    have e : (fun i => u i + k * (0 : Int)) = u := by funext i; omega
    rwa [e]
  | @add v r c h hr ih =>
    have := Sp.add (k * c) ih hr
    have e : (fun i => u i + k * v i + k * c * at0 r i) = (fun i => u i + k * (v i + c * at0 r i)) := by funext i; grind
    rwa [e] at this
theorem Sp.trans {S T : Rows} (h : ∀ r ∈ S, Sp T (at0 r)) {v : Vec} (hv : Sp S v) : Sp T v := by
  induction hv with
  | zero => exact .zero
  | add k _ hr ih => exact ih.comb k (h _ hr)
theorem Sp.mono {S T : Rows} (h : ∀ r ∈ S, r ∈ T) {v : Vec} (hv : Sp S v) : Sp T v := hv.trans fun r hr => .mem (h r hr)
theorem Sp.zeroAt {S : Rows} {i : Nat} (h : ∀ r ∈ S, at0 r i = 0) {v : Vec} (hv : Sp S v) : v i = 0 := by
  induction hv with
  | zero => rfl
  | @add v r k _ hr ih =>
    show v i + k * at0 r i = 0
    rw [ih, h r hr]; omega
theorem at0_out {r : List Int} {i : Nat} (h : r.length ≤ i) : at0 r i = 0 := by
  unfold at0
  rw [List.getD_eq_getElem?_getD, List.getElem?_eq_none h]
  rfl
theorem at0_add {r s : List Int} (m : Int) (h : r.length = s.length) : at0 (addL r s m) = fun i => at0 r i + m * at0 s i := by
  funext i
  by_cases hi : i < r.length
  · exact at0_addL hi (by omega)
  · rw [at0_out (by rw [addL_len h]; omega), at0_out (r := r) (by omega), at0_out (r := s) (by omega)]
    omega
theorem at0_cut {c : Nat} {f r : List Int} (h : r.length = f.length) : at0 (cut c f r) = fun i => at0 r i + -((at0 r c).fdiv (at0 f c)) * at0 f i := at0_add _ h
def Eqv (S T : Rows) : Prop := ∀ v, Sp S v ↔ Sp T v
theorem Eqv.rfl' {S : Rows} : Eqv S S := fun _ => Iff.rfl
theorem Eqv.symm {S T : Rows} (h : Eqv S T) : Eqv T S := fun v => (h v).symm
theorem Eqv.trans {S T U : Rows} (h : Eqv S T) (g : Eqv T U) : Eqv S U := fun v => (h v).trans (g v)
theorem Eqv.of {S T : Rows} (h : ∀ r ∈ S, Sp T (at0 r)) (g : ∀ r ∈ T, Sp S (at0 r)) : Eqv S T := fun _ => ⟨fun x => x.trans h, fun x => x.trans g⟩
theorem Eqv.mem {S T : Rows} (h : ∀ r, r ∈ S ↔ r ∈ T) : Eqv S T := .of (fun r hr => .mem ((h r).mp hr)) (fun r hr => .mem ((h r).mpr hr))
theorem Eqv.app {S T U : Rows} (h : Eqv S T) : Eqv (U ++ S) (U ++ T) := .of (fun r hr => by
    rcases List.mem_append.mp hr with hr | hr
    · exact .mem (List.mem_append_left _ hr)
    · exact ((h _).mp (.mem hr)).mono fun r hr => List.mem_append_right _ hr) (fun r hr => by
    rcases List.mem_append.mp hr with hr | hr
    · exact .mem (List.mem_append_left _ hr)
    · exact ((h _).mpr (.mem hr)).mono fun r hr => List.mem_append_right _ hr)
theorem cut_in {T : Rows} {c : Nat} {f r : List Int} (hl : r.length = f.length) (hf : Sp T (at0 f)) (hr : Sp T (at0 r)) : Sp T (at0 (cut c f r)) := by
  rw [at0_cut hl]; exact hr.comb _ hf
theorem cut_out {T : Rows} {c : Nat} {f r : List Int} (hl : r.length = f.length) (hf : Sp T (at0 f)) (hr : Sp T (at0 (cut c f r))) : Sp T (at0 r) := by
  have := hr.comb ((at0 r c).fdiv (at0 f c)) hf
  rw [at0_cut hl] at this
  have e : (fun i => (at0 r i + -((at0 r c).fdiv (at0 f c)) * at0 f i) + (at0 r c).fdiv (at0 f c) * at0 f i) = at0 r := by funext i; grind
  rwa [e] at this
theorem mem_split {c : Nat} {L : Rows} {r : List Int} : r ∈ L ↔ r ∈ L.filter (nz c) ∨ r ∈ L.filter (zr c) := by
  simp only [List.mem_filter, nz, zr]
  by_cases h : at0 r c = 0
  · simp [h]
  · simp [h]
theorem led_eqv {c n : Nat} {S O : Rows} {f : List Int} (hf : f ∈ S) (hS : ∀ r ∈ S, r.length = n) : Eqv ((f :: (led c f S).filter (nz c)) ++ (O ++ (led c f S).filter (zr c))) (S ++ O) := by
  have fS : Sp (S ++ O) (at0 f) := .mem (List.mem_append_left _ hf)
  have fN : Sp ((f :: (led c f S).filter (nz c)) ++ (O ++ (led c f S).filter (zr c))) (at0 f) := .mem (by simp)
  have lN : ∀ r ∈ led c f S, Sp ((f :: (led c f S).filter (nz c)) ++ (O ++ (led c f S).filter (zr c))) (at0 r) := fun r hr => by
    rcases mem_split (c := c) |>.mp hr with h | h
    · exact .mem (List.mem_append_left _ (List.mem_cons_of_mem _ h))
    · exact .mem (List.mem_append_right _ (List.mem_append_right _ h))
  have lS : ∀ r ∈ led c f S, Sp (S ++ O) (at0 r) := fun r hr => by
    obtain ⟨s, hs, rfl⟩ := mem_led hr
    have hs := List.mem_of_mem_erase hs
    exact cut_in (by rw [hS s hs, hS f hf]) fS (.mem (List.mem_append_left _ hs))
  refine .of (fun r hr => ?_) (fun r hr => ?_)
  · rcases List.mem_append.mp hr with hr | hr
    · rcases List.mem_cons.mp hr with rfl | hr
      · exact fS
      · exact lS r (List.mem_filter.mp hr).1
    · rcases List.mem_append.mp hr with hr | hr
      · exact .mem (List.mem_append_right _ hr)
      · exact lS r (List.mem_filter.mp hr).1
  · rcases List.mem_append.mp hr with hr | hr
    · by_cases e : r = f
      · subst e; exact fN
      · have : r ∈ S.erase f := (List.mem_erase_of_ne e).mpr hr
        exact cut_out (by rw [hS r hr, hS f hf]) fN (lN _ (List.mem_map.mpr ⟨r, this, rfl⟩))
    · exact .mem (List.mem_append_right _ (List.mem_append_left _ hr))
theorem Red.eqv {c n : Nat} {S O S' O' : Rows} (h : Red c S O S' O') (hS : ∀ r ∈ S, r.length = n) (hO : ∀ r ∈ O, r.length = n) : Eqv (S' ++ O') (S ++ O) ∧ (∀ r ∈ S', r.length = n) ∧ (∀ r ∈ O', r.length = n) := by
  induction h with
  | done S O => exact ⟨.rfl', hS, hO⟩
  | @step S O S' O' f hf hm h ih =>
    have hL : ∀ r ∈ led c f S, r.length = n := fun r hr => by
      obtain ⟨s, hs, rfl⟩ := mem_led hr
      have hs := List.mem_of_mem_erase hs
      rw [cut_len (by rw [hS s hs, hS f hf]), hS s hs]
    obtain ⟨e, h1, h2⟩ := ih (fun r hr => by
      rcases List.mem_cons.mp hr with rfl | hr
      · exact hS _ hf
      · exact hL r (List.mem_filter.mp hr).1) (fun r hr => by
      rcases List.mem_append.mp hr with hr | hr
      · exact hO r hr
      · exact hL r (List.mem_filter.mp hr).1)
    exact ⟨e.trans (led_eqv hf hS), h1, h2⟩
theorem red_all {c n : Nat} {L S' O' : Rows} (h : Red c (L.filter (nz c)) (L.filter (zr c)) S' O') (hL : ∀ r ∈ L, r.length = n) : Eqv (S' ++ O') L ∧ (∀ r ∈ S', r.length = n) ∧ (∀ r ∈ O', r.length = n) := by
  obtain ⟨e, h1, h2⟩ := Red.eqv (n := n) h (fun r hr => hL r (List.mem_filter.mp hr).1) (fun r hr => hL r (List.mem_filter.mp hr).1)
  exact ⟨e.trans (.mem fun r => by rw [List.mem_append, ← mem_split]), h1, h2⟩
def ent (F : Rows) (i j : Nat) : Int := at0 (F.getD i []) j
structure St (k : Nat) (F : Rows) (h : Nat → Nat) : Prop where
  z : ∀ i, i < F.length → ∀ j, j < h i → ent F i j = 0
  p : ∀ i, i < F.length → 0 < ent F i (h i)
  a : ∀ l i, l < i → i < F.length → 0 ≤ ent F l (h i) ∧ ent F l (h i) < ent F i (h i)
  k : ∀ i, i < F.length → h i < k
  r : ∀ l i, l < i → i < F.length → h l < h i
theorem St.nil (k : Nat) (h : Nat → Nat) : St k [] h := ⟨fun i hi => absurd hi (by simp), fun i hi => absurd hi (by simp), fun l i _ hi => absurd hi (by simp), fun i hi => absurd hi (by simp), fun l i _ hi => absurd hi (by simp)⟩
theorem St.le {k m : Nat} {F : Rows} {h : Nat → Nat} (s : St k F h) (e : k ≤ m) : St m F h := ⟨s.z, s.p, s.a, fun i hi => Nat.lt_of_lt_of_le (s.k i hi) e, s.r⟩
theorem ent_app_l {F G : Rows} {i : Nat} (h : i < F.length) (j : Nat) : ent (F ++ G) i j = ent F i j := by
  unfold ent
  simp only [List.getD_eq_getElem?_getD]
  rw [List.getElem?_append_left h]
theorem ent_app_r {F : Rows} {u : List Int} (j : Nat) : ent (F ++ [u]) F.length j = at0 u j := by
  unfold ent
  simp
theorem ent_map {F : Rows} {g : List Int → List Int} {i : Nat} (h : i < F.length) (j : Nat) : ent (F.map g) i j = at0 (g (F.getD i [])) j := by
  unfold ent
  simp [List.getD_eq_getElem?_getD, List.getElem?_eq_getElem h]
theorem getD_in {F : Rows} {i : Nat} (h : i < F.length) : F.getD i [] ∈ F := by
  rw [List.getD_eq_getElem?_getD, List.getElem?_eq_getElem h]
  exact List.getElem_mem h
theorem St.next {c n : Nat} {F : Rows} {h : Nat → Nat} {u : List Int} (s : St c F h) (hF : ∀ r ∈ F, r.length = n) (hu : u.length = n) (hc : c < n) (u0 : ∀ j, j < c → at0 u j = 0) (up : 0 < at0 u c) : St (c + 1) (F.map (cut c u) ++ [u]) (fun i => if i < F.length then h i else c) := by
  have len : (F.map (cut c u) ++ [u]).length = F.length + 1 := by simp
  have old : ∀ i j, i < F.length → ent (F.map (cut c u) ++ [u]) i j = ent F i j + -((ent F i c).fdiv (at0 u c)) * at0 u j := fun i j hi => by
    rw [ent_app_l (by simpa using hi), ent_map hi, at0_cut (by rw [hF _ (getD_in hi), hu])]
    rfl
  have oldc : ∀ i j, i < F.length → j < c → ent (F.map (cut c u) ++ [u]) i j = ent F i j := fun i j hi hj => by
    rw [old i j hi, u0 j hj]; omega
  have new : ∀ j, ent (F.map (cut c u) ++ [u]) F.length j = at0 u j := fun j => by
    have := ent_app_r (F := F.map (cut c u)) (u := u) j
    rwa [List.length_map] at this
  refine ⟨fun i hi j hj => ?_, fun i hi => ?_, fun l i hl hi => ?_, fun i hi => ?_, fun l i hl hi => ?_⟩
  · rw [len] at hi
    by_cases q : i < F.length
    · rw [if_pos q] at hj
      have := s.k i q
      rw [oldc i j q (by omega)]
      exact s.z i q j hj
    · rw [if_neg q] at hj
      have : i = F.length := by omega
      subst this
      rw [new]; exact u0 j hj
  · rw [len] at hi
    by_cases q : i < F.length
    · simp only [if_pos q]
      rw [oldc i _ q (s.k i q)]
      exact s.p i q
    · simp only [if_neg q]
      have : i = F.length := by omega
      subst this
      rw [new]; exact up
  · rw [len] at hi
    by_cases q : i < F.length
    · simp only [if_pos q]
      rw [oldc i _ q (s.k i q), oldc l _ (by omega) (s.k i q)]
      exact s.a l i hl q
    · simp only [if_neg q]
      have : i = F.length := by omega
      subst this
      have hl' : l < F.length := hl
      rw [new, old l c hl']
      have e : ent F l c + -((ent F l c).fdiv (at0 u c)) * at0 u c = (ent F l c).fmod (at0 u c) := by
        rw [Int.fmod_def, Int.neg_mul, Int.mul_comm (at0 u c)]; omega
      rw [e]
      exact ⟨Int.fmod_nonneg_of_pos _ up, Int.fmod_lt_of_pos _ up⟩
  · rw [len] at hi
    by_cases q : i < F.length
    · simp only [if_pos q]; have := s.k i q; omega
    · simp only [if_neg q]; omega
  · rw [len] at hi
    by_cases q : i < F.length
    · have ql : l < F.length := by omega
      simp only [if_pos q, if_pos ql]; exact s.r l i hl q
    · have ql : l < F.length := by omega
      simp only [if_neg q, if_pos ql]; exact s.k l ql
end La
end
section
namespace La
open Rd
def dt (g : Rows) : Int := Dt.det g.length (ent g)
theorem len1 {α : Type} {r : List α} (h : r.length = 1) : ∃ a, r = [a] := by
  match r, h with
  | [a], _ => exact ⟨a, rfl⟩
theorem len2 {α : Type} {r : List α} (h : r.length = 2) : ∃ a b, r = [a, b] := by
  match r, h with
  | [a, b], _ => exact ⟨a, b, rfl⟩
theorem len3 {α : Type} {r : List α} (h : r.length = 3) : ∃ a b c, r = [a, b, c] := by
  match r, h with
  | [a, b, c], _ => exact ⟨a, b, c, rfl⟩
inductive Sqr : Rows → Prop
  | s0 : Sqr []
  | s1 (a : Int) : Sqr [[a]]
  | s2 (a b c d : Int) : Sqr [[a, b], [c, d]]
  | s3 (a b c d e f g h i : Int) : Sqr [[a, b, c], [d, e, f], [g, h, i]]
theorem Sqr.of {C : Rows} (h3 : C.length ≤ 3) (h : ∀ r ∈ C, r.length = C.length) : Sqr C := by
  match C, h3, h with
  | [], _, _ => exact .s0
  | [r], _, h =>
    obtain ⟨a, rfl⟩ := len1 (h r (by simp))
    exact .s1 a
  | [r, s], _, h =>
    obtain ⟨a, b, rfl⟩ := len2 (h r (by simp))
    obtain ⟨c, d, rfl⟩ := len2 (h s (by simp))
    exact .s2 a b c d
  | [r, s, t], _, h =>
    obtain ⟨a, b, c, rfl⟩ := len3 (h r (by simp))
    obtain ⟨d, e, f, rfl⟩ := len3 (h s (by simp))
    obtain ⟨g, i, j, rfl⟩ := len3 (h t (by simp))
    exact .s3 a b c d e f g i j
  | _ :: _ :: _ :: _ :: _, h, _ => exact absurd h (by simp)
theorem Sp.one {p : List Int} {v : Vec} (h : Sp [p] v) : ∃ x, ∀ i, v i = x * at0 p i := by
  induction h with
  | zero => exact ⟨0, fun i => by simp⟩
  | @add v r k h hr ih =>
    obtain ⟨x, e⟩ := ih
    have : r = p := by simpa using hr
    subst this
    exact ⟨x + k, fun i => by show v i + k * at0 r i = _; rw [e i]; grind⟩
theorem Sp.two {p q : List Int} {v : Vec} (h : Sp [p, q] v) : ∃ x y, ∀ i, v i = x * at0 p i + y * at0 q i := by
  induction h with
  | zero => exact ⟨0, 0, fun i => by simp⟩
  | @add v r k h hr ih =>
    obtain ⟨x, y, e⟩ := ih
    simp only [List.mem_cons, List.not_mem_nil, or_false] at hr
    rcases hr with rfl | rfl
    · exact ⟨x + k, y, fun i => by show v i + k * at0 r i = _; rw [e i]; grind⟩
    · exact ⟨x, y + k, fun i => by show v i + k * at0 r i = _; rw [e i]; grind⟩
@[simp] theorem at0_00 (a : Int) (l : List Int) : at0 (a :: l) 0 = a := rfl
@[simp] theorem at0_s (a : Int) (l : List Int) (n : Nat) : at0 (a :: l) (n + 1) = at0 l n := rfl
@[simp] theorem at0_nil (n : Nat) : at0 [] n = 0 := rfl
@[simp] theorem at0_1 (a b : Int) (l : List Int) : at0 (a :: b :: l) 1 = b := rfl
@[simp] theorem at0_2 (a b c : Int) (l : List Int) : at0 (a :: b :: c :: l) 2 = c := rfl
end La
end
section
namespace La
open Rd
def restG : Nat → Rows → List Int → List Int
  | _, [], s => s
  | c, r :: F, s => restG (c + 1) F (cut c r s)
def showG : Rows → Nat → Int → List Int
  | _, 0, _ => []
  | F, c + 1, e => showG F c (e.fdiv (ent F c c)) ++ [e.fmod (ent F c c)]
def rest (F : Rows) (s : List Int) : List Int := restG 0 F s
def shw (F : Rows) (e : Int) : List Int := showG F F.length e
theorem fmb {y : Int} (x : Int) (h : 0 < y) : 0 ≤ x.fmod y ∧ x.fmod y < y := ⟨Int.fmod_nonneg_of_pos x h, Int.fmod_lt_of_pos x h⟩
def sub (u v : List Int) : Vec := fun i => at0 u i - at0 v i
theorem Sp.neg {S : Rows} {v : Vec} (h : Sp S v) : Sp S fun i => -(v i) := by
  have := (Sp.zero (S := S)).comb (-1) h
  have e : (fun i => (0 : Int) + -1 * v i) = fun i => -(v i) := by funext i; omega
  rwa [e] at this
theorem Sp.sum {S : Rows} {u v : Vec} (hu : Sp S u) (hv : Sp S v) : Sp S fun i => u i + v i := by
  have := hu.comb 1 hv
  have e : (fun i => u i + 1 * v i) = fun i => u i + v i := by funext i; omega
  rwa [e] at this
end La
end
section
namespace La
open Rd
def mk (r xs : List Int) : Int := (List.zipWith (· * ·) r xs).foldr (· + ·) 0
end La
end
section
namespace La
open Rd
end La
end
section
namespace La
open Rd
end La
end
section
namespace La
open Rd Dt
theorem sm_split {f : Nat → Int} (a : Nat) : ∀ n, sm (a + n) f = sm a f + sm n fun j => f (a + j)
  | 0 => by simp [sm]
  | n + 1 => by
    show sm (a + n) f + f (a + n) = sm a f + (sm n (fun j => f (a + j)) + f (a + n))
    rw [sm_split a n]; omega
theorem sm_none {f : Nat → Int} {n : Nat} (h : ∀ i, i < n → f i = 0) : sm n f = 0 := by
  rw [sm_congr h, sm_zero]
theorem sm_window {f : Nat → Int} {a b m : Nat} (hab : a ≤ b) (hb : b ≤ m) (h1 : ∀ k, k < a → f k = 0) (h2 : ∀ k, b ≤ k → k < m → f k = 0) : sm m f = sm (b - a) fun j => f (a + j) := by
  have e1 := sm_split (f := f) b (m - b)
  rw [show b + (m - b) = m by omega] at e1
  have e2 := sm_split (f := f) a (b - a)
  rw [show a + (b - a) = b by omega] at e2
  have z1 : sm a f = 0 := sm_none h1
  have z2 : (sm (m - b) fun j => f (b + j)) = 0 := sm_none fun i hi => h2 (b + i) (by omega) (by omega)
  rw [e1, e2, z1, z2]
  omega
def dv (m : Nat) (y v : Vec) : Int := sm m fun i => y i * v i
theorem dv_comb (m : Nat) (y u v : Vec) (k : Int) : dv m y (fun i => u i + k * v i) = dv m y u + k * dv m y v := by
  unfold dv
  rw [← sm_mul, ← sm_add]
  exact sm_congr fun i _ => by grind
theorem Sp.lin {S : Rows} {m : Nat} {y : Vec} {M : Int} (h : ∀ r ∈ S, M ∣ dv m y (at0 r)) {v : Vec} (hv : Sp S v) : M ∣ dv m y v := by
  induction hv with
  | zero =>
    have : dv m y (fun _ => 0) = 0 := sm_none fun i _ => Int.mul_zero _
    rw [this]; exact Int.dvd_zero _
  | @add v r k _ hr ih =>
    rw [dv_comb]
    exact Int.dvd_add ih (Int.dvd_trans (h r hr) (Int.dvd_mul_left ..))
abbrev Ht := List (Nat × List Int)
structure Hs (m N : Nat) (T : Ht) : Prop where
  up : T.Pairwise fun p q => p.1 < q.1
  lt : ∀ p ∈ T, p.1 < m
  len : ∀ p ∈ T, p.2.length = N
  z : ∀ p ∈ T, ∀ j, j < p.1 → at0 p.2 j = 0
  p : ∀ p ∈ T, 0 < at0 p.2 p.1
theorem Hs.tail {m N : Nat} {p : Nat × List Int} {T : Ht} (h : Hs m N (p :: T)) : Hs m N T := ⟨(List.pairwise_cons.mp h.up).2, fun q hq => h.lt q (List.mem_cons_of_mem _ hq), fun q hq => h.len q (List.mem_cons_of_mem _ hq), fun q hq => h.z q (List.mem_cons_of_mem _ hq), fun q hq => h.p q (List.mem_cons_of_mem _ hq)⟩
def gone (T : Ht) (l : List Int) : List Int := T.foldl (fun l p => cut p.1 p.2 l) l
theorem gone_len {m N : Nat} : ∀ {T : Ht} {l : List Int}, Hs m N T → l.length = N → (gone T l).length = N
  | [], l, _, h => h
  | p :: T, l, h, hl => gone_len (T := T) h.tail (by rw [cut_len (by rw [hl, h.len p (by simp)]), hl])
theorem gone_spec {m N : Nat} (hm : m ≤ N) : ∀ {T : Ht} {l : List Int}, Hs m N T → l.length = N →
    Sp (T.map (·.2)) (sub l (gone T l)) ∧ (∀ k, (∀ p ∈ T, k < p.1) → at0 (gone T l) k = at0 l k) ∧ ∀ p ∈ T, 0 ≤ at0 (gone T l) p.1 ∧ at0 (gone T l) p.1 < at0 p.2 p.1
  | [], l, _, _ => by
    refine ⟨?_, fun _ _ => rfl, fun p hp => by cases hp⟩
    have : sub l (gone [] l) = fun _ => 0 := by funext i; simp [sub, gone]
    rw [this]; exact .zero
  | (h, r) :: T, l, H, hl => by
    have hr : r.length = N := H.len (h, r) (by simp)
    have lc : (cut h r l).length = N := by rw [cut_len (by rw [hl, hr]), hl]
    obtain ⟨a1, a2, a3⟩ := gone_spec hm (T := T) (l := cut h r l) H.tail lc
    have hp : 0 < at0 r h := H.p (h, r) (by simp)
    have hh : h < m := H.lt (h, r) (by simp)
    have up := (List.pairwise_cons.mp H.up).1
    have ec := at0_cut (c := h) (show l.length = r.length by rw [hl, hr])
    have eg : gone ((h, r) :: T) l = gone T (cut h r l) := rfl
    refine ⟨?_, fun k hk => ?_, fun p hp' => ?_⟩
    · rw [eg]
      have b := (a1.mono (T := ((h, r) :: T).map (·.2)) fun q hq => List.mem_cons_of_mem _ hq).comb ((at0 l h).fdiv (at0 r h)) (.mem (by simp : r ∈ ((h, r) :: T).map (·.2)))
      have e : (fun i => sub (cut h r l) (gone T (cut h r l)) i + (at0 l h).fdiv (at0 r h) * at0 r i) = sub l (gone T (cut h r l)) := by
        funext i
        simp only [sub, ec]
        grind
      rwa [e] at b
    · rw [eg, a2 k fun p hp' => hk p (List.mem_cons_of_mem _ hp'), ec]
      show at0 l k + _ * at0 r k = at0 l k
      rw [H.z (h, r) (by simp) k (hk (h, r) (by simp))]
      omega
    · rw [eg]
      rcases List.mem_cons.mp hp' with rfl | hp'
      · rw [a2 h fun p hp' => up p hp']
        rw [cut_at (by rw [hl]; omega) (by rw [hr]; omega)]
        exact fmb _ hp
      · exact a3 p hp'
def barR (s : Nat) : Ht → Vec × Int
  | [] => (fun k => if k = s then 1 else 0, 1)
  | (h, r) :: T => if h < s then (fun k => if k = h then -(sm (s - h) fun j => (barR s T).1 (h + 1 + j) * at0 r (h + 1 + j)) else (barR s T).1 k * at0 r h, (barR s T).2 * at0 r h) else barR s T
structure Br (m s : Nat) (T : Ht) (y : Vec) (P : Int) : Prop where
  a : ∀ k, s < k → y k = 0
  b : ∀ k, k < s → (∀ p ∈ T, k < p.1) → y k = 0
  c : y s = P
  p : 0 < P
  lo : ∀ p ∈ T, p.1 < s → dv m y (at0 p.2) = 0
  eq : ∀ p ∈ T, p.1 = s → dv m y (at0 p.2) = P * at0 p.2 s
  hi : ∀ p ∈ T, s < p.1 → dv m y (at0 p.2) = 0
theorem barR_ok {m N s : Nat} (hs : s < m) : ∀ {T : Ht}, Hs m N T → Br m s T (barR s T).1 (barR s T).2
  | [], _ => by
    refine ⟨fun k hk => ?_, fun k hk _ => ?_, ?_, Int.one_pos, (fun p hp => nomatch hp), (fun p hp => nomatch hp), (fun p hp => nomatch hp)⟩
    · show (if k = s then (1 : Int) else 0) = 0
      rw [if_neg (by omega)]
    · show (if k = s then (1 : Int) else 0) = 0
      rw [if_neg (by omega)]
    · show (if s = s then (1 : Int) else 0) = 1
      rw [if_pos rfl]
  | (h, r) :: T, H => by
    have ih := barR_ok hs (T := T) H.tail
    have up := (List.pairwise_cons.mp H.up).1
    have rz : ∀ j, j < h → at0 r j = 0 := H.z (h, r) (by simp)
    have rp : 0 < at0 r h := H.p (h, r) (by simp)
    have hh : h < m := H.lt (h, r) (by simp)
    generalize ey : (barR s T).1 = y at ih
    generalize eP : (barR s T).2 = P at ih
    by_cases q : h < s
    · have e : barR s ((h, r) :: T) = (fun k => if k = h then -(sm (s - h) fun j => y (h + 1 + j) * at0 r (h + 1 + j)) else y k * at0 r h, P * at0 r h) := by
        show (if h < s then _ else _) = _
        rw [if_pos q, ey, eP]
      rw [e]
      generalize hd : -(sm (s - h) fun j => y (h + 1 + j) * at0 r (h + 1 + j)) = due
      have yh : y h = 0 := ih.b h q fun p hp => up p hp
      have old : ∀ p ∈ T, dv m (fun k => if k = h then due else y k * at0 r h) (at0 p.2) = at0 r h * dv m y (at0 p.2) := fun p hp => by
        unfold dv
        rw [← sm_mul]
        refine sm_congr fun i _ => ?_
        show (if i = h then due else y i * at0 r h) * at0 p.2 i = at0 r h * (y i * at0 p.2 i)
        by_cases z : i = h
        · subst z
          rw [if_pos rfl, H.z p (List.mem_cons_of_mem _ hp) i (up p hp)]
          omega
        · rw [if_neg z]; grind
      refine ⟨fun k hk => ?_, fun k hk hT => ?_, ?_, Int.mul_pos ih.p rp, fun p hp hl => ?_, fun p hp he => ?_, fun p hp hg => ?_⟩
      · show (if k = h then due else y k * at0 r h) = 0
        rw [if_neg (by omega), ih.a k hk]; omega
      · show (if k = h then due else y k * at0 r h) = 0
        have := hT (h, r) (by simp)
        have this : k < h := this
        rw [if_neg (by omega), ih.b k hk fun p hp => by have := up p hp; omega]; omega
      · show (if s = h then due else y s * at0 r h) = P * at0 r h
        rw [if_neg (by omega), ih.c]
      · rcases List.mem_cons.mp hp with rfl | hp
        · -- the new row
          unfold dv
          have e1 : (sm m fun i => (if i = h then due else y i * at0 r h) * at0 r i) = sm (s + 1 - h) fun j => (if h + j = h then due else y (h + j) * at0 r h) * at0 r (h + j) := sm_window (f := fun i => (if i = h then due else y i * at0 r h) * at0 r i) (a := h) (b := s + 1) (by omega) (by omega) (fun k hk => by
            show (if k = h then due else y k * at0 r h) * at0 r k = 0
            rw [rz k hk]; omega) (fun k h1 h2 => by
            show (if k = h then due else y k * at0 r h) * at0 r k = 0
            rw [if_neg (by omega), ih.a k (by omega)]; simp)
          rw [e1, show s + 1 - h = (s - h) + 1 by omega, sm_first]
          rw [Nat.add_zero, if_pos rfl]
          have e2 : (sm (s - h) fun i => (if h + (i + 1) = h then due else y (h + (i + 1)) * at0 r h) * at0 r (h + (i + 1))) = at0 r h * sm (s - h) fun j => y (h + 1 + j) * at0 r (h + 1 + j) := by
            rw [← sm_mul]
            refine sm_congr fun i _ => ?_
            rw [if_neg (by omega), show h + (i + 1) = h + 1 + i by omega]
            grind
          rw [e2, ← hd]
          grind
        · rw [old p hp, ih.lo p hp hl]; omega
      · rcases List.mem_cons.mp hp with rfl | hp
        · exact absurd he (by show h ≠ s; omega)
        · rw [old p hp, ih.eq p hp he]; grind
      · rcases List.mem_cons.mp hp with rfl | hp
        · exact absurd hg (by show ¬ s < h; omega)
        · rw [old p hp, ih.hi p hp hg]; omega
    · have e : barR s ((h, r) :: T) = (y, P) := by
        show (if h < s then _ else barR s T) = _
        rw [if_neg q, ← ey, ← eP]
      rw [e]
      refine ⟨ih.a, fun k hk hT => ih.b k hk fun p hp => hT p (List.mem_cons_of_mem _ hp), ih.c, ih.p, fun p hp hl => ?_, fun p hp he => ?_, fun p hp hg => ?_⟩
      · rcases List.mem_cons.mp hp with rfl | hp
        · exact absurd hl (by show ¬ h < s; omega)
        · exact ih.lo p hp hl
      · rcases List.mem_cons.mp hp with rfl | hp
        · have he : h = s := he
          subst he
          unfold dv
          have e1 := sm_window (f := fun i => y i * at0 r i) (a := h) (b := h + 1) (m := m) (by omega) (by omega) (fun k hk => by show y k * at0 r k = 0; rw [rz k hk]; omega) (fun k h1 h2 => by show y k * at0 r k = 0; rw [ih.a k (by omega)]; omega)
          rw [e1, show h + 1 - h = 1 by omega]
          show 0 + y (h + 0) * at0 r (h + 0) = P * at0 r h
          rw [Nat.add_zero, ih.c]; omega
        · exact ih.eq p hp he
      · rcases List.mem_cons.mp hp with rfl | hp
        · have hg : s < h := hg
          refine sm_none fun i hi => ?_
          show y i * at0 r i = 0
          by_cases z : i < h
          · rw [rz i z]; omega
          · rw [ih.a i (by omega)]; omega
        · exact ih.hi p hp hg
end La
end
section
namespace La
open Rd Dt
theorem Sp.part {S L : Rows} {m : Nat} (hL : ∀ r ∈ L, ∀ i, i < m → at0 r i = 0) {v : Vec} (h : Sp (S ++ L) v) : ∃ t, Sp S t ∧ ∀ i, i < m → t i = v i := by
  induction h with
  | zero => exact ⟨_, .zero, fun _ _ => rfl⟩
  | @add v r k _ hr ih =>
    obtain ⟨t, ht, e⟩ := ih
    rcases List.mem_append.mp hr with hr | hr
    · exact ⟨_, ht.add k hr, fun i hi => by show t i + k * at0 r i = v i + k * at0 r i; rw [e i hi]⟩
    · exact ⟨t, ht, fun i hi => by show t i = v i + k * at0 r i; rw [e i hi, hL r hr i hi]; omega⟩
structure Frm (G : Rows) (n : Nat) (T : Ht) : Prop where
  hs : Hs G.length (G.length + n) T
  gr : ∀ p ∈ T, ∀ i, i < G.length → at0 p.2 i = sm n fun j => at0 p.2 (G.length + j) * ent G i j
  co : ∀ j, j < n → ∃ v, Sp (T.map (·.2)) v ∧ ∀ i, i < G.length → v i = ent G i j
theorem dv_congr {m : Nat} {y u v : Vec} (h : ∀ i, i < m → u i = v i) : dv m y u = dv m y v := sm_congr fun i hi => by rw [h i hi]
theorem dv_sub (m : Nat) (y : Vec) (u v : List Int) : dv m y (sub u v) = dv m y (at0 u) - dv m y (at0 v) := by
  have := dv_comb m y (at0 u) (at0 v) (-1)
  have e : (fun i => at0 u i + -1 * at0 v i) = sub u v := by funext i; simp only [sub]; omega
  rw [e] at this
  rw [this]; omega
theorem Hs.inj {m N : Nat} {T : Ht} (h : Hs m N T) {p q : Nat × List Int} (hp : p ∈ T) (hq : q ∈ T) (e : p.1 = q.1) : p = q := by
  have up := h.up
  clear h
  induction T with
  | nil => cases hp
  | cons a T ih =>
    obtain ⟨h1, h2⟩ := List.pairwise_cons.mp up
    rcases List.mem_cons.mp hp with hpa | hp'
    · rcases List.mem_cons.mp hq with hqa | hq'
      · rw [hpa, hqa]
      · have := h1 q hq'; rw [← hpa] at this; omega
    · rcases List.mem_cons.mp hq with hqa | hq'
      · have := h1 p hp'; rw [← hqa] at this; omega
      · exact ih hp' hq' h2
theorem linear_gr {G : Rows} {n m : Nat} {S : Rows} (h : ∀ r ∈ S, ∀ i, i < m → at0 r i = sm n fun j => at0 r (m + j) * ent G i j) {v : Vec} (hv : Sp S v) : ∀ i, i < m → v i = sm n fun j => v (m + j) * ent G i j := by
  induction hv with
  | zero => intro i _; exact (sm_none fun j _ => Int.zero_mul _).symm
  | @add v r k _ hr ih =>
    intro i hi
    show v i + k * at0 r i = sm n fun j => (v (m + j) + k * at0 r (m + j)) * ent G i j
    rw [ih i hi, h r hr i hi, ← sm_mul, ← sm_add]
    exact sm_congr fun j _ => by grind
theorem Frm.some {G : Rows} {n : Nat} {T : Ht} (f : Frm G n T) {l0 : List Int} (hl : l0.length = G.length + n) (h0 : ∀ j, at0 l0 (G.length + j) = 0) (hz : ∀ i, i < G.length → at0 (gone T l0) i = 0) : ∀ i, i < G.length → at0 l0 i = sm n fun j => ent G i j * -(at0 (gone T l0) (G.length + j)) := by
  intro i hi
  obtain ⟨sp, _, _⟩ := gone_spec (by omega) f.hs hl
  have := linear_gr (G := G) (n := n) (m := G.length) (S := T.map (·.2)) (fun r hr i hi => by
    obtain ⟨p, hp, rfl⟩ := List.mem_map.mp hr
    exact f.gr p hp i hi) sp i hi
  simp only [sub] at this
  rw [hz i hi] at this
  have e : at0 l0 i = at0 l0 i - 0 := by omega
  rw [e, this]
  exact sm_congr fun j _ => by rw [h0 j]; grind
structure Bar (G : Rows) (n : Nat) (l0 : List Int) (y : Vec) (M : Int) : Prop where
  two : 2 ≤ M
  col : ∀ j, j < n → M ∣ dv G.length y fun i => ent G i j
  sid : ¬ M ∣ dv G.length y (at0 l0)
theorem Frm.none {G : Rows} {n : Nat} {T : Ht} (f : Frm G n T) {l0 : List Int} (hl : l0.length = G.length + n) {s : Nat} (hs : s < G.length) (h1 : ∀ k, k < s → at0 (gone T l0) k = 0) (h2 : at0 (gone T l0) s ≠ 0) :
    (∀ p ∈ T, p.1 = s → Bar G n l0 (barR s T).1 (at0 p.2 s * (barR s T).2)) ∧ ((∀ p ∈ T, p.1 ≠ s) → Bar G n l0 (barR s T).1 ((dv G.length (barR s T).1 (at0 l0)).natAbs + 1)) := by
  obtain ⟨sp, _, box⟩ := gone_spec (by omega) f.hs hl
  have br := barR_ok hs f.hs
  generalize (barR s T).1 = y at br
  generalize (barR s T).2 = P at br
  generalize hg : gone T l0 = l at sp box h1 h2
  have yl : dv G.length y (at0 l) = P * at0 l s := by
    unfold dv
    have e1 := sm_window (f := fun i => y i * at0 l i) (a := s) (b := s + 1) (m := G.length) (by omega) (by omega) (fun k hk => by show y k * at0 l k = 0; rw [h1 k hk]; omega) (fun k q1 q2 => by show y k * at0 l k = 0; rw [br.a k (by omega)]; omega)
    rw [e1, show s + 1 - s = 1 by omega]
    show 0 + y (s + 0) * at0 l (s + 0) = P * at0 l s
    rw [Nat.add_zero, br.c]; omega
  have Pp := br.p
  have main : ∀ M : Int, (∀ p ∈ T, M ∣ dv G.length y (at0 p.2)) → (∀ j, j < n → M ∣ dv G.length y fun i => ent G i j) ∧ M ∣ dv G.length y (at0 l0) - P * at0 l s := fun M hM => by
    have hS : ∀ r ∈ T.map (·.2), M ∣ dv G.length y (at0 r) := fun r hr => by
      obtain ⟨p, hp, rfl⟩ := List.mem_map.mp hr
      exact hM p hp
    refine ⟨fun j hj => ?_, ?_⟩
    · obtain ⟨v, hv, e⟩ := f.co j hj
      have := hv.lin (m := G.length) (y := y) hS
      rwa [dv_congr e] at this
    · have := sp.lin (m := G.length) (y := y) hS
      rwa [dv_sub, yl] at this
  refine ⟨fun p hp he => ?_, fun hn => ?_⟩
  · have hb := box p hp
    rw [he] at hb
    have l0s : 0 < at0 l s := by omega
    have hM : ∀ q ∈ T, at0 p.2 s * P ∣ dv G.length y (at0 q.2) := fun q hq => by
      rcases Nat.lt_trichotomy q.1 s with z | z | z
      · rw [br.lo q hq z]; exact Int.dvd_zero _
      · rw [br.eq q hq z]
        have : q = p := f.hs.inj hq hp (by omega)
        subst this
        exact ⟨1, by grind⟩
      · rw [br.hi q hq z]; exact Int.dvd_zero _
    obtain ⟨m1, m2⟩ := main _ hM
    have g1 : P * at0 l s < at0 p.2 s * P := by
      rw [Int.mul_comm (at0 p.2 s)]
      exact Int.mul_lt_mul_of_pos_left hb.2 Pp
    have g0 : 0 < P * at0 l s := Int.mul_pos Pp l0s
    refine ⟨by omega, m1, fun hd => ?_⟩
    have d1 : at0 p.2 s * P ∣ P * at0 l s := by
      have := Int.dvd_sub hd m2
      rwa [show dv G.length y (at0 l0) - (dv G.length y (at0 l0) - P * at0 l s) = P * at0 l s by omega] at this
    have := Int.le_of_dvd g0 d1
    omega
  · have hM : ∀ q ∈ T, (0 : Int) ∣ dv G.length y (at0 q.2) := fun q hq => by
      rcases Nat.lt_trichotomy q.1 s with z | z | z
      · rw [br.lo q hq z]; exact Int.dvd_zero _
      · exact absurd z (hn q hq)
      · rw [br.hi q hq z]; exact Int.dvd_zero _
    obtain ⟨m1, m2⟩ := main _ hM
    have e0 := Int.zero_dvd.mp m2
    have ne : P * at0 l s ≠ 0 := Int.mul_ne_zero (by omega) h2
    have ne2 : dv G.length y (at0 l0) ≠ 0 := by omega
    refine ⟨by omega, fun j hj => by rw [Int.zero_dvd.mp (m1 j hj)]; exact Int.dvd_zero _, fun hd => ?_⟩
    have h3 := Int.natAbs_dvd_natAbs.mpr hd
    have h4 := Nat.le_of_dvd (by omega) h3
    omega
theorem dv_mod {m : Nat} {y z : Vec} {M : Int} (h : ∀ i, i < m → M ∣ y i - z i) (v : Vec) : M ∣ dv m y v ↔ M ∣ dv m z v := by
  have key : M ∣ dv m y v - dv m z v := by
    unfold dv
    have e : sm m (fun i => y i * v i) - sm m (fun i => z i * v i) = sm m fun i => (y i - z i) * v i := by
      have := sm_add (f := fun i => (y i - z i) * v i) (g := fun i => z i * v i) (n := m)
      have e2 : sm m (fun i => (y i - z i) * v i + z i * v i) = sm m (fun i => y i * v i) := sm_congr fun i _ => by grind
      omega
    rw [e]
    have : ∀ n, n ≤ m → M ∣ sm n fun i => (y i - z i) * v i := fun n => by
      induction n with
      | zero => intro _; exact Int.dvd_zero _
      | succ n ih => intro hn; exact Int.dvd_add (ih (by omega)) (Int.dvd_trans (h n (by omega)) (Int.dvd_mul_right ..))
    exact this m (Nat.le_refl _)
  constructor
  · intro q
    have := Int.dvd_sub q key
    rwa [show dv m y v - (dv m y v - dv m z v) = dv m z v by omega] at this
  · intro q
    have := Int.dvd_add key q
    rwa [show dv m y v - dv m z v + dv m z v = dv m y v by omega] at this
end La
end
section
namespace La
open Rd Dt
theorem at0_neg' (f : List Int) : at0 (f.map fun x => -x) = fun i => -(at0 f i) := by
  funext i
  unfold at0
  simp only [List.getD_eq_getElem?_getD, List.getElem?_map]
  cases f[i]? <;> simp
theorem sgn_sp {T : Rows} {u f : List Int} (huf : u = f ∨ u = f.map fun x => -x) : Sp T (at0 u) ↔ Sp T (at0 f) := by
  rcases huf with rfl | rfl
  · exact Iff.rfl
  · rw [at0_neg']
    constructor
    · intro h
      have := h.neg
      have e : (fun i => -(-(at0 f i))) = at0 f := by funext i; omega
      rwa [e] at this
    · exact fun h => h.neg
theorem sgn_eqv {A B : Rows} {u f : List Int} (huf : u = f ∨ u = f.map fun x => -x) : Eqv (A ++ ([u] ++ B)) (A ++ ([f] ++ B)) := .of (fun r hr => by
    rcases List.mem_append.mp hr with hr | hr
    · exact .mem (List.mem_append_left _ hr)
    · rcases List.mem_append.mp hr with hr | hr
      · have : r = u := by simpa using hr
        subst this
        exact (sgn_sp huf).mpr (.mem (by simp))
      · exact .mem (by simp [hr])) (fun r hr => by
    rcases List.mem_append.mp hr with hr | hr
    · exact .mem (List.mem_append_left _ hr)
    · rcases List.mem_append.mp hr with hr | hr
      · have : r = f := by simpa using hr
        subst this
        exact (sgn_sp huf).mp (.mem (by simp))
      · exact .mem (by simp [hr]))
def unitL (n j : Nat) : List Int := (List.range n).map fun k => if k = j then 1 else 0
def colG (G : Rows) (j : Nat) : List Int := G.map fun r => at0 r j
def startR (G : Rows) (n : Nat) : Rows := (List.range n).map fun j => colG G j ++ unitL n j
theorem at0_app_l {u v : List Int} {i : Nat} (h : i < u.length) : at0 (u ++ v) i = at0 u i := by
  unfold at0
  rw [List.getD_eq_getElem?_getD, List.getD_eq_getElem?_getD, List.getElem?_append_left h]
theorem at0_app_r {u v : List Int} (j : Nat) : at0 (u ++ v) (u.length + j) = at0 v j := by
  unfold at0
  rw [List.getD_eq_getElem?_getD, List.getD_eq_getElem?_getD, List.getElem?_append_right (by omega)]
  simp
theorem colG_at {G : Rows} {i j : Nat} (h : i < G.length) : at0 (colG G j) i = ent G i j := by
  unfold at0 colG ent
  rw [List.getD_eq_getElem?_getD, List.getElem?_map, List.getElem?_eq_getElem h, List.getD_eq_getElem?_getD, List.getElem?_eq_getElem h]
  rfl
theorem colG_len (G : Rows) (j : Nat) : (colG G j).length = G.length := by simp [colG]
theorem unitL_at {n j k : Nat} (h : k < n) : at0 (unitL n j) k = if k = j then 1 else 0 := by
  unfold at0 unitL
  rw [List.getD_eq_getElem?_getD, List.getElem?_map, List.getElem?_range h]
  rfl
theorem sm_delta {f : Nat → Int} {n j : Nat} (h : j < n) : (sm n fun k => (if k = j then 1 else 0) * f k) = f j := by
  have e := sm_window (f := fun k => (if k = j then (1 : Int) else 0) * f k) (a := j) (b := j + 1) (m := n) (by omega) (by omega) (fun k hk => by
    show (if k = j then (1 : Int) else 0) * f k = 0
    rw [if_neg (by omega)]; omega) (fun k h1 h2 => by
    show (if k = j then (1 : Int) else 0) * f k = 0
    rw [if_neg (by omega)]; omega)
  rw [e, show j + 1 - j = 1 by omega]
  show 0 + (if j + 0 = j then (1 : Int) else 0) * f (j + 0) = f j
  rw [if_pos (by omega), Nat.add_zero]; omega
theorem start_gr (G : Rows) (n : Nat) : ∀ r ∈ startR G n, ∀ i, i < G.length → at0 r i = sm n fun j => at0 r (G.length + j) * ent G i j := by
  intro r hr i hi
  obtain ⟨j, hj, rfl⟩ := List.mem_map.mp hr
  have hj := List.mem_range.mp hj
  rw [at0_app_l (by rw [colG_len]; exact hi), colG_at hi]
  have e : (sm n fun k => at0 (colG G j ++ unitL n j) (G.length + k) * ent G i k) = sm n fun k => (if k = j then 1 else 0) * ent G i k := sm_congr fun k hk => by
    have := at0_app_r (u := colG G j) (v := unitL n j) k
    rw [colG_len] at this
    rw [this, unitL_at hk]
  rw [e, sm_delta hj]
theorem frm_of {G : Rows} {n : Nat} {T : Ht} {L : Rows} (hs : Hs G.length (G.length + n) T) (e : Eqv (T.map (·.2) ++ L) (startR G n)) (hL : ∀ r ∈ L, ∀ i, i < G.length → at0 r i = 0) : Frm G n T := by
  refine ⟨hs, fun p hp => ?_, fun j hj => ?_⟩
  · have : Sp (startR G n) (at0 p.2) := (e _).mp (.mem (List.mem_append_left _ (List.mem_map.mpr ⟨p, hp, rfl⟩)))
    exact linear_gr (start_gr G n) this
  · have : Sp (T.map (·.2) ++ L) (at0 (colG G j ++ unitL n j)) := (e _).mpr (.mem (List.mem_map.mpr ⟨j, List.mem_range.mpr hj, rfl⟩))
    obtain ⟨t, ht, h⟩ := this.part hL
    exact ⟨t, ht, fun i hi => by rw [h i hi, at0_app_l (by rw [colG_len]; exact hi), colG_at hi]⟩
theorem Hs.snoc {m k N : Nat} {T : Ht} {u : List Int} (h : Hs k N T) (hk : k < m) (hu : u.length = N) (hz : ∀ j, j < k → at0 u j = 0) (hp : 0 < at0 u k) : Hs (k + 1) N (T ++ [(k, u)]) := by
  have mem : ∀ p ∈ T ++ [(k, u)], p ∈ T ∨ p = (k, u) := fun p hp => by
    rcases List.mem_append.mp hp with h | h
    · exact .inl h
    · exact .inr (by simpa using h)
  refine ⟨?_, fun p hp => ?_, fun p hp => ?_, fun p hp j hj => ?_, fun p hp => ?_⟩
  · rw [List.pairwise_append]
    refine ⟨h.up, List.pairwise_singleton .., fun p hp q hq => ?_⟩
    have : q = (k, u) := by simpa using hq
    subst this
    exact h.lt p hp
  · rcases mem p hp with q | rfl
    · have := h.lt p q; omega
    · show k < k + 1; omega
  · rcases mem p hp with q | rfl
    · exact h.len p q
    · exact hu
  · rcases mem p hp with q | rfl
    · exact h.z p q j hj
    · exact hz j hj
  · rcases mem p hp with q | rfl
    · exact h.p p q
    · assumption
theorem Hs.mono {m k N : Nat} {T : Ht} (h : Hs k N T) (hk : k ≤ m) : Hs m N T := ⟨h.up, fun p hp => Nat.lt_of_lt_of_le (h.lt p hp) hk, h.len, h.z, h.p⟩
end La
end
section
namespace Lw
open PySem PySem.Spec PyProof.Rows L2 Wm
theorem mul_okB {x y : Int} (hx : x.natAbs < 2 ^ 100000) (hy : y.natAbs < 2 ^ 100000) : IntMulOk x y := IntMulOk.of_le (m := 100000) (n := 100000) (intBits_le_iff.mpr hx) (intBits_le_iff.mpr hy) (by omega)
theorem at0_rd (r : List Int) (c : Nat) : Rd.at0 r c = at0 r c := rfl
theorem zip_ints2 (xs ys : List Int) (g : Int → Int → Int) : (xs.zip ys).map (fun p => g p.1 p.2) = List.zipWith g xs ys := by
  rw [List.zip, List.map_zipWith]
theorem added_ev (r s : List Int) (m : Int) (h : ∀ b ∈ s, IntMulOk m b) : f_added [.sh (tI r), .sh (tI s), .sh (.int m)] = .ok (.sh (tI (Rd.addL r s m)), [.no, .no, .no]) := by
  have e0 := zip_ints r s
  have k0 : lcL ⟨(r.zip s).map fun p => D.tup [.int p.1, .int p.2], []⟩ (stT [3, 4]) bYes (xPrim [.va 3, .ex (xPrim [.va 2, .va 4] pMul)] pAdd) [3, 4] ((r.zip s).map fun p => D.tup [.int p.1, .int p.2]) [.sh (tI r), .sh (tI s), .sh (.int m), .no, .no] = .ok ((r.zip s).map fun p => D.int (p.1 + m * p.2), [.sh (tI r), .sh (tI s), .sh (.int m), .no, .no]) := lc_mapL fun p hp k => by
    have m1 : IntMulOk m p.2 := h _ (List.of_mem_zip hp).2
    simp [pMul_int, m1]
  have e1 : ((r.zip s).map fun p => D.int (p.1 + m * p.2)) = (Rd.addL r s m).map D.int := by
    unfold Rd.addL
    rw [← zip_ints2 r s (fun a b => a + m * b), List.map_map]
    rfl
  rw [e1] at k0
  simp [f_added, g_added, c_added_0, e0, k0]
end Lw
end
section
namespace Lw
open PySem PySem.Spec PyProof.Rows L2 Wm
theorem ok_tI (n : Nat) (r : List Int) : okN (n + 1) (tI r) = true := okNs_ints n r
theorem okNs_rows (n : Nat) : ∀ rs : List (List Int), okNs (n + 1) (rs.map tI) = true
  | [] => by simp
  | r :: rs => by
    rw [List.map_cons, okNs_cons, okNs_rows n rs, ok_tI]
    rfl
theorem eqD_tI (r s : List Int) : eqD (tI r) (tI s) = (r == s) := eqDs_ints r s
theorem rem_find (f : List Int) : ∀ S : List (List Int), f ∈ S → remK (S.map tI) ((S.map tI).findIdx? fun y => eqD y (tI f)) = .ok (.non, (S.erase f).map tI)
  | [], h => by cases h
  | r :: S, h => by
    rw [List.map_cons, List.findIdx?_cons, eqD_tI]
    by_cases e : r = f
    · subst e
      simp [remK]
    · have hS : f ∈ S := by
        rcases List.mem_cons.mp h with z | z
        · exact absurd z.symm e
        · exact z
      have e' : (r == f) = false := by simpa using e
      have ih := rem_find f S hS
      rw [e', if_neg (by simp)]
      cases hq : (S.map tI).findIdx? fun y => eqD y (tI f) with
      | none => rw [hq] at ih; cases ih
      | some j =>
        rw [hq] at ih
        have ih : (.ok (.non, (S.map tI).eraseIdx j) : Rs (D × List D)) = .ok (.non, (S.erase f).map tI) := ih
        injection ih with ih
        injection ih with _ ih
        show (.ok (.non, (tI r :: S.map tI).eraseIdx (j + 1)) : Rs (D × List D)) = _
        rw [List.eraseIdx_cons_succ, ih, List.erase_cons_tail (by simpa using e)]
        rfl
theorem rem_ev (f : List Int) (S : List (List Int)) (h : f ∈ S) : mRem (S.map tI) (tI f) = .ok (.non, (S.erase f).map tI) := by
  unfold mRem
  rw [if_pos ⟨ok_tI 59 f, okNs_rows 58 S⟩]
  exact rem_find f S h
abbrev rst2 (x0 : SD) (c : Nat) (S O : List (List Int)) (x4 x5 x6 : SD) : List SD := [x0, .sh (.int c), .own (S.map tI), .own (O.map tI), x4, x5, x6, .no]
theorem log_lt {j : Int} {b : Nat} (hb : b ≤ 9000) (h : j.natAbs < 2 ^ b) (h0 : j ≠ 0) : j.natAbs.log2 < 9000 := (Nat.log2_lt (by omega)).mpr (Nat.lt_of_lt_of_le h (Nat.pow_le_pow_right (by omega) hb))
theorem body_ev (x0 : SD) (c n X : Nat) (S O : List (List Int)) (x4 x5 x6 : SD) (hc : c < n) (w : Rd.Wd n X S) (h0 : ∀ r ∈ S, at0 r c ≠ 0) (hX : X < 2 ^ 8000) (hS : S ≠ []) (hl : S.length + O.length ≤ 1000) :
    ∃ f, f ∈ S ∧ (∀ r ∈ S, (at0 f c).natAbs ≤ (at0 r c).natAbs) ∧ ∃ y4 y5 y6, w_reduced_7 (rst2 x0 c S O x4 x5 x6) = .ok (.nx (rst2 x0 c (f :: (Rd.led c f S).filter (Rd.nz c)) (O ++ (Rd.led c f S).filter (Rd.zr c)) y4 y5 y6)) := by
  have gt : ∀ r ∈ S, atI (r.map D.int) (c : Int) = some (.int (at0 r c)) := fun r hr => at0_get r c (by rw [(w r hr).1]; exact hc)
  have e2 : c_reduced_2 (rst2 x0 c S O x4 x5 x6) = .ok (.own ((S.map fun r => ((at0 r c).natAbs : Int)).map D.int), rst2 x0 c S O x4 x5 x6) := by
    have k0 : lcL ⟨S.map tI, [(2, .own (S.map tI))]⟩ (stN 7) bYes (xPrim [.ex (xPrim [.va 7, .va 1] pIx)] pAbs) [7] (S.map tI) (rst2 x0 c S O x4 x5 x6) = .ok (S.map fun r => D.int ((at0 r c).natAbs : Int), rst2 x0 c S O x4 x5 x6) := lc_mapL fun r hr k => by
      simp [gt r hr]
    rw [List.map_map]
    simp [c_reduced_2, k0, Function.comp_def]
  generalize hls : (S.map fun r => ((at0 r c).natAbs : Int)) = ls at e2
  have hln : 0 < ls.length := by rw [← hls, List.length_map]; exact List.length_pos_iff.mpr hS
  obtain ⟨m1, m2⟩ := minL_spec ls hln
  have em : pMin [.lst (ls.map D.int)] = .ok (.sh (.int (minL ls))) := by
    show (match asInts (ls.map D.int) with | some ns => if 0 < ns.length then Rs.ok (SD.sh (D.int (minL ns))) else .bad | none => .bad) = _
    rw [asInts_map]
    show (if 0 < ls.length then _ else _) = _
    rw [if_pos hln]
  generalize minL ls = lm at m1 m2 em
  have e3 : c_reduced_3 (rst2 x0 c S O (.sh (.int lm)) x5 x6) = .ok (.own ((S.filter fun r => decide (((at0 r c).natAbs : Int) = lm)).map tI), rst2 x0 c S O (.sh (.int lm)) x5 x6) := by
    have k0 : lcL ⟨S.map tI, [(2, .own (S.map tI))]⟩ (stN 7) (bT (xPrim [.ex (xPrim [.ex (xPrim [.va 7, .va 1] pIx)] pAbs), .va 4] pEq)) (xVar 7) [7] (S.map tI) (rst2 x0 c S O (.sh (.int lm)) x5 x6) = .ok ((S.filter fun r => decide (((at0 r c).natAbs : Int) = lm)).map tI, rst2 x0 c S O (.sh (.int lm)) x5 x6) := lc_filterL fun r hr k => by
      by_cases q : ((at0 r c).natAbs : Int) = lm
      · simp [gt r hr, q]
      · have q' : ((((at0 r c).natAbs : Nat) : Int) == lm) = false := by simpa using q
        simp [gt r hr, q, q']
    simp [c_reduced_3, k0]
  obtain ⟨f, ft, ef⟩ : ∃ f ft, (S.filter fun r => decide (((at0 r c).natAbs : Int) = lm)) = f :: ft := by
    rw [← hls] at m1
    obtain ⟨r, hr, er⟩ := List.mem_map.mp m1
    cases hq : (S.filter fun r => decide (((at0 r c).natAbs : Int) = lm)) with
    | nil =>
      have : r ∈ (S.filter fun r => decide (((at0 r c).natAbs : Int) = lm)) := List.mem_filter.mpr ⟨hr, by simpa using er⟩
      rw [hq] at this
      cases this
    | cons f ft => exact ⟨f, ft, rfl⟩
  have hf : f ∈ S ∧ ((at0 f c).natAbs : Int) = lm := by
    have : f ∈ (S.filter fun r => decide (((at0 r c).natAbs : Int) = lm)) := by rw [ef]; simp
    have := List.mem_filter.mp this
    exact ⟨this.1, by simpa using this.2⟩
  have hmin : ∀ r ∈ S, (at0 f c).natAbs ≤ (at0 r c).natAbs := fun r hr => by
    have := m2 ((at0 r c).natAbs : Int) (by rw [← hls]; exact List.mem_map.mpr ⟨r, hr, rfl⟩)
    omega
  rw [ef] at e3
  have er := rem_ev f S hf.1
  have f0 := h0 f hf.1
  have wf := w f hf.1
  have fb : ∀ b ∈ f, b.natAbs < 2 ^ 8000 := fun b hb => Nat.lt_of_le_of_lt (wf.2 b hb) hX
  have fc : (at0 f c).natAbs < 2 ^ 8000 := Nat.lt_of_le_of_lt (wf.2.at (by omega)) hX
  have e4 : c_reduced_4 (rst2 x0 c (S.erase f) O (.sh (.int lm)) (.sh (tI f)) x6) = .ok (.own ((Rd.led c f S).map tI), rst2 x0 c (S.erase f) O (.sh (.int lm)) (.sh (tI f)) x6) := by
    have k0 : lcL ⟨(S.erase f).map tI, [(2, .own ((S.erase f).map tI))]⟩ (stN 7) bYes (xCall (permF [.arg 0, .arg 1, .arg 2] [0, 1, 2] f_added) [.va 7, .va 5, .ex (xPrim [.ex (xPrim [.ex (xPrim [.va 7, .va 1] pIx), .ex (xPrim [.va 5, .va 1] pIx)] pFdiv)] pNeg)]) [7] ((S.erase f).map tI) (rst2 x0 c (S.erase f) O (.sh (.int lm)) (.sh (tI f)) x6) = .ok ((S.erase f).map fun r => tI (Rd.cut c f r), rst2 x0 c (S.erase f) O (.sh (.int lm)) (.sh (tI f)) x6) := lc_mapL fun r hr k => by
      have hr := List.mem_of_mem_erase hr
      have cd : CDv (at0 r c) (at0 f c) := ⟨f0, log_lt (by omega) fc f0⟩
      have rc : (at0 r c).natAbs < 2 ^ 8000 := Nat.lt_of_le_of_lt ((w r hr).2.at (by rw [(w r hr).1]; exact hc)) hX
      have qb : (-((at0 r c).fdiv (at0 f c))).natAbs < 2 ^ 100000 := by
        rw [Int.natAbs_neg]
        have h1 := Rd.fdiv_le (at0 r c) (at0 f c) f0
        have h2 : 2 ^ 8000 + 1 ≤ 2 ^ 100000 := by
          have : 2 ^ 8000 * 2 ≤ 2 ^ 100000 := by rw [← Nat.pow_succ]; exact Nat.pow_le_pow_right (by omega) (by omega)
          have : 1 ≤ 2 ^ 8000 := Nat.one_le_two_pow
          omega
        omega
      have ad := added_ev r f (-((at0 r c).fdiv (at0 f c))) fun b hb => mul_okB qb (Nat.lt_of_lt_of_le (fb b hb) (Nat.pow_le_pow_right (by omega) (by omega)))
      simp [gt r hr, gt f hf.1, cd, ad, Rd.cut, at0_rd]
    simp [c_reduced_4, k0, Rd.led, Function.comp_def]
  generalize hL : Rd.led c f S = L at e4
  have hLn : ∀ r ∈ L, c < r.length := fun r hr => by
    rw [← hL] at hr
    obtain ⟨s, hs, rfl⟩ := Rd.mem_led hr
    have hs := List.mem_of_mem_erase hs
    rw [Rd.cut_len (by rw [(w s hs).1, wf.1]), (w s hs).1]
    exact hc
  have gl : ∀ r ∈ L, atI (r.map D.int) (c : Int) = some (.int (at0 r c)) := fun r hr => at0_get r c (hLn r hr)
  have e5 : ∀ x2 x3 : SD, c_reduced_5 [x0, .sh (.int c), x2, x3, .sh (.int lm), .sh (tI f), .own (L.map tI), .no] = .ok (.own ((L.filter (Rd.zr c)).map tI), [x0, .sh (.int c), x2, x3, .sh (.int lm), .sh (tI f), .own (L.map tI), .no]) := fun x2 x3 => by
    have k0 : lcL ⟨L.map tI, [(6, .own (L.map tI))]⟩ (stN 7) (bT (xPrim [.ex (xPrim [.va 7, .va 1] pIx), .ex (xC (.int 0))] pEq)) (xVar 7) [7] (L.map tI) [x0, .sh (.int c), x2, x3, .sh (.int lm), .sh (tI f), .own (L.map tI), .no] = .ok ((L.filter (Rd.zr c)).map tI, [x0, .sh (.int c), x2, x3, .sh (.int lm), .sh (tI f), .own (L.map tI), .no]) := lc_filterL fun r hr k => by
      by_cases q : at0 r c = 0
      · simp [gl r hr, q, Rd.zr, at0_rd]
      · have q' : (at0 r c == 0) = false := by simpa using q
        simp [gl r hr, q, q', Rd.zr, at0_rd]
    simp [c_reduced_5, k0]
  have e6 : ∀ x2 x3 : SD, c_reduced_6 [x0, .sh (.int c), x2, x3, .sh (.int lm), .sh (tI f), .own (L.map tI), .no] = .ok (.own ((L.filter (Rd.nz c)).map tI), [x0, .sh (.int c), x2, x3, .sh (.int lm), .sh (tI f), .own (L.map tI), .no]) := fun x2 x3 => by
    have k0 : lcL ⟨L.map tI, [(6, .own (L.map tI))]⟩ (stN 7) (bT (xPrim [.ex (xPrim [.va 7, .va 1] pIx), .ex (xC (.int 0))] pNe)) (xVar 7) [7] (L.map tI) [x0, .sh (.int c), x2, x3, .sh (.int lm), .sh (tI f), .own (L.map tI), .no] = .ok ((L.filter (Rd.nz c)).map tI, [x0, .sh (.int c), x2, x3, .sh (.int lm), .sh (tI f), .own (L.map tI), .no]) := lc_filterL fun r hr k => by
      by_cases q : at0 r c = 0
      · simp [gl r hr, q, Rd.nz, at0_rd]
      · have q' : (at0 r c == 0) = false := by simpa using q
        simp [gl r hr, q, q', Rd.nz, at0_rd]
    simp [c_reduced_6, k0]
  have hLl : L.length ≤ S.length := by
    rw [← hL]
    unfold Rd.led
    rw [List.length_map]
    exact List.length_erase_le
  have s1 : (L.filter (Rd.zr c)).length ≤ L.length := List.length_filter_le ..
  have s2 : (L.filter (Rd.nz c)).length ≤ L.length := List.length_filter_le ..
  have z1 : O.length + (L.filter (Rd.zr c)).length ≤ sizeLine := sz (by omega)
  have z2 : (L.filter (Rd.nz c)).length + 1 ≤ sizeLine := sz (by omega)
  have z2' : 1 + (L.filter (Rd.nz c)).length ≤ sizeLine := sz (by omega)
  have z3 : (1 : Nat) ≤ sizeLine := by decide
  refine ⟨f, hf.1, hmin, .sh (.int lm), .sh (tI f), .own (L.map tI), ?_⟩
  rw [hL]
  unfold w_reduced_7
  rw [seq_nx (ρ' := rst2 x0 c S O (.sh (.int lm)) x5 x6) (by simp [e2, em]), seq_nx (ρ' := rst2 x0 c S O (.sh (.int lm)) (.sh (tI f)) x6) (by simp [e3]), seq_nx (ρ' := rst2 x0 c (S.erase f) O (.sh (.int lm)) (.sh (tI f)) x6) (by simp [er]),
    seq_nx (ρ' := rst2 x0 c (S.erase f) O (.sh (.int lm)) (.sh (tI f)) (.own (L.map tI))) (by simp [e4]), seq_nx (ρ' := rst2 x0 c (S.erase f) (O ++ L.filter (Rd.zr c)) (.sh (.int lm)) (.sh (tI f)) (.own (L.map tI))) (by simp [e5, mExt, z1])]
  simp [e6, z2, z2', z3]
end Lw
end
section
namespace Lw
open PySem PySem.Spec PyProof.Rows L2 Wm
theorem led_count (c : Nat) (f : List Int) (S : List (List Int)) (hf : f ∈ S) : (f :: (Rd.led c f S).filter (Rd.nz c)).length + ((Rd.led c f S).filter (Rd.zr c)).length = S.length := by
  have e1 : (Rd.led c f S).length = S.length - 1 := by unfold Rd.led; rw [List.length_map, List.length_erase_of_mem hf]
  have e2 : ∀ L : List (List Int), (L.filter (Rd.nz c)).length + (L.filter (Rd.zr c)).length = L.length := fun L => by
    induction L with
    | nil => rfl
    | cons r L ih =>
      by_cases q : Rd.at0 r c = 0
      · have a1 : Rd.nz c r = false := by simp [Rd.nz, q]
        have a2 : Rd.zr c r = true := by simp [Rd.zr, q]
        simp [a1, a2]; omega
      · have a1 : Rd.nz c r = true := by simp [Rd.nz, q]
        have a2 : Rd.zr c r = false := by simp [Rd.zr, q]
        simp [a1, a2]; omega
  have := e2 (Rd.led c f S)
  have : 0 < S.length := List.length_pos_of_mem hf
  rw [List.length_cons]
  omega
abbrev tstR : Sb := (bT (xPrim [.ex (xPrim [.va 2] pLen), .ex (xC (.int 1))] pGt))
theorem tst_ev (x0 : SD) (c : Nat) (S O : List (List Int)) (x4 x5 x6 : SD) : tstR (rst2 x0 c S O x4 x5 x6) = .ok (decide (1 < S.length), rst2 x0 c S O x4 x5 x6) := by
  by_cases h : 1 < S.length
  · have h' : (1 : Int) < S.length := by omega
    simp [h, h']
  · have h' : ¬ (1 : Int) < S.length := by omega
    simp [h, h']
structure Done (c n N : Nat) (S O S' O' : List (List Int)) : Prop where
  red : Rd.Red c S O S' O'
  one : S'.length ≤ 1
  w : Rd.Wd n N S'
  o : Rd.Wd n N O'
  nz : ∀ r ∈ S', at0 r c ≠ 0
  zr : ∀ r ∈ O', at0 r c = 0
  cnt : S'.length + O'.length = S.length + O.length
theorem loop2 (x0 : SD) (c n M : Nat) (hc : c < n) (hM : 2 * M < 2 ^ 8000) : ∀ (fuel : Nat) (S O : List (List Int)) (a X : Nat) (x4 x5 x6 : SD), Rd.Ph c n M S O a X → (∀ r ∈ O, at0 r c = 0) → a < fuel → S.length + O.length ≤ 1000 →
    ∃ S' O' y4 y5 y6, whl tstR w_reduced_7 fuel (rst2 x0 c S O x4 x5 x6) = .ok (.nx (rst2 x0 c S' O' y4 y5 y6)) ∧ Done c n (2 * M) S O S' O'
  | 0, S, O, a, X, x4, x5, x6, h, _, hf, _ => absurd hf (by omega)
  | fuel + 1, S, O, a, X, x4, x5, x6, h, hz, hf, hl => by
    have h0 : ∀ r ∈ S, at0 r c ≠ 0 := fun r hr => by
      obtain ⟨p, rest, rfl, ha, h1, _⟩ := h.ex
      rcases List.mem_cons.mp hr with rfl | hr
      · have := h.a0
        rw [← ha] at this
        intro z
        rw [at0_rd, z] at this
        cases this
      · exact (h1 r hr).2.1
    have hne : S ≠ [] := by
      obtain ⟨p, rest, rfl, _⟩ := h.ex
      simp
    rw [whl_succ, tst_ev]
    by_cases h2 : 1 < S.length
    · obtain ⟨f, hf1, hm, y4, y5, y6, eb⟩ := body_ev x0 c n X S O x4 x5 x6 hc h.w h0 (Nat.lt_of_le_of_lt h.x hM) hne hl
      obtain ⟨X', hp, ha⟩ := h.next hc h2 hf1 hm
      have ct := led_count c f S hf1
      obtain ⟨S', O', z4, z5, z6, e, d⟩ := loop2 x0 c n M hc hM fuel _ _ _ X' y4 y5 y6 hp (fun r hr => by
        rcases List.mem_append.mp hr with hr | hr
        · exact hz r hr
        · have := (List.mem_filter.mp hr).2
          simpa [Rd.zr, at0_rd] using this) (by omega) (by rw [List.length_append]; omega)
      refine ⟨S', O', z4, z5, z6, ?_, ⟨.step f hf1 hm d.red, d.one, d.w, d.o, d.nz, d.zr, ?_⟩⟩
      · simp only [bind_ok, h2, decide_true, if_true, eb, turn_nx]
        exact e
      · rw [d.cnt, List.length_append]; omega
    · refine ⟨S, O, x4, x5, x6, by simp [h2], ⟨.done S O, by omega, h.w.le h.x, h.o, h0, hz, rfl⟩⟩
theorem fuel_ge (x0 : SD) (c : Nat) (S O : List (List Int)) (x4 x5 x6 : SD) (f : List Int) (hf : f ∈ S) (hc : c < f.length) : (at0 f c).natAbs + 2 ≤ szS (rst2 x0 c S O x4 x5 x6) := by
  have h1 : (SD.own (S.map tI)).sz + 2 ≤ szS (rst2 x0 c S O x4 x5 x6) := szS_mem (by simp)
  have h2 : (tI f).sz ≤ szs (S.map tI) := szs_mem (List.mem_map.mpr ⟨f, hf, rfl⟩)
  have h3 : (D.int (at0 f c)).sz ≤ szs (f.map D.int) := szs_mem (List.mem_map.mpr ⟨_, Rd.at0_mem hc, rfl⟩)
  have e1 : (SD.own (S.map tI)).sz = szs (S.map tI) := rfl
  have e2 : (tI f).sz = szs (f.map D.int) := by simp [tI, D.sz]
  have e3 : (D.int (at0 f c)).sz = (at0 f c).natAbs := by simp [D.sz]
  omega
def grow (X : Nat) : Nat := 2 * ((X + (X + 1) * X) * X * X * X)
theorem reduced_ev (b : Bool) (rs : List (List Int)) (c n X : Nat) (hc : c < n) (w : Rd.Wd n X rs) (hX : X < 2 ^ 8000) (hg : grow X < 2 ^ 8000) (hl : rs.length ≤ 1000) :
    ∃ S' O', f_reduced [lsl b (rs.map tI), .sh (.int c)] = .ok (.sh (.tup [.lst (S'.map tI), .lst (O'.map tI)]), [lso b (rs.map tI), .no]) ∧ Done c n (max X (grow X)) (rs.filter (Rd.nz c)) (rs.filter (Rd.zr c)) S' O' := by
  have gt : ∀ r ∈ rs, atI (r.map D.int) (c : Int) = some (.int (at0 r c)) := fun r hr => at0_get r c (by rw [(w r hr).1]; exact hc)
  have k0 : ∀ (m : Itm) (x0 : SD), m.keep [x0, .sh (.int c), .no, .no, .no, .no, .no, .no] → lcL m (stN 7) (bT (xPrim [.ex (xPrim [.va 7, .va 1] pIx), .ex (xC (.int 0))] pNe)) (xVar 7) [7] (rs.map tI) [x0, .sh (.int c), .no, .no, .no, .no, .no, .no] = .ok ((rs.filter (Rd.nz c)).map tI, [x0, .sh (.int c), .no, .no, .no, .no, .no, .no]) := fun m x0 hm => lc_filterL fun r hr k => by
    by_cases q : at0 r c = 0
    · simp [gt r hr, q, Rd.nz, at0_rd, hm]
    · have q' : (at0 r c == 0) = false := by simpa using q
      simp [gt r hr, q, q', Rd.nz, at0_rd, hm]
  have k1 : ∀ (m : Itm) (x0 x2 : SD), m.keep [x0, .sh (.int c), x2, .no, .no, .no, .no, .no] → lcL m (stN 7) (bT (xPrim [.ex (xPrim [.va 7, .va 1] pIx), .ex (xC (.int 0))] pEq)) (xVar 7) [7] (rs.map tI) [x0, .sh (.int c), x2, .no, .no, .no, .no, .no] = .ok ((rs.filter (Rd.zr c)).map tI, [x0, .sh (.int c), x2, .no, .no, .no, .no, .no]) := fun m x0 x2 hm => lc_filterL fun r hr k => by
    by_cases q : at0 r c = 0
    · simp [gt r hr, q, Rd.zr, at0_rd, hm]
    · have q' : (at0 r c == 0) = false := by simpa using q
      simp [gt r hr, q, q', Rd.zr, at0_rd, hm]
  have h0 : ∀ r ∈ rs.filter (Rd.nz c), at0 r c ≠ 0 := fun r hr => by
    have := (List.mem_filter.mp hr).2
    simpa [Rd.nz, at0_rd] using this
  have hz : ∀ r ∈ rs.filter (Rd.zr c), at0 r c = 0 := fun r hr => by
    have := (List.mem_filter.mp hr).2
    simpa [Rd.zr, at0_rd] using this
  have wS : Rd.Wd n X (rs.filter (Rd.nz c)) := w.filter
  have wO : Rd.Wd n X (rs.filter (Rd.zr c)) := w.filter
  have l1 : (rs.filter (Rd.nz c)).length + (rs.filter (Rd.zr c)).length ≤ 1000 := by
    have e2 : ∀ L : List (List Int), (L.filter (Rd.nz c)).length + (L.filter (Rd.zr c)).length = L.length := fun L => by
      induction L with
      | nil => rfl
      | cons r L ih =>
        by_cases q : Rd.at0 r c = 0
        · have a1 : Rd.nz c r = false := by simp [Rd.nz, q]
          have a2 : Rd.zr c r = true := by simp [Rd.zr, q]
          simp [a1, a2]; omega
        · have a1 : Rd.nz c r = true := by simp [Rd.nz, q]
          have a2 : Rd.zr c r = false := by simp [Rd.zr, q]
          simp [a1, a2]; omega
    rw [e2]; exact hl
  generalize rs.filter (Rd.nz c) = S at k0 h0 wS l1
  generalize rs.filter (Rd.zr c) = O at k1 hz wO l1
  have s2 : (2 : Nat) ≤ sizeLine := by decide
  have main : ∀ x0 : SD, ∃ S' O' y4 y5 y6, whl tstR w_reduced_7 (szS (rst2 x0 c S O .no .no .no)) (rst2 x0 c S O .no .no .no) = .ok (.nx (rst2 x0 c S' O' y4 y5 y6)) ∧ Done c n (max X (grow X)) S O S' O' := fun x0 => by
    by_cases h2 : 1 < S.length
    · have hne : S ≠ [] := fun z => by subst z; simp at h2
      obtain ⟨f, hf1, hm, y4, y5, y6, eb⟩ := body_ev x0 c n X S O .no .no .no hc wS h0 hX hne l1
      have fg := fuel_ge x0 c S O .no .no .no f hf1 (by rw [(wS f hf1).1]; exact hc)
      obtain ⟨k, ek⟩ : ∃ k, szS (rst2 x0 c S O .no .no .no) = k + 1 := ⟨szS (rst2 x0 c S O .no .no .no) - 1, by omega⟩
      have ct := led_count c f S hf1
      have hp := Rd.Ph.first hc wS wO h0 hf1 hm
      obtain ⟨S', O', z4, z5, z6, e, d⟩ := loop2 x0 c n _ hc hg k _ _ _ _ y4 y5 y6 hp (fun r hr => by
        rcases List.mem_append.mp hr with hr | hr
        · exact hz r hr
        · have := (List.mem_filter.mp hr).2
          simpa [Rd.zr, at0_rd] using this) (by rw [at0_rd]; omega) (by rw [List.length_append]; omega)
      refine ⟨S', O', z4, z5, z6, ?_, ⟨.step f hf1 hm d.red, d.one, d.w.le (Nat.le_max_right ..), d.o.le (Nat.le_max_right ..), d.nz, d.zr, ?_⟩⟩
      · rw [ek, whl_succ, tst_ev]
        simp only [bind_ok, h2, decide_true, if_true, eb, turn_nx]
        exact e
      · rw [d.cnt, List.length_append]; omega
    · obtain ⟨k, ek⟩ : ∃ k, szS (rst2 x0 c S O .no .no .no) = k + 1 := by
        have : (SD.own (S.map tI)).sz + 2 ≤ szS (rst2 x0 c S O .no .no .no) := szS_mem (by simp)
        exact ⟨szS (rst2 x0 c S O .no .no .no) - 1, by omega⟩
      refine ⟨S, O, .no, .no, .no, ?_, ⟨.done S O, by omega, wS.le (Nat.le_max_left ..), wO.le (Nat.le_max_left ..), h0, hz, rfl⟩⟩
      rw [ek, whl_succ, tst_ev]
      simp [h2]
  cases b with
  | false =>
    obtain ⟨S', O', y4, y5, y6, e, d⟩ := main (.sh (.lst (rs.map tI)))
    refine ⟨S', O', ?_, d⟩
    have q0 := k0 ⟨rs.map tI, []⟩ (.sh (.lst (rs.map tI))) (by simp)
    have q1 := k1 ⟨rs.map tI, []⟩ (.sh (.lst (rs.map tI))) (.own (S.map tI)) (by simp)
    simp [lsl, lso, f_reduced, g_reduced, c_reduced_0, c_reduced_1, q0, q1, e, s2]
  | true =>
    obtain ⟨S', O', y4, y5, y6, e, d⟩ := main (.byr (rs.map tI))
    refine ⟨S', O', ?_, d⟩
    have q0 := k0 ⟨rs.map tI, [(0, .byr (rs.map tI))]⟩ (.byr (rs.map tI)) (by simp)
    have q1 := k1 ⟨rs.map tI, [(0, .byr (rs.map tI))]⟩ (.byr (rs.map tI)) (.own (S.map tI)) (by simp)
    simp [lsl, lso, f_reduced, g_reduced, c_reduced_0, c_reduced_1, q0, q1, e, s2]
end Lw
end
section
namespace Lw
open PySem PySem.Spec PyProof.Rows L2 Wm
theorem turned_ev (r : List Int) : f_turned [.sh (tI r)] = .ok (.sh (tI (r.map fun x => -x)), [.no]) := by
  have k0 : lcL ⟨r.map D.int, []⟩ (stN 1) bYes (xPrim [.va 1] pNeg) [1] (r.map D.int) [.sh (tI r), .no] = .ok (r.map fun x => D.int (-x), [.sh (tI r), .no]) := lc_mapL fun x hx k => by simp
  simp [f_turned, g_turned, c_turned_0, k0, Function.comp_def]
def upR (c : Nat) (f : List Int) : List Int := if 0 < at0 f c then f else f.map fun x => -x
theorem at0_neg (f : List Int) (c : Nat) : at0 (f.map fun x => -x) c = -(at0 f c) := by
  unfold at0
  simp only [List.getD_eq_getElem?_getD, List.getElem?_map]
  cases f[c]? <;> simp
theorem upR_len (c : Nat) (f : List Int) : (upR c f).length = f.length := by
  unfold upR
  split <;> simp
theorem upR_bn {c N : Nat} {f : List Int} (h : Rd.Bn N f) : Rd.Bn N (upR c f) := by
  unfold upR
  split
  · exact h
  · intro x hx
    obtain ⟨y, hy, rfl⟩ := List.mem_map.mp hx
    rw [Int.natAbs_neg]
    exact h y hy
theorem upR_pos {c : Nat} {f : List Int} (h : at0 f c ≠ 0) : 0 < at0 (upR c f) c := by
  unfold upR
  split
  · assumption
  · rw [at0_neg]; omega
def gX (X : Nat) : Nat := max X (grow X)
theorem upR_or (c : Nat) (f : List Int) : upR c f = f ∨ upR c f = f.map fun x => -x := by
  unfold upR
  split
  · exact .inl rfl
  · exact .inr rfl
end Lw
end
section
namespace Lw
open PySem PySem.Spec PyProof.Rows L2 Wm
def bX (X : Nat) : Nat → Nat
  | 0 => X
  | k + 1 => gX (bX X k)
def colL (rs : List (List Int)) (k : Nat) : List Int := rs.map fun r => at0 r k
theorem flipped_ev (b : Bool) (rs : List (List Int)) (n : Nat) (hr : ∀ r ∈ rs, r.length = n) (hn : n ≤ 1000) : f_flipped [lsl b (rs.map tI), .sh (.int n)] = .ok (.own ((List.range n).map fun k => tI (colL rs k)), [lso b (rs.map tI), .no]) := by
  have hr1 : rngOk (n : Int) := rgk (by omega)
  have hs : n ≤ sizeLine := sz (by omega)
  have inner : ∀ (b : Bool) (k : Nat), k < n → c_flipped_0 [lsl b (rs.map tI), .sh (.int n), .sh (.int k), .no] = .ok (.own ((colL rs k).map D.int), [lsl b (rs.map tI), .sh (.int n), .sh (.int k), .no]) := fun b k hk => by
    have key : ∀ (m : Itm) (s0 : SD), m.keep [s0, .sh (.int n), .sh (.int k), .no] → lcL m (stN 3) bYes (xPrim [.va 3, .va 2] pIx) [3] (rs.map tI) [s0, .sh (.int n), .sh (.int k), .no] = .ok (rs.map fun r => D.int (at0 r k), [s0, .sh (.int n), .sh (.int k), .no]) := fun m s0 hm => lc_mapL fun r hr' kk => by
      simp [at0_get r k (by rw [hr r hr']; exact hk), hm]
    cases b with
    | false =>
      have := key ⟨rs.map tI, []⟩ (.sh (.lst (rs.map tI))) (by simp)
      simp [lsl, c_flipped_0, this, colL, Function.comp_def]
    | true =>
      have := key ⟨rs.map tI, [(0, .byr (rs.map tI))]⟩ (.byr (rs.map tI)) (by simp)
      simp [lsl, c_flipped_0, this, colL, Function.comp_def]
  have key : lcL ⟨(List.range n).map fun (k : Nat) => D.int k, []⟩ (stN 2) bYes (xPrim [.ex c_flipped_0] pTuple) [2] ((List.range n).map fun (k : Nat) => D.int k) [lsl b (rs.map tI), .sh (.int n), .no, .no] = .ok ((List.range n).map fun k => tI (colL rs k), [lsl b (rs.map tI), .sh (.int n), .no, .no]) := lc_mapL fun k hk kk => by
    simp [inner b k (List.mem_range.mp hk)]
  cases b with
  | false =>
    simp only [lsl, cond_false] at key
    simp [lsl, lso, f_flipped, g_flipped, c_flipped_1, hr1, hs, key]
  | true =>
    simp only [lsl, cond_true] at key
    simp [lsl, lso, f_flipped, g_flipped, c_flipped_1, hr1, hs, key]
theorem sm_abs (M : Nat) (f : Nat → Int) : ∀ (n : Nat), (∀ i, i < n → (f i).natAbs ≤ M) → (Dt.sm n f).natAbs ≤ n * M
  | 0, _ => by simp [Dt.sm]
  | n + 1, h => by
    have ih := sm_abs M f n fun i hi => h i (by omega)
    have h1 := h n (by omega)
    show (Dt.sm n f + f n).natAbs ≤ _
    have := Int.natAbs_add_le (Dt.sm n f) (f n)
    rw [Nat.add_mul, Nat.one_mul]
    omega
def nought (r : List Int) : Bool := !((r.map D.int).map trB).any id
theorem nought_zero {r : List Int} (h : nought r = true) : ∀ i, Rd.at0 r i = 0 := by
  have h2 : ∀ x ∈ r, x = 0 := fun x hx => by
    have e : ∀ (x : Int), trB (D.int x) = (x != 0) := fun x => rfl
    unfold nought at h
    rw [Bool.not_eq_true'] at h
    have := List.any_eq_false.mp h (trB (D.int x)) (List.mem_map.mpr ⟨_, List.mem_map.mpr ⟨x, hx, rfl⟩, rfl⟩)
    rw [e] at this
    simpa using this
  intro i
  by_cases hi : i < r.length
  · exact h2 _ (Rd.at0_mem hi)
  · exact La.at0_out (by omega)
theorem zero_nought {r : List Int} (h : ∀ i, Rd.at0 r i = 0) : nought r = true := by
  have h2 : ∀ x ∈ r, x = 0 := fun x hx => by
    obtain ⟨i, hi, rfl⟩ := List.getElem_of_mem hx
    have := h i
    unfold Rd.at0 at this
    rw [List.getD_eq_getElem?_getD, List.getElem?_eq_getElem hi] at this
    exact this
  unfold nought
  rw [Bool.not_eq_true', List.any_eq_false]
  intro b hb
  obtain ⟨d, hd, rfl⟩ := List.mem_map.mp hb
  obtain ⟨x, hx, rfl⟩ := List.mem_map.mp hd
  rw [h2 x hx]
  simp [trB]
theorem chkrow_ok (s : List Int) (n : Nat) (k : Int) (h : s.length = n) : f_check_row [.sh (tI s), .sh (.int n), .sh (.int k)] = .ok (.sh .non, [.no, .no, .no]) := by
  have e := row_tI s n h
  simp [f_check_row, g_check_row, e]
end Lw
end
section
namespace Lw
open PySem PySem.Spec PyProof.Rows L2 Wm
def lsz (b : Bool) (xs : List D) : SD := bif b then .own xs else .sh (.lst xs)
theorem unit_ev (n j : Nat) (hn : n ≤ 1000) : f_unit [.sh (.int n), .sh (.int j)] = .ok (.sh (tI (La.unitL n j)), [.no, .no]) := by
  have hr : rngOk (n : Int) := rgk (by omega)
  have hs : n ≤ sizeLine := sz (by omega)
  have k0 : lcL ⟨(List.range n).map fun (k : Nat) => D.int k, []⟩ (stN 2) bYes (xPrim [.ex (xPrim [.va 2, .va 1] pEq)] pInt) [2] ((List.range n).map fun (k : Nat) => D.int k) [.sh (.int n), .sh (.int j), .no] = .ok ((List.range n).map fun k => D.int (if k = j then 1 else 0), [.sh (.int n), .sh (.int j), .no]) := lc_mapL fun k hk kk => by
    by_cases q : k = j
    · subst q; simp
    · have q' : ((k : Int) == (j : Int)) = false := by simpa using (by omega : ¬ (k : Int) = j)
      simp [q, q']
  simp [f_unit, g_unit, c_unit_0, hr, hs, k0, La.unitL, Function.comp_def]
theorem bX_le (X k : Nat) : bX X k ≤ bX X (k + 1) := Nat.le_max_left ..
theorem bX_mono (X : Nat) {k l : Nat} (h : k ≤ l) : bX X k ≤ bX X l := by
  induction h with
  | refl => exact Nat.le_refl _
  | step _ ih => exact Nat.le_trans ih (bX_le ..)
abbrev tH (p : Nat × List Int) : D := .tup [.int (p.1 : Nat), tI p.2]
abbrev zst (s0 : SD) (n : Nat) (T : List (Nat × List Int)) (x3 x4 x5 x6 : SD) : List SD := [s0, .sh (.int n), .own (T.map tH), x3, x4, x5, x6, .no, .no]
structure Zi (G : List (List Int)) (n X k : Nat) (T : List (Nat × List Int)) (L : List (List Int)) : Prop where
  hs : La.Hs k (G.length + n) T
  eqv : La.Eqv (T.map (·.2) ++ L) (La.startR G n)
  w : Rd.Wd (G.length + n) (bX X k) L
  t : ∀ p ∈ T, Rd.Bn (bX X k) p.2
  z : ∀ r ∈ L, ∀ j, j < k → Rd.at0 r j = 0
  c : T.length + L.length ≤ n
theorem z_turn (G : List (List Int)) (n X k : Nat) (hk : k < G.length) (hn : n ≤ 100) (hb : bX X (k + 1) < 2 ^ 8000) (s0 : SD) (T : List (Nat × List Int)) (L : List (List Int)) (b : Bool) (x4 x5 x6 : SD) (h : Zi G n X k T L) :
    ∃ T' L' y5 y6, Zi G n X (k + 1) T' L' ∧ ∀ kk, forT l_stairs_of_2 kk (stN 4 (.int (k : Nat)) (zst s0 n T (lsz b (L.map tI)) x4 x5 x6)) = kk (zst s0 n T' (.sh (.lst (L'.map tI))) (.sh (.int k)) y5 y6) := by
  have hX : bX X k < 2 ^ 8000 := Nat.lt_of_le_of_lt (bX_le X k) hb
  have hg : grow (bX X k) < 2 ^ 8000 := Nat.lt_of_le_of_lt (Nat.le_max_right ..) hb
  have hc := h.c
  obtain ⟨S', O', er, d⟩ := reduced_ev b L k (G.length + n) (bX X k) (by omega) h.w hX hg (by omega)
  obtain ⟨eq0, hS', hO'⟩ := La.red_all (n := G.length + n) d.red (fun r hr => (h.w r hr).1)
  have cnt : S'.length + O'.length = L.length := by
    have e2 : ∀ L : List (List Int), (L.filter (Rd.nz k)).length + (L.filter (Rd.zr k)).length = L.length := fun L => by
      induction L with
      | nil => rfl
      | cons r L ih =>
        by_cases q : Rd.at0 r k = 0
        · have a1 : Rd.nz k r = false := by simp [Rd.nz, q]
          have a2 : Rd.zr k r = true := by simp [Rd.zr, q]
          simp [a1, a2]; omega
        · have a1 : Rd.nz k r = true := by simp [Rd.nz, q]
          have a2 : Rd.zr k r = false := by simp [Rd.zr, q]
          simp [a1, a2]; omega
    rw [d.cnt, e2]
  have e1 : sTup [6, 3] (xCall f_reduced [.va 3, .va 4]) (zst s0 n T (lsz b (L.map tI)) (.sh (.int k)) x5 x6) = .ok (.nx (zst s0 n T (.sh (.lst (O'.map tI))) (.sh (.int k)) x5 (.sh (.lst (S'.map tI))))) := by
    cases b with
    | true =>
      simp only [lsl, lso, cond_true] at er
      simp [lsz, er]
    | false =>
      simp only [lsl, lso, cond_false] at er
      simp [lsz, er]
  have zO : ∀ r ∈ O', ∀ j, j < k + 1 → Rd.at0 r j = 0 := fun r hr j hj => by
    by_cases q : j < k
    · have : La.Sp L (Rd.at0 r) := (eq0 _).mp (.mem (List.mem_append_right _ hr))
      exact this.zeroAt fun s hs => h.z s hs j q
    · have : j = k := by omega
      subst this
      exact d.zr r hr
  have wO : Rd.Wd (G.length + n) (bX X (k + 1)) O' := d.o
  have wS : Rd.Wd (G.length + n) (bX X (k + 1)) S' := d.w
  have hone := d.one
  have hnz := d.nz
  have tB : ∀ p ∈ T, Rd.Bn (bX X (k + 1)) p.2 := fun p hp => (h.t p hp).le (bX_le ..)
  cases S' with
  | nil =>
    refine ⟨T, O', x5, .sh (.lst []), ⟨h.hs.mono (by omega), ?_, wO, tB, zO, by simp at cnt; omega⟩, fun kk => ?_⟩
    · have eq1 : La.Eqv O' L := by simpa using eq0
      exact (La.Eqv.app eq1).trans h.eqv
    · simp only [List.map_nil] at e1
      have e0 : stN 4 (.int (k : Nat)) (zst s0 n T (lsz b (L.map tI)) x4 x5 x6) = some (zst s0 n T (lsz b (L.map tI)) (.sh (.int k)) x5 x6) := by simp [zst, Wm.stN]
      have body : l_stairs_of_2 (zst s0 n T (lsz b (L.map tI)) (.sh (.int k)) x5 x6) = .ok (.nx (zst s0 n T (.sh (.lst (O'.map tI))) (.sh (.int k)) x5 (.sh (.lst [])))) := by
        unfold l_stairs_of_2
        rw [seq_nx e1]
        simp
      rw [e0]
      simp [body]
  | cons f rest =>
    have : rest = [] := by
      cases rest with
      | nil => rfl
      | cons a b => simp at hone
    subst this
    have f0 := hnz f (by simp)
    obtain ⟨f1, f2⟩ := wS f (by simp)
    have ul : (upR k f).length = G.length + n := by rw [upR_len, f1]
    have ub := upR_bn (c := k) f2
    have up := upR_pos f0
    have uo := upR_or k f
    have fz : ∀ j, j < k → Rd.at0 f j = 0 := fun j hj => by
      have : La.Sp L (Rd.at0 f) := (eq0 _).mp (.mem (List.mem_append_left _ (by simp)))
      exact this.zeroAt fun s hs => h.z s hs j hj
    have uz : ∀ j, j < k → Rd.at0 (upR k f) j = 0 := fun j hj => by
      rcases uo with e | e
      · rw [e]; exact fz j hj
      · rw [e, La.at0_neg']; show -(Rd.at0 f j) = 0; rw [fz j hj]; rfl
    refine ⟨T ++ [(k, upR k f)], O', .sh (tI f), .sh (.lst [tI f]), ⟨h.hs.snoc hk ul uz up, ?_, wO, fun p hp => ?_, zO, by simp at cnt ⊢; omega⟩, fun kk => ?_⟩
    · rw [List.map_append, List.append_assoc]
      exact ((La.sgn_eqv uo).trans (La.Eqv.app eq0)).trans h.eqv
    · rcases List.mem_append.mp hp with q | q
      · exact tB p q
      · have : p = (k, upR k f) := by simpa using q
        subst this; exact ub
    · have gf := at0_get f k (by rw [f1]; omega)
      have e0 : stN 4 (.int (k : Nat)) (zst s0 n T (lsz b (L.map tI)) x4 x5 x6) = some (zst s0 n T (lsz b (L.map tI)) (.sh (.int k)) x5 x6) := by simp [zst, Wm.stN]
      have zz : T.length < sizeLine := szlt (by omega)
      have s2 : (2 : Nat) ≤ sizeLine := by decide
      have inner : l_stairs_of_1 (zst s0 n T (.sh (.lst (O'.map tI))) (.sh (.int k)) (.sh (tI f)) (.sh (.lst [tI f]))) = .ok (.nx (zst s0 n (T ++ [(k, upR k f)]) (.sh (.lst (O'.map tI))) (.sh (.int k)) (.sh (tI f)) (.sh (.lst [tI f])))) := by
        by_cases q : 0 < at0 f k
        · simp [l_stairs_of_1, gf, q, upR, zz, s2]
        · have t := turned_ev f
          simp only [tI] at t
          simp [l_stairs_of_1, gf, q, upR, t, zz, s2]
      have body : l_stairs_of_2 (zst s0 n T (lsz b (L.map tI)) (.sh (.int k)) x5 x6) = .ok (.nx (zst s0 n (T ++ [(k, upR k f)]) (.sh (.lst (O'.map tI))) (.sh (.int k)) (.sh (tI f)) (.sh (.lst [tI f])))) := by
        unfold l_stairs_of_2
        rw [seq_nx e1]
        simp only [zst] at inner
        simp [inner]
      rw [e0]
      simp [body]
theorem stairsof_ev (b : Bool) (G : List (List Int)) (n X : Nat) (hG : ∀ r ∈ G, r.length = n ∧ Rd.Bn X r) (hm : G.length ≤ 4) (hn : n ≤ 100) (hX1 : 1 ≤ X) (hb : bX X G.length < 2 ^ 8000) : ∃ T, f_stairs_of [lsl b (G.map tI), .sh (.int n)] = .ok (.own (T.map tH), [lso b (G.map tI), .no]) ∧ La.Frm G n T ∧ ∀ p ∈ T, Rd.Bn (bX X G.length) p.2 := by
  have fl := fun b => flipped_ev b G n (fun r hr => (hG r hr).1) (by omega)
  have hr : rngOk (G.length : Int) := rgk (by omega)
  have hs : G.length ≤ sizeLine := sz (by omega)
  have e0 : enumD ((List.range n).map fun k => tI (colL G k)) = (List.range n).map fun k => D.tup [.int (k : Nat), tI (colL G k)] := by
    unfold enumD
    refine List.ext_getElem? fun i => ?_
    rw [List.getElem?_mapIdx, List.getElem?_map, List.getElem?_map]
    by_cases hi : i < n
    · rw [List.getElem?_range hi]; rfl
    · rw [List.getElem?_eq_none (by simpa using hi)]; rfl
  have k0 : ∀ s0 : SD, lcL ⟨(List.range n).map fun k => D.tup [.int (k : Nat), tI (colL G k)], []⟩ (stT [7, 8]) bYes (xPrim [.va 8, .ex (xCall f_unit [.va 1, .va 7])] pAdd) [7, 8] ((List.range n).map fun k => D.tup [.int (k : Nat), tI (colL G k)]) (zst s0 n [] .no .no .no .no) = .ok ((List.range n).map fun k => tI (colL G k ++ La.unitL n k), zst s0 n [] .no .no .no .no) := fun s0 => lc_mapL fun k hk kk => by
    have u := unit_ev n k (by omega)
    have z : (colL G k).length + (La.unitL n k).length ≤ sizeLine := sz (by simp [colL, La.unitL]; omega)
    simp [u, tI, z] at *
    rfl
  have es : ((List.range n).map fun k => tI (colL G k ++ La.unitL n k)) = (La.startR G n).map tI := by
    unfold La.startR
    rw [List.map_map]
    rfl
  rw [es] at k0
  have i0 : Zi G n X 0 [] (La.startR G n) := by
    refine ⟨⟨.nil, (fun p hp => nomatch hp), (fun p hp => nomatch hp), (fun p hp => nomatch hp), (fun p hp => nomatch hp)⟩, by simpa using La.Eqv.rfl', fun r hr => ?_, (fun p hp => nomatch hp), fun r hr j hj => absurd hj (by omega), by simp [La.startR]⟩
    obtain ⟨j, hj, rfl⟩ := List.mem_map.mp hr
    refine ⟨by simp [La.colG, La.unitL], fun x hx => ?_⟩
    rcases List.mem_append.mp hx with q | q
    · obtain ⟨s, hs, rfl⟩ := List.mem_map.mp q
      exact (hG s hs).2.at (by rw [(hG s hs).1]; exact List.mem_range.mp hj)
    · obtain ⟨s, hs, rfl⟩ := List.mem_map.mp q
      show (if s = j then (1 : Int) else 0).natAbs ≤ X
      split
      · exact hX1
      · exact Nat.zero_le _
  have main : ∀ s0 : SD, ∃ T x3 x4 x5 x6, forL (stN 4) l_stairs_of_2 ((List.range G.length).map fun (k : Nat) => D.int k) (zst s0 n [] (.own ((La.startR G n).map tI)) .no .no .no) = .ok (.nx (zst s0 n T x3 x4 x5 x6)) ∧ ∃ L, Zi G n X G.length T L := fun s0 => by
    obtain ⟨ρ', ⟨T, L, b', x4, x5, x6, rfl, z⟩, e⟩ := for_rgx (st := stN 4) (body := l_stairs_of_2) (n := G.length) (g := fun (k : Nat) => D.int k) (ρ := zst s0 n [] (.own ((La.startR G n).map tI)) .no .no .no)
      (fun k ρ => ∃ T L b x4 x5 x6, ρ = zst s0 n T (lsz b (L.map tI)) x4 x5 x6 ∧ Zi G n X k T L) (by
        rintro k _ hk ⟨T, L, b, x4, x5, x6, rfl, z⟩
        obtain ⟨T', L', y5, y6, z', e⟩ := z_turn G n X k hk hn (Nat.lt_of_le_of_lt (bX_mono X hk) hb) s0 T L b x4 x5 x6 z
        exact ⟨_, ⟨T', L', false, .sh (.int k), y5, y6, rfl, z'⟩, e⟩) ⟨[], La.startR G n, true, .no, .no, .no, rfl, i0⟩
    exact ⟨T, _, x4, x5, x6, e, L, z⟩
  cases b with
  | false =>
    obtain ⟨T, x3, x4, x5, x6, e, L, z⟩ := main (.sh (.lst (G.map tI)))
    refine ⟨T, ?_, La.frm_of (z.hs.mono (by omega)) z.eqv z.z, z.t⟩
    have f0 := fl false
    have k1 := k0 (.sh (.lst (G.map tI)))
    simp only [lsl, lso, cond_false] at f0 ⊢
    simp only [zst, List.map_nil] at e k1
    simp [f_stairs_of, g_stairs_of, c_stairs_of_0, f0, e0, k1, hr, hs, e]
  | true =>
    obtain ⟨T, x3, x4, x5, x6, e, L, z⟩ := main (.byr (G.map tI))
    refine ⟨T, ?_, La.frm_of (z.hs.mono (by omega)) z.eqv z.z, z.t⟩
    have f0 := fl true
    have k1 := k0 (.byr (G.map tI))
    simp only [lsl, lso, cond_true] at f0 ⊢
    simp only [zst, List.map_nil] at e k1
    simp [f_stairs_of, g_stairs_of, c_stairs_of_0, f0, e0, k1, hr, hs, e]
end Lw
end
section
namespace Lw
open PySem PySem.Spec PyProof.Rows L2 Wm
theorem zip_rows (g : List (List Int)) (col : List Int) : zipD (g.map tI) (col.map D.int) = (g.zip col).map fun p => D.tup [tI p.1, .int p.2] := by
  unfold zipD
  rw [List.zipWith_map, List.zip_eq_zipWith, List.map_zipWith]
abbrev gst (side : List Int) (T : List (Nat × List Int)) (n : Nat) (l : List Int) (x4 x5 : SD) : List SD := [.sh (tI side), .byr (T.map tH), .sh (.int n), .sh (tI l), x4, x5]
theorem gone_loop (side : List Int) (T0 : List (Nat × List Int)) (n m N Y : Nat) (m0 : Itm) (hk : ∀ l x4 x5, m0.keep (gst side T0 n l x4 x5)) (hmN : m ≤ N) (hY : Y < 2 ^ 8000) : ∀ (T : List (Nat × List Int)) (l : List Int) (X : Nat) (x4 x5 : SD), La.Hs m N T → (∀ p ∈ T, Rd.Bn Y p.2) → l.length = N → Rd.Bn X l → (X + 1) * (Y + 1) ^ T.length < 2 ^ 50000 →
    ∃ y4 y5, forK m0 (stT [4, 5]) l_gone_down_0 (T.map tH) (gst side T0 n l x4 x5) = .ok (.nx (gst side T0 n (La.gone T l) y4 y5)) ∧ Rd.Bn ((X + 1) * (Y + 1) ^ T.length) (La.gone T l)
  | [], l, X, x4, x5, _, _, _, hX, _ => ⟨x4, x5, by rw [List.map_nil, forK_nil, if_pos (hk l x4 x5)]; rfl, hX.le (by simp)⟩
  | (h, r) :: T, l, X, x4, x5, H, hT, hl, hX, hB => by
    have hr : r.length = N := H.len (h, r) (by simp)
    have hh : h < m := H.lt (h, r) (by simp)
    have rp : 0 < Rd.at0 r h := H.p (h, r) (by simp)
    have rb : Rd.Bn Y r := hT (h, r) (by simp)
    have gl := at0_get l h (by omega)
    have gr := at0_get r h (by omega)
    have rp' : 0 < at0 r h := rp
    have r0 : at0 r h ≠ 0 := Int.ne_of_gt rp'
    have rbh : (at0 r h).natAbs ≤ Y := rb.at (by omega)
    have cd : CDv (at0 l h) (at0 r h) := ⟨r0, log_lt (by omega) (Nat.lt_of_le_of_lt rbh hY) r0⟩
    have lb : (at0 l h).natAbs ≤ X := hX.at (by omega)
    have hX1 : X + 1 < 2 ^ 50000 := Nat.lt_of_le_of_lt (Nat.le_mul_of_pos_right _ (Nat.pow_pos (by omega))) hB
    have qb : (-((at0 l h).fdiv (at0 r h))).natAbs ≤ X + 1 := by
      rw [Int.natAbs_neg]
      have := Rd.fdiv_le (at0 l h) (at0 r h) r0
      omega
    have p5 : (2 : Nat) ^ 50000 ≤ 2 ^ 100000 := Nat.pow_le_pow_right (by omega) (by omega)
    have p8 : (2 : Nat) ^ 8000 ≤ 2 ^ 100000 := Nat.pow_le_pow_right (by omega) (by omega)
    have ad := added_ev l r (-((at0 l h).fdiv (at0 r h))) fun b hb => mul_okB (by omega) (by have := rb b hb; omega)
    have cu : Rd.addL l r (-((at0 l h).fdiv (at0 r h))) = Rd.cut h r l := rfl
    rw [cu] at ad
    have bn : Rd.Bn (X + (X + 1) * Y) (Rd.cut h r l) := Rd.addL_bn hX rb qb
    have lc : (Rd.cut h r l).length = N := by rw [Rd.cut_len (by rw [hl, hr]), hl]
    have eB : (X + (X + 1) * Y + 1) * (Y + 1) ^ T.length = (X + 1) * (Y + 1) ^ (T.length + 1) := by
      rw [Nat.pow_succ, Nat.mul_comm ((Y + 1) ^ T.length), ← Nat.mul_assoc]
      congr 1
      rw [Nat.mul_add]; omega
    obtain ⟨y4, y5, e, hb⟩ := gone_loop side T0 n m N Y m0 hk hmN hY T (Rd.cut h r l) (X + (X + 1) * Y) (.sh (.int h)) (.sh (tI r)) H.tail (fun p hp => hT p (List.mem_cons_of_mem _ hp)) lc bn (by rw [eB]; exact hB)
    refine ⟨y4, y5, ?_, by rw [eB] at hb; exact hb⟩
    rw [List.map_cons, forK_cons, if_pos (hk l x4 x5)]
    have turn : ∀ kk, forT l_gone_down_0 kk (stT [4, 5] (tH (h, r)) (gst side T0 n l x4 x5)) = kk (gst side T0 n (Rd.cut h r l) (.sh (.int h)) (.sh (tI r))) := fun kk => by
      simp [l_gone_down_0, gl, gr, cd, ad]
    rw [turn]
    exact e
theorem gone_ev (side : List Int) (T : List (Nat × List Int)) (m n X Y : Nat) (hs : side.length = m) (H : La.Hs m (m + n) T) (hT : ∀ p ∈ T, Rd.Bn Y p.2) (hX : Rd.Bn X side) (hY : Y < 2 ^ 8000) (hB : (X + 1) * (Y + 1) ^ T.length < 2 ^ 50000) (hm : m ≤ 100) (hn : n ≤ 100) :
    f_gone_down [.sh (tI side), .byr (T.map tH), .sh (.int n)] = .ok (.sh (.tup [tI ((La.gone T (side ++ List.replicate n 0)).take m), tI (((La.gone T (side ++ List.replicate n 0)).drop m).map fun x => -x)]), [.no, .byr (T.map tH), .no]) ∧ Rd.Bn ((X + 1) * (Y + 1) ^ T.length) (La.gone T (side ++ List.replicate n 0)) := by
  have l0 : (side ++ List.replicate n (0 : Int)).length = m + n := by simp [hs]
  have b0 : Rd.Bn X (side ++ List.replicate n 0) := fun x hx => by
    rcases List.mem_append.mp hx with q | q
    · exact hX x q
    · rw [(List.mem_replicate.mp q).2]; exact Nat.zero_le _
  obtain ⟨y4, y5, e, hb⟩ := gone_loop side T n m (m + n) Y ⟨T.map tH, [(1, .byr (T.map tH))]⟩ (fun l x4 x5 => by simp) (by omega) hY T (side ++ List.replicate n 0) X .no .no H hT l0 b0 hB
  refine ⟨?_, hb⟩
  have hl := La.gone_len H l0
  generalize La.gone T (side ++ List.replicate n 0) = l at e hl
  have z1 : (1 : Nat) ≤ sizeLine := by decide
  have z2 : (2 : Nat) ≤ sizeLine := by decide
  have z3 : m + n ≤ sizeLine := sz (by omega)
  have er : pMul [.tup [.int 0], .int (n : Int)] = .ok (.sh (.tup (List.replicate n (.int 0)))) := by
    have hz : n ≤ sizeLine := sz (by omega)
    by_cases q : n = 0
    · subst q; simp [pMul]
    · have hk : (n : Int) ≤ 1000 := by omega
      simp [pMul, hz, hk]
  have ea : pAdd [tI side, .tup (List.replicate n (.int 0))] = .ok (.sh (tI (side ++ List.replicate n 0))) := by
    have : side.length + n ≤ sizeLine := by rw [hs]; exact z3
    simp [this]
  have s1 : pSlHi [tI l, .int (m : Int)] = .ok (.sh (tI (l.take m))) := by
    rw [slHi_tup _ _ (by omega)]; simp
  have s2 : pSlLo [tI l, .int (m : Int)] = .ok (.sh (tI (l.drop m))) := by
    rw [slLo_tup _ _ (by omega)]; simp
  have t1 := turned_ev (l.drop m)
  simp only [tI] at er ea s1 s2 t1 e
  simp only [gst, tI] at e
  simp [-List.map_append, -List.map_take, -List.map_drop, f_gone_down, g_gone_down, z1, er, ea, e, hs, s1, s2, t1, z2]
end Lw
end
section
namespace Lw
open PySem PySem.Spec PyProof.Rows L2 Wm
theorem forK_fold {α S : Type} {m : Itm} {st : Tg} {body : Ss} {g : α → D} (I : S → List SD → Prop) (f : S → α → S) (hk : ∀ s ρ, I s ρ → m.keep ρ) : ∀ {xs : List α}, (∀ x ∈ xs, ∀ s ρ, I s ρ → ∃ ρ', I (f s x) ρ' ∧ ∀ k, forT body k (st (g x) ρ) = k ρ') → ∀ {s : S} {ρ : List SD}, I s ρ → ∃ ρ', I (xs.foldl f s) ρ' ∧ forK m st body (xs.map g) ρ = .ok (.nx ρ')
  | [], _, s, ρ, hi => ⟨ρ, hi, by rw [List.map_nil, forK_nil, if_pos (hk s ρ hi)]⟩
  | x :: xs, h, s, ρ, hi => by
    obtain ⟨ρ1, h1, e1⟩ := h x (by simp) s ρ hi
    obtain ⟨ρ2, h2, e2⟩ := forK_fold I f hk (xs := xs) (fun y hy => h y (List.mem_cons_of_mem _ hy)) h1
    exact ⟨ρ2, h2, by rw [List.map_cons, forK_cons, if_pos (hk s ρ hi), e1]; exact e2⟩
def vL (m : Nat) (y : Nat → Int) : List Int := (List.range m).map y
theorem vL_at {m i : Nat} (y : Nat → Int) (h : i < m) : atI ((vL m y).map D.int) (i : Int) = some (.int (y i)) := by
  apply atI_nth
  rw [List.getElem?_map, vL, List.getElem?_map, List.getElem?_range h]
  rfl
theorem sum_sm (f : Nat → Int) : ∀ n, ((List.range n).map f).sum = Dt.sm n f
  | 0 => rfl
  | n + 1 => by
    rw [List.range_succ, List.map_append, List.sum_append, sum_sm f n]
    simp [Dt.sm]
theorem pSum_ints (xs : List Int) : pSum [.lst (xs.map D.int)] = .ok (.sh (.int xs.sum)) := by
  show (match asInts (xs.map D.int) with | some ns => Rs.ok (SD.sh (D.int ns.sum)) | none => Rs.bad) = _
  rw [asInts_map]
theorem rng2_ev (ρ : List SD) (i j : Nat) (hi : i ≤ 1000) (hj : j ≤ 1000) : rng2 ρ [.int ((i : Int) + 1), .int ((j : Int) + 1)] = .ok (⟨(List.range (j - i)).map fun (k : Nat) => D.int ((i : Int) + 1 + k), []⟩, ρ) := by
  have h1 : rngOk ((i : Int) + 1) := rngOk_nat (i + 1) (by omega)
  have h2 : rngOk ((j : Int) + 1) := rngOk_nat (j + 1) (by omega)
  have et : (((j : Int) + 1) - ((i : Int) + 1)).toNat = j - i := by omega
  have hz : j - i ≤ sizeLine := sz (by omega)
  simp only [rng2, h1, h2, hz, and_self, if_true, et, rangeD]
abbrev bst (side rest : List Int) (T : List (Nat × List Int)) (s : Nat) (M : Int) (x5 x6 x7 x9 : SD) : List SD := [.sh (tI side), .sh (tI rest), .byr (T.map tH), .sh (.int s), .sh (.int M), x5, x6, x7, .no, x9, .no]
def mnL (s : Nat) (T : List (Nat × List Int)) : Int := T.foldl (fun M p => if p.1 = s then Rd.at0 p.2 s else M) 1
theorem mn_no (s : Nat) : ∀ (T : List (Nat × List Int)) (M : Int), (∀ p ∈ T, p.1 ≠ s) → T.foldl (fun M p => if p.1 = s then Rd.at0 p.2 s else M) M = M
  | [], M, _ => rfl
  | p :: T, M, h => by
    rw [List.foldl_cons, if_neg (h p (by simp))]
    exact mn_no s T M fun q hq => h q (List.mem_cons_of_mem _ hq)
theorem mn_yes (s : Nat) : ∀ (T : List (Nat × List Int)) (M : Int) (p : Nat × List Int), T.Pairwise (fun p q => p.1 < q.1) → p ∈ T → p.1 = s → T.foldl (fun M p => if p.1 = s then Rd.at0 p.2 s else M) M = Rd.at0 p.2 s
  | [], M, p, _, hp, _ => by cases hp
  | q :: T, M, p, hu, hp, he => by
    obtain ⟨h1, h2⟩ := List.pairwise_cons.mp hu
    rw [List.foldl_cons]
    rcases List.mem_cons.mp hp with rfl | hp
    · rw [if_pos he]
      exact mn_no s T _ fun q hq => by have := h1 q hq; omega
    · exact mn_yes s T _ p h2 hp he
theorem bar_mn (side rest : List Int) (T : List (Nat × List Int)) (s N : Nat) (hT : ∀ p ∈ T, p.2.length = N ∧ p.1 < N) : ∃ x6 x7, (keptSD (some x6) = x6 ∧ keptSD (some x7) = x7) ∧ forK ⟨T.map tH, [(2, .byr (T.map tH))]⟩ (stT [6, 7]) l_bar_of_1 (T.map tH) (bst side rest T s 1 .no .no .no .no) = .ok (.nx (bst side rest T s (mnL s T) .no x6 x7 .no)) := by
  obtain ⟨ρ', ⟨x6, x7, k6, k7, rfl⟩, e⟩ := forK_fold (m := ⟨T.map tH, [(2, .byr (T.map tH))]⟩) (st := stT [6, 7]) (body := l_bar_of_1) (g := tH) (fun (M : Int) ρ => ∃ x6 x7, keptSD (some x6) = x6 ∧ keptSD (some x7) = x7 ∧ ρ = bst side rest T s M .no x6 x7 .no) (fun M p => if p.1 = s then Rd.at0 p.2 s else M) (by rintro M ρ ⟨x6, x7, _, _, rfl⟩; simp) (xs := T) (by
    rintro ⟨h, r⟩ hp M _ ⟨x6, x7, _, _, rfl⟩
    obtain ⟨hl, hh⟩ := hT (h, r) hp
    have gr := at0_get r h (by rw [show r.length = N from hl]; exact hh)
    refine ⟨_, ⟨.sh (.int h), .sh (tI r), rfl, rfl, rfl⟩, fun k => ?_⟩
    by_cases q : h = s
    · subst q
      simp [l_bar_of_1, gr, at0_rd]
    · have q' : ((h : Int) == (s : Int)) = false := by simpa using (by omega : ¬ (h : Int) = s)
      simp [l_bar_of_1, q, q']) (s := 1) ⟨.no, .no, rfl, rfl, rfl⟩
  exact ⟨x6, x7, ⟨k6, k7⟩, e⟩
theorem bar_turn (side rest : List Int) (T0 : List (Nat × List Int)) (s m N Y K b : Nat) (hs : s < m) (hm9 : m ≤ 9) (hmN : m ≤ N) (hK : K = 10 * (Y + 1)) (hKb : K ^ (b + 2) < 2 ^ 50000) (B : List (Nat × List Int)) (h : Nat) (r : List Int) (hr : r.length = N) (hh : h < m) (rb : Rd.Bn Y r) (M0 : Int) (hM : M0.natAbs ≤ K)
    (yb : ∀ i, ((La.barR s B).1 i).natAbs ≤ K ^ b) (pb : ((La.barR s B).2).natAbs ≤ K ^ b) (x6 x7 x9 : SD) :
    (∃ x9', ∀ kk, forT l_bar_of_5 kk (stT [6, 7] (tH (h, r)) (bst side rest T0 s (M0 * (La.barR s B).2) (.own ((vL m (La.barR s B).1).map D.int)) x6 x7 x9)) = kk (bst side rest T0 s (M0 * (La.barR s ((h, r) :: B)).2) (.own ((vL m (La.barR s ((h, r) :: B)).1).map D.int)) (.sh (.int h)) (.sh (tI r)) x9')) ∧
    (∀ i, ((La.barR s ((h, r) :: B)).1 i).natAbs ≤ K ^ (b + 1)) ∧ ((La.barR s ((h, r) :: B)).2).natAbs ≤ K ^ (b + 1) := by
  have K1 : 1 ≤ K := by omega
  have kp : K ^ b ≤ K ^ (b + 1) := Nat.pow_le_pow_right K1 (by omega)
  generalize ey : (La.barR s B).1 = y at yb
  generalize eP : (La.barR s B).2 = P at pb
  have rbh : (at0 r h).natAbs ≤ Y := rb.at (by omega)
  by_cases q : h < s
  · generalize hd : -(Dt.sm (s - h) fun j => y (h + 1 + j) * Rd.at0 r (h + 1 + j)) = due
    have e : La.barR s ((h, r) :: B) = (fun k => if k = h then due else y k * Rd.at0 r h, P * Rd.at0 r h) := by
      show (if h < s then _ else _) = _
      rw [if_pos q, ey, eP, hd]
    have db : due.natAbs ≤ K ^ (b + 1) := by
      rw [← hd, Int.natAbs_neg]
      have h1 := sm_abs (K ^ b * Y) (fun j => y (h + 1 + j) * Rd.at0 r (h + 1 + j)) (s - h) (fun j hj => by
        rw [Int.natAbs_mul]
        exact Nat.mul_le_mul (yb _) (rb.at (by omega)))
      refine Nat.le_trans h1 ?_
      rw [Nat.pow_succ, hK]
      calc (s - h) * ((10 * (Y + 1)) ^ b * Y) ≤ 10 * ((10 * (Y + 1)) ^ b * (Y + 1)) := Nat.mul_le_mul (by omega) (Nat.mul_le_mul_left _ (by omega))
        _ = (10 * (Y + 1)) ^ b * (10 * (Y + 1)) := by rw [Nat.mul_left_comm]
    have yrb : ∀ i, (y i * Rd.at0 r h).natAbs ≤ K ^ (b + 1) := fun i => by
      rw [Int.natAbs_mul, Nat.pow_succ]
      exact Nat.mul_le_mul (yb i) (by have : (Rd.at0 r h).natAbs ≤ Y := rbh; omega)
    rw [e]
    refine ⟨?_, fun i => ?_, ?_⟩
    · have p5 : (2 : Nat) ^ 50000 ≤ 2 ^ 100000 := Nat.pow_le_pow_right (by omega) (by omega)
      have kb2 : K ^ b ≤ K ^ (b + 2) := Nat.pow_le_pow_right K1 (by omega)
      have k12 : K ^ 1 ≤ K ^ (b + 2) := Nat.pow_le_pow_right K1 (by omega)
      have kb12 : K ^ (b + 1) ≤ K ^ (b + 2) := Nat.pow_le_pow_right K1 (by omega)
      rw [Nat.pow_one] at k12
      have bl : ∀ x : Int, x.natAbs ≤ K ^ (b + 2) → x.natAbs < 2 ^ 100000 := fun x hx => by omega
      have rm : ∀ i, i < N → (Rd.at0 r i).natAbs < 2 ^ 100000 := fun i hi => bl _ (by have := rb.at (c := i) (by omega); omega)
      have gr : atI (r.map D.int) (h : Int) = some (.int (Rd.at0 r h)) := at0_get r h (by omega)
      have hr2 : rngOk ((h : Int) + 1) := rngOk_nat (h + 1) (by omega)
      have hr3 : rngOk ((s : Int) + 1) := rngOk_nat (s + 1) (by omega)
      have et : (((s : Int) + 1) - ((h : Int) + 1)).toNat = s - h := by omega
      have hz : s - h ≤ sizeLine := sz (by omega)
      have k3 : lcL ⟨(List.range (s - h)).map fun (j : Nat) => D.int ((h : Int) + 1 + j), []⟩ (stN 8) bYes (xPrim [.ex (xPrim [.va 5, .va 8] pIx), .ex (xPrim [.va 7, .va 8] pIx)] pMul) [8] ((List.range (s - h)).map fun (j : Nat) => D.int ((h : Int) + 1 + j)) (bst side rest T0 s (M0 * P) (.own ((vL m y).map D.int)) (.sh (.int h)) (.sh (tI r)) x9) = .ok ((List.range (s - h)).map fun j => D.int (y (h + 1 + j) * Rd.at0 r (h + 1 + j)), bst side rest T0 s (M0 * P) (.own ((vL m y).map D.int)) (.sh (.int h)) (.sh (tI r)) x9) := lc_mapL fun j hj kk => by
        have hj := List.mem_range.mp hj
        have g1 := vL_at (m := m) (i := h + 1 + j) y (by omega)
        have g2 : atI (r.map D.int) ((h + 1 + j : Nat) : Int) = some (.int (Rd.at0 r (h + 1 + j))) := at0_get r (h + 1 + j) (by omega)
        have ec : ((h : Int) + 1 + (j : Nat)) = ((h + 1 + j : Nat) : Int) := by omega
        have mo : IntMulOk (y (h + 1 + j)) (Rd.at0 r (h + 1 + j)) := mul_okB (bl _ (Nat.le_trans (yb _) kb2)) (rm _ (by omega))
        rw [← ec] at g1 g2
        simp [g1, g2, pMul_int, mo]
      have e3 : ((List.range (s - h)).map fun j => D.int (y (h + 1 + j) * Rd.at0 r (h + 1 + j))) = ((List.range (s - h)).map fun j => y (h + 1 + j) * Rd.at0 r (h + 1 + j)).map D.int := by rw [List.map_map]; rfl
      have es := pSum_ints ((List.range (s - h)).map fun j => y (h + 1 + j) * Rd.at0 r (h + 1 + j))
      rw [sum_sm, ← e3] at es
      have k4 : lcL ⟨(vL m y).map D.int, [(5, .own ((vL m y).map D.int))]⟩ (stN 10) bYes (xPrim [.va 10, .ex (xPrim [.va 7, .va 6] pIx)] pMul) [10] ((vL m y).map D.int) (bst side rest T0 s (M0 * P) (.own ((vL m y).map D.int)) (.sh (.int h)) (.sh (tI r)) (.sh (.int due))) = .ok ((vL m y).map fun x => D.int (x * Rd.at0 r h), bst side rest T0 s (M0 * P) (.own ((vL m y).map D.int)) (.sh (.int h)) (.sh (tI r)) (.sh (.int due))) := lc_mapL fun x hx kk => by
        obtain ⟨i, hi, rfl⟩ := List.mem_map.mp hx
        have mo : IntMulOk (y i) (Rd.at0 r h) := mul_okB (bl _ (Nat.le_trans (yb _) kb2)) (rm _ (by omega))
        simp [gr, pMul_int, mo]
      have e4 : ((vL m y).map fun x => D.int (x * Rd.at0 r h)) = ((vL m fun k => y k * Rd.at0 r h).map D.int) := by
        unfold vL
        rw [List.map_map, List.map_map]; rfl
      rw [e4] at k4
      have es2 : setAt ((vL m fun k => y k * Rd.at0 r h).map D.int) (h : Int) (.int due) = some ((vL m fun k => if k = h then due else y k * Rd.at0 r h).map D.int) := by
        rw [setAt_nth _ (by simp [vL]; exact hh)]
        congr 1
        unfold vL
        refine List.ext_getElem? fun i => ?_
        rw [List.getElem?_set]
        by_cases c1 : h = i
        · subst c1
          simp [hh]
        · rw [if_neg c1, List.getElem?_map, List.getElem?_map, List.getElem?_map, List.getElem?_map]
          by_cases c2 : i < m
          · rw [List.getElem?_range c2]
            simp only [Option.map_some]
            rw [if_neg (by omega)]
          · rw [List.getElem?_eq_none (by simpa using c2)]; rfl
      have mo2 : IntMulOk (M0 * P) (Rd.at0 r h) := mul_okB (bl _ (by
        rw [Int.natAbs_mul, show b + 2 = (b + 1) + 1 from rfl, Nat.pow_succ, Nat.mul_comm]
        exact Nat.mul_le_mul (Nat.le_trans pb kp) hM)) (rm _ (by omega))
      refine ⟨.sh (.int due), fun kk => ?_⟩
      have q' : (h : Int) < (s : Int) := by omega
      have fin : M0 * P * Rd.at0 r h = M0 * (P * Rd.at0 r h) := Int.mul_assoc ..
      have r2 : rng2 = rng2 := rfl
      have c3 : c_bar_of_3 (bst side rest T0 s (M0 * P) (.own ((vL m y).map D.int)) (.sh (.int h)) (.sh (tI r)) x9) = .ok (.own ((List.range (s - h)).map fun j => D.int (y (h + 1 + j) * Rd.at0 r (h + 1 + j))), bst side rest T0 s (M0 * P) (.own ((vL m y).map D.int)) (.sh (.int h)) (.sh (tI r)) x9) := by
        have er := fun ρ => rng2_ev ρ h s (by omega) (by omega)
        simp only [bst] at k3 ⊢
        simp [c_bar_of_3, er, k3]
      simp only [bst] at k4 c3 ⊢
      simp [l_bar_of_5, q', c3, es, hd, c_bar_of_4, k4, es2, gr, pMul_int, mo2, fin]
    · show (if i = h then due else y i * Rd.at0 r h).natAbs ≤ K ^ (b + 1)
      split
      · exact db
      · exact yrb i
    · show (P * Rd.at0 r h).natAbs ≤ K ^ (b + 1)
      rw [Int.natAbs_mul, Nat.pow_succ]
      exact Nat.mul_le_mul pb (by have : (Rd.at0 r h).natAbs ≤ Y := rbh; omega)
  · have e : La.barR s ((h, r) :: B) = (y, P) := by
      show (if h < s then _ else La.barR s B) = _
      rw [if_neg q, ← ey, ← eP]
    rw [e]
    have q' : ¬ (h : Int) < (s : Int) := by omega
    refine ⟨⟨x9, fun kk => ?_⟩, fun i => Nat.le_trans (yb i) kp, Nat.le_trans pb kp⟩
    simp [l_bar_of_5, q']
end Lw
end
section
namespace Lw
open PySem PySem.Spec PyProof.Rows L2 Wm
theorem bar_loop (side rest : List Int) (T0 : List (Nat × List Int)) (s m N Y K : Nat) (m0 : Itm) (hk : ∀ M x5 x6 x7 x9, m0.keep (bst side rest T0 s M x5 x6 x7 x9)) (hs : s < m) (hm9 : m ≤ 9) (hmN : m ≤ N) (hK : K = 10 * (Y + 1)) (M0 : Int) (hM : M0.natAbs ≤ K) :
    ∀ (Q B : List (Nat × List Int)) (b : Nat) (x6 x7 x9 : SD), keptSD (some x6) = x6 → keptSD (some x7) = x7 → K ^ (b + Q.length + 2) < 2 ^ 50000 → (∀ p ∈ Q, p.2.length = N ∧ p.1 < m ∧ Rd.Bn Y p.2) → (∀ i, ((La.barR s B).1 i).natAbs ≤ K ^ b) → ((La.barR s B).2).natAbs ≤ K ^ b →
    ∃ y6 y7 y9, (keptSD (some y6) = y6 ∧ keptSD (some y7) = y7) ∧ forK m0 (stT [6, 7]) l_bar_of_5 (Q.map tH) (bst side rest T0 s (M0 * (La.barR s B).2) (.own ((vL m (La.barR s B).1).map D.int)) x6 x7 x9) = .ok (.nx (bst side rest T0 s (M0 * (La.barR s (Q.reverse ++ B)).2) (.own ((vL m (La.barR s (Q.reverse ++ B)).1).map D.int)) y6 y7 y9)) ∧ (∀ i, ((La.barR s (Q.reverse ++ B)).1 i).natAbs ≤ K ^ (b + Q.length)) ∧ ((La.barR s (Q.reverse ++ B)).2).natAbs ≤ K ^ (b + Q.length)
  | [], B, b, x6, x7, x9, h6, h7, _, _, yb, pb => ⟨x6, x7, x9, ⟨h6, h7⟩, by rw [List.map_nil, forK_nil, if_pos (hk _ _ _ _ _)]; rfl, yb, pb⟩
  | (h, r) :: Q, B, b, x6, x7, x9, h6, h7, hB, hQ, yb, pb => by
    obtain ⟨q1, q2, q3⟩ := hQ (h, r) (by simp)
    have K1 : 1 ≤ K := by omega
    obtain ⟨⟨x9', e⟩, yb', pb'⟩ := bar_turn side rest T0 s m N Y K b hs hm9 hmN hK (Nat.lt_of_le_of_lt (Nat.pow_le_pow_right K1 (by simp)) hB) B h r q1 q2 q3 M0 hM yb pb x6 x7 x9
    obtain ⟨y6, y7, y9, k67, e2, yb2, pb2⟩ := bar_loop side rest T0 s m N Y K m0 hk hs hm9 hmN hK M0 hM Q ((h, r) :: B) (b + 1) (.sh (.int h)) (.sh (tI r)) x9' rfl rfl (by simpa [Nat.add_comm, Nat.add_left_comm, Nat.add_assoc] using hB) (fun p hp => hQ p (List.mem_cons_of_mem _ hp)) yb' pb'
    have er : ((h, r) :: Q).reverse ++ B = Q.reverse ++ (h, r) :: B := by simp
    have eb : b + ((h, r) :: Q).length = b + 1 + Q.length := by simp; omega
    rw [er, eb]
    refine ⟨y6, y7, y9, k67, ?_, yb2, pb2⟩
    rw [List.map_cons, forK_cons, if_pos (hk _ _ _ _ _), e]
    exact e2
def dotL (xs ys : List Int) : Int := ((xs.zip ys).map fun p => p.1 * p.2).sum
theorem dot_evB (b : Bool) (xs ys : List Int) (h : ∀ x ∈ xs, x.natAbs < 2 ^ 100000) (h2 : ∀ x ∈ ys, x.natAbs < 2 ^ 100000) : f_dot [lsl b (xs.map D.int), .sh (tI ys)] = .ok (.sh (.int (dotL xs ys)), [lso b (xs.map D.int), .no]) := by
  have key : ∀ (m : Itm) (s0 : SD), m.keep [s0, .sh (tI ys), .no, .no] → lcL m (stT [2, 3]) bYes (xPrim [.va 2, .va 3] pMul) [2, 3] ((xs.zip ys).map fun p => D.tup [.int p.1, .int p.2]) [s0, .sh (tI ys), .no, .no] = .ok ((xs.zip ys).map fun p => D.int (p.1 * p.2), [s0, .sh (tI ys), .no, .no]) := fun m s0 hm => lc_mapL fun p hp k => by
    have m1 : IntMulOk p.1 p.2 := mul_okB (h _ (List.of_mem_zip hp).1) (h2 _ (List.of_mem_zip hp).2)
    simp [pMul_int, m1, hm]
  have e0 := zip_ints xs ys
  have ep : pSum [.lst ((xs.zip ys).map fun p => D.int (p.1 * p.2))] = .ok (.sh (.int (dotL xs ys))) := by
    have := pSum_ints ((xs.zip ys).map fun p => p.1 * p.2)
    rwa [List.map_map] at this
  cases b with
  | false =>
    have := key ⟨(xs.zip ys).map fun p => D.tup [.int p.1, .int p.2], []⟩ (.sh (.lst (xs.map D.int))) (by simp)
    simp [lsl, lso, f_dot, g_dot, c_dot_0, e0, this, ep]
  | true =>
    have := key ⟨(xs.zip ys).map fun p => D.tup [.int p.1, .int p.2], [(0, .byr (xs.map D.int))]⟩ (.byr (xs.map D.int)) (by simp)
    simp [lsl, lso, f_dot, g_dot, c_dot_0, e0, this, ep]
theorem list_rg (u : List Int) : u = (List.range u.length).map fun i => Rd.at0 u i := by
  refine List.ext_getElem (by simp) fun i h1 h2 => ?_
  simp only [List.getElem_map, List.getElem_range]
  unfold Rd.at0
  rw [List.getD_eq_getElem?_getD, List.getElem?_eq_getElem h1]
  rfl
theorem dotL_dv (u v : List Int) (h : u.length = v.length) : dotL u v = La.dv u.length (Rd.at0 u) (Rd.at0 v) := by
  unfold dotL La.dv
  rw [← sum_sm]
  congr 1
  conv => lhs; rw [list_rg u, list_rg v, ← h]
  rw [List.zip_map', List.map_map]
  simp [Function.comp_def]
theorem vL_len (m : Nat) (y : Nat → Int) : (vL m y).length = m := by simp [vL]
theorem vL_at0 {m i : Nat} (y : Nat → Int) (h : i < m) : Rd.at0 (vL m y) i = y i := by
  unfold Rd.at0 vL
  rw [List.getD_eq_getElem?_getD, List.getElem?_map, List.getElem?_range h]
  rfl
theorem dotL_abs (A B : Nat) : ∀ (xs ys : List Int), (∀ x ∈ xs, x.natAbs ≤ A) → (∀ y ∈ ys, y.natAbs ≤ B) → (dotL xs ys).natAbs ≤ xs.length * (A * B)
  | [], ys, _, _ => by simp [dotL]
  | x :: xs, [], _, _ => by simp [dotL]
  | x :: xs, y :: ys, h1, h2 => by
    have ih := dotL_abs A B xs ys (fun z hz => h1 z (List.mem_cons_of_mem _ hz)) (fun z hz => h2 z (List.mem_cons_of_mem _ hz))
    have e : dotL (x :: xs) (y :: ys) = x * y + dotL xs ys := by simp [dotL]
    have h3 : (x * y).natAbs ≤ A * B := by rw [Int.natAbs_mul]; exact Nat.mul_le_mul (h1 x (by simp)) (h2 y (by simp))
    rw [e, List.length_cons, Nat.add_mul, Nat.one_mul]
    have := Int.natAbs_add_le (x * y) (dotL xs ys)
    omega
def barM (m s : Nat) (T : List (Nat × List Int)) (side : List Int) : Int := if (∀ p ∈ T, p.1 ≠ s) then (dotL (vL m (La.barR s T).1) side).natAbs + 1 else mnL s T * (La.barR s T).2
theorem bar_ev (side rest : List Int) (T : List (Nat × List Int)) (m n Y s : Nat) (x : Int) (hs : side.length = m) (hf : rest.zipIdx.find? (fun p => p.1 != 0) = some (x, s)) (hsm : s < m) (hm9 : m ≤ 9) (H : La.Hs m (m + n) T) (hT : ∀ p ∈ T, Rd.Bn Y p.2) (hB : (10 * (Y + 1)) ^ (T.length + 2) < 2 ^ 50000) (hsb : ∀ x ∈ side, x.natAbs < 2 ^ 1000) (hM0 : barM m s T side ≠ 0) :
    f_bar_of [.sh (tI side), .sh (tI rest), .byr (T.map tH)] = .ok (.sh (.tup [.int (barM m s T side), tI (vL m fun i => ((La.barR s T).1 i).fmod (barM m s T side))]), [.no, .no, .byr (T.map tH)]) ∧ (barM m s T side).natAbs < 2 ^ 90000 := by
  generalize hK : 10 * (Y + 1) = K at hB
  have K1 : 1 ≤ K := by omega
  have e0 : enumD (rest.map D.int) = rest.zipIdx.map fun p => D.tup [.int (p.2 : Nat), .int p.1] := enum_map rest
  have k0 : lcL ⟨rest.zipIdx.map fun p => D.tup [.int (p.2 : Nat), .int p.1], []⟩ (stT [8, 10]) (bT (xPrim [.va 10, .ex (xC (.int 0))] pNe)) (xVar 8) [8, 10] (rest.zipIdx.map fun p => D.tup [.int (p.2 : Nat), .int p.1]) [.sh (tI side), .sh (tI rest), .byr (T.map tH), .no, .no, .no, .no, .no, .no, .no, .no] = .ok ((rest.zipIdx.filter fun p => p.1 != 0).map fun p => D.int (p.2 : Nat), [.sh (tI side), .sh (tI rest), .byr (T.map tH), .no, .no, .no, .no, .no, .no, .no, .no]) := lc_filterL fun p hp k => by
    by_cases q : p.1 = 0
    · simp [q]
    · have q' : (p.1 == 0) = false := by simpa using q
      simp [q, q']
  have a0 : atI ((rest.zipIdx.filter fun p => p.1 != 0).map fun p => D.int (p.2 : Nat)) 0 = some (.int (s : Nat)) := by
    have := atI_nth (xs := (rest.zipIdx.filter fun p => p.1 != 0).map fun p => D.int (p.2 : Nat)) (k := 0) (d := .int (s : Nat)) (by
      rw [List.getElem?_map, ← List.head?_eq_getElem?, List.head?_filter, hf]; rfl)
    simpa using this
  have hN : ∀ p ∈ T, p.2.length = m + n ∧ p.1 < m + n := fun p hp => ⟨H.len p hp, by have := H.lt p hp; omega⟩
  obtain ⟨x6, x7, ⟨h6, h7⟩, e1⟩ := bar_mn side rest T s (m + n) hN
  have mb : (mnL s T).natAbs ≤ K := by
    by_cases q : ∀ p ∈ T, p.1 ≠ s
    · unfold mnL; rw [mn_no s T 1 q]; exact K1
    · obtain ⟨p, hp, he⟩ : ∃ p ∈ T, p.1 = s := by
        apply Classical.byContradiction
        intro z
        exact q fun p hp he => z ⟨p, hp, he⟩
      unfold mnL
      rw [mn_yes s T 1 p H.up hp he]
      have := (hT p hp).at (c := s) (by rw [H.len p hp]; omega)
      omega
  have hr : rngOk (m : Int) := rgk (by omega)
  have hz : m ≤ sizeLine := sz (by omega)
  have k2 : lcL ⟨(List.range m).map fun (k : Nat) => D.int k, []⟩ (stN 8) bYes (xPrim [.ex (xPrim [.va 8, .va 3] pEq)] pInt) [8] ((List.range m).map fun (k : Nat) => D.int k) (bst side rest T s (mnL s T) .no x6 x7 .no) = .ok ((List.range m).map fun k => D.int ((La.barR s []).1 k), bst side rest T s (mnL s T) .no x6 x7 .no) := lc_mapL fun k hk kk => by
    have e : (La.barR s []).1 k = if k = s then 1 else 0 := rfl
    rw [e]
    by_cases q : k = s
    · subst q; simp
    · have q' : ((k : Int) == (s : Int)) = false := by simpa using (by omega : ¬ (k : Int) = s)
      simp [q, q']
  have e2 : ((List.range m).map fun k => D.int ((La.barR s []).1 k)) = (vL m (La.barR s []).1).map D.int := by unfold vL; rw [List.map_map]; rfl
  rw [e2] at k2
  obtain ⟨y6, y7, y9, ⟨k6, k7⟩, e3, yb, pb⟩ := bar_loop side rest T s m (m + n) Y K ⟨(T.map tH).reverse, [(2, .byr (T.map tH))]⟩ (fun M x5 x6 x7 x9 => by simp) hsm hm9 (by omega) hK.symm (mnL s T) mb T.reverse [] 0 x6 x7 .no h6 h7 (by simpa using hB) (fun p hp => by
    have hp := List.mem_reverse.mp hp
    exact ⟨H.len p hp, H.lt p hp, hT p hp⟩) (fun i => by
    show (if i = s then (1 : Int) else 0).natAbs ≤ 1
    split <;> decide) (by show (1 : Int).natAbs ≤ 1; decide)
  simp only [List.reverse_reverse, List.append_nil, List.map_reverse] at e3
  have p1 : mnL s T * (La.barR s []).2 = mnL s T := by show mnL s T * 1 = _; omega
  rw [p1] at e3
  simp only [List.length_reverse, Nat.zero_add] at yb pb
  simp only [List.reverse_reverse, List.append_nil] at yb pb
  generalize hyy : (La.barR s T).1 = y at e3 yb
  generalize hPP : (La.barR s T).2 = P at e3 pb
  have kT : K ^ T.length ≤ K ^ (T.length + 2) := Nat.pow_le_pow_right K1 (by omega)
  have p5 : (2 : Nat) ^ 50000 ≤ 2 ^ 100000 := Nat.pow_le_pow_right (by omega) (by omega)
  have p1000 : (2 : Nat) ^ 1000 ≤ 2 ^ 100000 := Nat.pow_le_pow_right (by omega) (by omega)
  have db := dot_evB true (vL m y) side (fun z hz => by
    obtain ⟨i, _, rfl⟩ := List.mem_map.mp hz
    have := yb i
    omega) (fun z hz => Nat.lt_of_lt_of_le (hsb z hz) p1000)
  simp only [lsl, lso, cond_true] at db
  have k6' : lcL ⟨T.map tH, [(2, .byr (T.map tH))]⟩ (stT [6, 7]) bYes (xPrim [.va 6, .va 3] pNe) [6, 7] (T.map tH) (bst side rest T s (mnL s T * P) (.own ((vL m y).map D.int)) .no .no y9) = .ok (T.map fun p => D.bl (p.1 != s), bst side rest T s (mnL s T * P) (.own ((vL m y).map D.int)) .no .no y9) := lc_mapL fun p hp kk => by
    have e : ((p.1 : Int) == (s : Int)) = (p.1 == s) := by
      by_cases q : p.1 = s
      · simp [q]
      · have : ¬ (p.1 : Int) = s := by omega
        rw [beq_eq_false_iff_ne.mpr this, beq_eq_false_iff_ne.mpr q]
    have e' : (!((p.1 : Int) == (s : Int))) = (p.1 != s) := by rw [e]; rfl
    simp [e']
  have al : pAll [.lst (T.map fun p => D.bl (p.1 != s))] = .ok (.sh (.bl (T.all fun p => p.1 != s))) := by
    have e1 : (T.map fun p => D.bl (p.1 != s)).all okB = true := by
      rw [List.all_map, List.all_eq_true]; intro x _; rfl
    have e2 : ((T.map fun p => D.bl (p.1 != s)).map trB).all id = T.all fun p => p.1 != s := by
      rw [List.map_map, List.all_map]; rfl
    simp only [pAnyK_lst, e1, e2, if_true]
  have s2 : (2 : Nat) ≤ sizeLine := by decide
  have k7' : ∀ M : Int, M ≠ 0 → lcL ⟨(vL m y).map D.int, [(5, .own ((vL m y).map D.int))]⟩ (stN 10) bYes (xPrim [.va 10, .va 4] pMod) [10] ((vL m y).map D.int) (bst side rest T s M (.own ((vL m y).map D.int)) y6 y7 y9) = .ok ((vL m y).map fun z => D.int (z.fmod M), bst side rest T s M (.own ((vL m y).map D.int)) y6 y7 y9) := fun M hM => lc_mapL fun z hz kk => by
    simp [hM]
  have e7 : ∀ M : Int, ((vL m y).map fun z => D.int (z.fmod M)) = (vL m fun i => (y i).fmod M).map D.int := fun M => by
    unfold vL; rw [List.map_map, List.map_map]; rfl
  have eall : (T.all fun p => p.1 != s) = decide (∀ p ∈ T, p.1 ≠ s) := by
    by_cases q : ∀ p ∈ T, p.1 ≠ s
    · rw [decide_eq_true q, List.all_eq_true]
      intro p hp
      simpa using q p hp
    · rw [decide_eq_false q, List.all_eq_false]
      apply Classical.byContradiction
      intro z
      exact q fun p hp he => z ⟨p, hp, by simp [he]⟩
  unfold barM at hM0 ⊢
  rw [hyy, hPP] at hM0 ⊢
  have mbd : (if (∀ p ∈ T, p.1 ≠ s) then (((dotL (vL m y) side).natAbs : Int) + 1) else mnL s T * P).natAbs < 2 ^ 90000 := by
    have p9 : (2 : Nat) ^ 50000 ≤ 2 ^ 90000 := Nat.pow_le_pow_right (by omega) (by omega)
    split
    · have h1 := dotL_abs (K ^ T.length) (2 ^ 1000) (vL m y) side (fun z hz => by
        obtain ⟨i, _, rfl⟩ := List.mem_map.mp hz
        exact yb i) (fun z hz => Nat.le_of_lt (hsb z hz))
      rw [vL_len] at h1
      have h2 : m * (K ^ T.length * 2 ^ 1000) ≤ 2 ^ 4 * (2 ^ 50000 * 2 ^ 1000) := Nat.mul_le_mul (by omega) (Nat.mul_le_mul_right _ (by omega))
      rw [← Nat.pow_add, ← Nat.pow_add] at h2
      have h4 : 1 ≤ (2 : Nat) ^ (4 + (50000 + 1000)) := Nat.one_le_two_pow
      have e : (((dotL (vL m y) side).natAbs : Int) + 1).natAbs = (dotL (vL m y) side).natAbs + 1 := Int.natAbs_natCast ((dotL (vL m y) side).natAbs + 1)
      rw [e]
      refine Nat.lt_of_le_of_lt (Nat.add_le_add (Nat.le_trans h1 h2) h4) ?_
      rw [← Nat.two_mul, ← Nat.pow_succ']
      exact Nat.pow_lt_pow_right (by decide) (by decide)
    · rw [Int.natAbs_mul]
      have h1 : (mnL s T).natAbs * P.natAbs ≤ K * K ^ T.length := Nat.mul_le_mul mb pb
      rw [← Nat.pow_succ'] at h1
      have h2 : K ^ (T.length + 1) ≤ K ^ (T.length + 2) := Nat.pow_le_pow_right K1 (Nat.le_succ _)
      exact Nat.lt_of_le_of_lt (Nat.le_trans h1 h2) (Nat.lt_of_lt_of_le hB p9)
  refine ⟨?_, mbd⟩
  by_cases q : ∀ p ∈ T, p.1 ≠ s
  · rw [if_pos q] at hM0 ⊢
    rw [decide_eq_true q] at eall
    rw [eall] at al
    have kk := k7' _ hM0
    rw [e7] at kk
    simp only [bst] at e1 k2 e3 k6' kk
    simp [-List.map_reverse, f_bar_of, g_bar_of, c_bar_of_0, c_bar_of_2, c_bar_of_6, c_bar_of_7, e0, k0, a0, e1, hs, hr, hz, k2, h6, h7, e3, k6', k6, k7, al, db, s2, kk]
  · rw [if_neg q] at hM0 ⊢
    rw [decide_eq_false q] at eall
    rw [eall] at al
    have kk := k7' _ hM0
    rw [e7] at kk
    simp only [bst] at e1 k2 e3 k6' kk
    simp [-List.map_reverse, f_bar_of, g_bar_of, c_bar_of_0, c_bar_of_2, c_bar_of_6, c_bar_of_7, e0, k0, a0, e1, hs, hr, hz, k2, h6, h7, e3, k6', k6, k7, al, s2, kk]
end Lw
end
section
namespace Lw
open PySem PySem.Spec PyProof.Rows L2 Wm
inductive AnyOk (G : List (List Int)) (n : Nat) (side : List Int) : D → Prop
  | some (x : List Int) (hx : x.length = n) (h : ∀ i, i < G.length → Rd.at0 side i = Dt.sm n fun j => La.ent G i j * Rd.at0 x j) : AnyOk G n side (.tup [.str "some", tI x])
  | none (M : Int) (y : List Int) (hM : 2 ≤ M) (hMb : M.natAbs < 2 ^ 90000) (hy : y.length = G.length) (hb : ∀ z ∈ y, 0 ≤ z ∧ z < M) (hc : ∀ j, j < n → M ∣ La.dv G.length (Rd.at0 y) fun i => La.ent G i j) (hs : ¬ M ∣ La.dv G.length (Rd.at0 y) (Rd.at0 side)) : AnyOk G n side (.tup [.str "none", .tup [.int M, tI y]])
theorem chkside_ok (b : Bool) (G : List (List Int)) (n : Nat) (side : List Int) (hG : ∀ r ∈ G, r.length = n) (hs : side.length = G.length) : f_check_side [lsl b (G.map tI), .sh (tI side), .sh (.int n)] = .ok (.sh .non, [lso b (G.map tI), .no, .no]) := by
  have e1 := checkr_ok b G n hG
  have e2 := chkrow_ok side G.length (G.length : Nat) hs
  cases b with
  | false =>
    simp only [lsl, lso, cond_false] at e1 ⊢
    simp [f_check_side, g_check_side, e1, e2]
  | true =>
    simp only [lsl, lso, cond_true] at e1 ⊢
    simp [f_check_side, g_check_side, e1, e2]
theorem any_nought (r : List Int) : pAny [tI r] = .ok (.sh (.bl (!nought r))) := by
  have e1 : (r.map D.int).all okB = true := by
    rw [List.all_map, List.all_eq_true]; intro x _; rfl
  unfold nought
  simp only [pAnyK_tup, e1, if_true, Bool.not_not]
theorem bnd_any : bX 1000 4 < 2 ^ 6600 ∧ (10 * (bX 1000 4 + 1)) ^ 6 < 2 ^ 50000 := by decide +kernel
theorem at0_takeL {l : List Int} {m i : Nat} (h : i < m) : Rd.at0 (l.take m) i = Rd.at0 l i := by
  unfold Rd.at0
  rw [List.getD_eq_getElem?_getD, List.getD_eq_getElem?_getD, List.getElem?_take_of_lt h]
theorem at0_dropL {l : List Int} {m i : Nat} : Rd.at0 (l.drop m) i = Rd.at0 l (m + i) := by
  unfold Rd.at0
  rw [List.getD_eq_getElem?_getD, List.getD_eq_getElem?_getD, List.getElem?_drop]
theorem any_ev (b : Bool) (G : List (List Int)) (n : Nat) (side : List Int) (hG : ∀ r ∈ G, r.length = n ∧ Rd.Bn 1000 r) (hm : G.length ≤ 4) (hn : n ≤ 6) (hs : side.length = G.length) (hb : ∀ x ∈ side, x.natAbs < 2 ^ 1000) :
    ∃ d, f_any_way [lsl b (G.map tI), .sh (tI side), .sh (.int n)] = .ok (.sh d, [lso b (G.map tI), .no, .no]) ∧ AnyOk G n side d := by
  have bm := bX_mono 1000 (k := G.length) (l := 4) hm
  have p8 : (2 : Nat) ^ 6600 ≤ 2 ^ 8000 := Nat.pow_le_pow_right (by omega) (by omega)
  have hY : bX 1000 G.length < 2 ^ 8000 := by have := bnd_any.1; omega
  obtain ⟨T, e1, f, tb⟩ := stairsof_ev b G n 1000 hG (by omega) (by omega) (by omega) hY
  have tl : T.length ≤ 4 := by
    have h1 : ∀ (T : List (Nat × List Int)) (a k : Nat), T.Pairwise (fun p q => p.1 < q.1) → (∀ p ∈ T, a ≤ p.1 ∧ p.1 < k) → T.length + a ≤ max k a := fun T => by
      induction T with
      | nil => intro a k _ _; simp; omega
      | cons p T ih =>
        intro a k hu hp
        obtain ⟨u1, u2⟩ := List.pairwise_cons.mp hu
        have := ih (p.1 + 1) k u2 (fun q hq => ⟨u1 q hq, (hp q (List.mem_cons_of_mem _ hq)).2⟩)
        have := hp p (by simp)
        simp; omega
    have := h1 T 0 G.length f.hs.up (fun p hp => ⟨Nat.zero_le _, f.hs.lt p hp⟩)
    omega
  have ck := chkside_ok b G n side (fun r hr => (hG r hr).1) hs
  have s1000 : Rd.Bn (2 ^ 1000) side := fun x hx => Nat.le_of_lt (hb x hx)
  have gb : (2 ^ 1000 + 1) * (bX 1000 G.length + 1) ^ T.length < 2 ^ 50000 := by
    have h1 : (bX 1000 G.length + 1) ^ T.length ≤ (10 * (bX 1000 4 + 1)) ^ 4 := Nat.le_trans (Nat.pow_le_pow_left (by omega) _) (Nat.pow_le_pow_right (by omega) tl)
    have h2 : (10 * (bX 1000 4 + 1)) ^ 4 ≤ (2 ^ 6604) ^ 4 := Nat.pow_le_pow_left (by
      have := bnd_any.1
      have e : (2 : Nat) ^ 6604 = 2 ^ 6600 * 16 := by rw [show 6604 = 6600 + 4 from rfl, Nat.pow_add]
      rw [e]; omega) 4
    have h3 : (2 ^ 1000 + 1) * (bX 1000 G.length + 1) ^ T.length ≤ 2 ^ 1001 * (2 ^ 6604) ^ 4 := Nat.mul_le_mul (by rw [Nat.pow_succ]; have : 1 ≤ 2 ^ 1000 := Nat.one_le_two_pow; omega) (Nat.le_trans h1 h2)
    rw [← Nat.pow_mul, ← Nat.pow_add] at h3
    exact Nat.lt_of_le_of_lt h3 (Nat.pow_lt_pow_right (by omega) (by omega))
  obtain ⟨e2, _⟩ := gone_ev side T G.length n (2 ^ 1000) (bX 1000 G.length) hs f.hs tb s1000 hY gb (by omega) (by omega)
  have l0 : (side ++ List.replicate n (0 : Int)).length = G.length + n := by simp [hs]
  have z0 : ∀ j, Rd.at0 (side ++ List.replicate n (0 : Int)) (G.length + j) = 0 := fun j => by
    have := La.at0_app_r (u := side) (v := List.replicate n 0) j
    rw [hs] at this
    rw [this]
    unfold Rd.at0
    rw [List.getD_eq_getElem?_getD, List.getElem?_replicate]
    split <;> rfl
  have sd : ∀ i, i < G.length → Rd.at0 (side ++ List.replicate n (0 : Int)) i = Rd.at0 side i := fun i hi => La.at0_app_l (by rw [hs]; exact hi)
  have hl := La.gone_len f.hs l0
  have some_ := f.some l0 z0
  have none_ := fun (s : Nat) => f.none (s := s) l0
  have spec := La.gone_spec (by omega) f.hs l0
  generalize La.gone T (side ++ List.replicate n 0) = l at e2 hl some_ none_ spec
  have an := any_nought (l.take G.length)
  have s2 : (2 : Nat) ≤ sizeLine := by decide
  by_cases hz : nought (l.take G.length) = true
  · have zs := nought_zero hz
    refine ⟨.tup [.str "some", tI ((l.drop G.length).map fun x => -x)], ?_, .some _ (by simp [hl]) fun i hi => ?_⟩
    · rw [hz] at an
      cases b with
      | false =>
        simp only [lsl, lso, cond_false] at e1 ck ⊢
        simp [f_any_way, g_any_way, ck, e1, e2, an, s2]
      | true =>
        simp only [lsl, lso, cond_true] at e1 ck ⊢
        simp [f_any_way, g_any_way, ck, e1, e2, an, s2]
    · have := some_ (fun i hi => by rw [← at0_takeL hi]; exact zs i) i hi
      rw [sd i hi] at this
      rw [this]
      refine Dt.sm_congr fun j hj => ?_
      rw [La.at0_neg']
      show La.ent G i j * -(Rd.at0 l (G.length + j)) = La.ent G i j * -(Rd.at0 (l.drop G.length) j)
      rw [at0_dropL]
  · have hz : nought (l.take G.length) = false := by simpa using hz
    rw [hz] at an
    obtain ⟨x, s, hf⟩ : ∃ x s, (l.take G.length).zipIdx.find? (fun p => p.1 != 0) = some (x, s) := by
      cases hq : (l.take G.length).zipIdx.find? (fun p => p.1 != 0) with
      | some p => exact ⟨p.1, p.2, rfl⟩
      | none =>
        exfalso
        have : nought (l.take G.length) = true := zero_nought fun i => by
          by_cases hi : i < (l.take G.length).length
          · have := List.find?_eq_none.mp hq ((l.take G.length)[i], i) (List.mem_zipIdx_iff_getElem?.mpr (List.getElem?_eq_getElem hi))
            unfold Rd.at0
            rw [List.getD_eq_getElem?_getD, List.getElem?_eq_getElem hi]
            simpa using this
          · exact La.at0_out (by omega)
        rw [this] at hz; cases hz
    have hmem := List.mem_of_find?_eq_some hf
    have hx0 := List.find?_some hf
    have hg : (l.take G.length)[s]? = some x := List.mem_zipIdx_iff_getElem?.mp hmem
    have hsl := (List.getElem?_eq_some_iff.mp hg).1
    have hsm : s < G.length := by simp at hsl; omega
    have ats : Rd.at0 l s = x := by
      rw [← at0_takeL hsm]
      unfold Rd.at0
      rw [List.getD_eq_getElem?_getD, hg]; rfl
    have lz : ∀ k, k < s → Rd.at0 l k = 0 := fun k hk => by
      have hkl : k < (l.take G.length).length := by omega
      have hi : k < (l.take G.length).zipIdx.length := by simpa using hkl
      have := (List.find?_eq_some_iff_getElem.mp hf).2
      obtain ⟨i, hi', e, hb'⟩ := this
      have ei : i = s := by
        simp at e; omega
      subst ei
      have := hb' k hk
      rw [← at0_takeL (show k < G.length by omega)]
      unfold Rd.at0
      rw [List.getD_eq_getElem?_getD, List.getElem?_eq_getElem hkl]
      simpa using this
    have hne : Rd.at0 l s ≠ 0 := by rw [ats]; simpa using hx0
    obtain ⟨n1, n2⟩ := none_ s hsm lz hne
    have vlen : (vL G.length (La.barR s T).1).length = side.length := by rw [vL_len, hs]
    have edv : dotL (vL G.length (La.barR s T).1) side = La.dv G.length (La.barR s T).1 (Rd.at0 side) := by
      rw [dotL_dv _ _ vlen, vL_len]
      exact Dt.sm_congr fun i hi => by rw [vL_at0 _ hi]
    have bar : La.Bar G n (side ++ List.replicate n 0) (La.barR s T).1 (barM G.length s T side) := by
      unfold barM
      by_cases q : ∀ p ∈ T, p.1 ≠ s
      · rw [if_pos q, edv]
        have := n2 q
        rwa [La.dv_congr sd] at this
      · rw [if_neg q]
        obtain ⟨p, hp, he⟩ : ∃ p ∈ T, p.1 = s := by
          apply Classical.byContradiction
          intro z
          exact q fun p hp he => z ⟨p, hp, he⟩
        have em : mnL s T = Rd.at0 p.2 s := mn_yes s T 1 p f.hs.up hp he
        rw [em]
        exact n1 p hp he
    have two := bar.two
    have hB5 : (10 * (bX 1000 G.length + 1)) ^ (T.length + 2) < 2 ^ 50000 := by
      refine Nat.lt_of_le_of_lt ?_ bnd_any.2
      exact Nat.le_trans (Nat.pow_le_pow_left (by omega) _) (Nat.pow_le_pow_right (by omega) (by omega))
    obtain ⟨e3, mbd⟩ := bar_ev side (l.take G.length) T G.length n (bX 1000 G.length) s x hs hf hsm (by omega) f.hs tb hB5 hb (by omega)
    generalize barM G.length s T side = M at bar two e3 mbd
    have ym : ∀ i, i < G.length → M ∣ (La.barR s T).1 i - Rd.at0 (vL G.length fun i => ((La.barR s T).1 i).fmod M) i := fun i hi => by
      rw [vL_at0 _ hi, Int.fmod_def]
      exact ⟨((La.barR s T).1 i).fdiv M, by omega⟩
    refine ⟨.tup [.str "none", .tup [.int M, tI (vL G.length fun i => ((La.barR s T).1 i).fmod M)]], ?_, .none M _ two mbd (vL_len ..) (fun z hz => ?_) (fun j hj => (La.dv_mod ym _).mp (bar.col j hj)) fun hd => ?_⟩
    · cases b with
      | false =>
        simp only [lsl, lso, cond_false] at e1 ck ⊢
        simp [f_any_way, g_any_way, ck, e1, e2, an, s2, e3]
      | true =>
        simp only [lsl, lso, cond_true] at e1 ck ⊢
        simp [f_any_way, g_any_way, ck, e1, e2, an, s2, e3]
    · obtain ⟨i, _, rfl⟩ := List.mem_map.mp hz
      exact fmod_bd _ _ (by omega)
    · have := (La.dv_mod ym _).mpr hd
      rw [← La.dv_congr sd] at this
      exact bar.sid this
end Lw
end
section
namespace Lw
open PySem PySem.Spec PyProof.Rows L2 Wm
theorem sum_zip (xs ys : List Int) : pSum [.lst ((xs.zip ys).map fun p => D.int (p.1 * p.2))] = .ok (.sh (.int (dotL xs ys))) := by
  have := pSum_ints ((xs.zip ys).map fun p => p.1 * p.2)
  rwa [List.map_map] at this
theorem dot_ev (xs ys : List Int) (h : ∀ p ∈ xs.zip ys, IntMulOk p.1 p.2) : f_dot [.sh (tI xs), .sh (tI ys)] = .ok (.sh (.int (dotL xs ys)), [.no, .no]) := by
  have e0 := zip_ints xs ys
  have k0 : lcL ⟨(xs.zip ys).map fun p => D.tup [.int p.1, .int p.2], []⟩ (stT [2, 3]) bYes (xPrim [.va 2, .va 3] pMul) [2, 3] ((xs.zip ys).map fun p => D.tup [.int p.1, .int p.2]) [.sh (tI xs), .sh (tI ys), .no, .no] = .ok ((xs.zip ys).map fun p => D.int (p.1 * p.2), [.sh (tI xs), .sh (tI ys), .no, .no]) := lc_mapL fun p hp k => by
    have mo : IntMulOk p.1 p.2 := h p hp
    simp [pMul_int, mo]
  have ep := sum_zip xs ys
  simp [-List.map_map, f_dot, g_dot, c_dot_0, e0, k0, ep]
theorem okL_zip {xs ys : List Int} (h : ∀ x ∈ xs, x.natAbs < 2 ^ 64) : ∀ p ∈ xs.zip ys, IntMulOk p.1 p.2 := fun p hp => mul_okL (h _ (List.of_mem_zip hp).1)
theorem okR_zip {xs ys : List Int} (h : ∀ y ∈ ys, y.natAbs < 2 ^ 64) : ∀ p ∈ xs.zip ys, IntMulOk p.1 p.2 := fun p hp => mul_okR (h _ (List.of_mem_zip hp).2)
end Lw
end
section
namespace Lw
open PySem PySem.Spec PyProof.Rows L2 Wm
theorem bar_in (M : Int) (s : List Int) (m : Nat) (h : 2 ≤ M) (hs : s.length = m) : f_is_bar [.sh (.tup [.int M, tI s]), .sh (.int m)] = .ok (.sh (.bl (s.all fun z => decide (0 ≤ z) && decide (z < M))), [.no, .no]) := by
  have w := whole_ev (.int M) rfl
  have e : isWh (.int M) = true := rfl
  rw [e] at w
  have r := row_tI s m hs
  have h' : ¬ M < 2 := by omega
  have k0 : lcL ⟨s.map D.int, []⟩ (stN 2) bYes (xChain (fun i j => decide (i ≤ j)) (fun i j => decide (i < j)) [.ex (xC (.int 0)), .va 2] [.ex (xPrim [.va 0, .ex (xC (.int 0))] pIx)]) [2] (s.map D.int) [.sh (.tup [.int M, tI s]), .sh (.int m), .no] = .ok (s.map fun z => D.bl (decide (0 ≤ z) && decide (z < M)), [.sh (.tup [.int M, tI s]), .sh (.int m), .no]) := lc_mapL fun z hz k => by
    by_cases h0 : 0 ≤ z
    · simp [h0]
    · simp [h0]
  have al : pAll [.lst (s.map fun z => D.bl (decide (0 ≤ z) && decide (z < M)))] = .ok (.sh (.bl (s.all fun z => decide (0 ≤ z) && decide (z < M)))) := by
    have := all_bl (f := fun d => match d with | .int z => decide (0 ≤ z) && decide (z < M) | _ => false) (s.map D.int)
    rw [List.map_map, List.all_map] at this
    exact this
  simp [f_is_bar, g_is_bar, b_is_bar_0, isB, okD, w, h', r, c_is_bar_0, k0, al]
end Lw
end
section
namespace Lw
open PySem PySem.Spec PyProof.Rows L2 Wm
def barAt (rs : List (List Int)) (side : List Int) (n : Nat) (M : Int) (s : List Int) : Option Nat :=
  match (List.range n).find? fun k => !((dotL s (colL rs k)).fmod M == 0) with
  | some k => some k
  | none => if (dotL s side).fmod M = 0 then some n else none
theorem bars_loop (x0 x1 x2 x3 : SD) (M : Int) (s : List Int) (hM : 2 ≤ M) (rs : List (List Int)) (hb : ∀ k, ∀ y ∈ colL rs k, y.natAbs < 2 ^ 64) : ∀ (l : List Nat) (x6 x7 : SD),
    (∃ k y7, (l.find? fun k => !((dotL s (colL rs k)).fmod M == 0)) = some k ∧ forL (stT [6, 7]) l_check_bar_0 (l.map fun (k : Nat) => D.tup [.int k, tI (colL rs k)]) [x0, x1, x2, x3, .sh (.int M), .sh (tI s), x6, x7] = .exc "NoPaper" [("at", .int (k : Nat)), ("where", .str "bar")] [x0, x1, x2, x3, .sh (.int M), .sh (tI s), .sh (.int (k : Nat)), y7]) ∨
    (∃ y6 y7, (l.find? fun k => !((dotL s (colL rs k)).fmod M == 0)) = none ∧ forL (stT [6, 7]) l_check_bar_0 (l.map fun (k : Nat) => D.tup [.int k, tI (colL rs k)]) [x0, x1, x2, x3, .sh (.int M), .sh (tI s), x6, x7] = .ok (.nx [x0, x1, x2, x3, .sh (.int M), .sh (tI s), y6, y7]))
  | [], x6, x7 => .inr ⟨x6, x7, rfl, rfl⟩
  | k :: l, x6, x7 => by
    have ed := dot_ev s (colL rs k) (okR_zip (hb k))
    have M0 : M ≠ 0 := by omega
    rw [List.map_cons, forL_cons, List.find?_cons]
    generalize hq : ((dotL s (colL rs k)).fmod M == 0) = q
    cases q with
    | false =>
      refine .inl ⟨k, .sh (tI (colL rs k)), by simp, ?_⟩
      simp [l_check_bar_0, ed, M0, okD, hq]
    | true =>
      have e : forT l_check_bar_0 (forL (stT [6, 7]) l_check_bar_0 (l.map fun (k : Nat) => D.tup [.int k, tI (colL rs k)])) (stT [6, 7] (D.tup [.int k, tI (colL rs k)]) [x0, x1, x2, x3, .sh (.int M), .sh (tI s), x6, x7]) = forL (stT [6, 7]) l_check_bar_0 (l.map fun (k : Nat) => D.tup [.int k, tI (colL rs k)]) [x0, x1, x2, x3, .sh (.int M), .sh (tI s), .sh (.int (k : Nat)), .sh (tI (colL rs k))] := by
        simp [l_check_bar_0, ed, M0, okD, hq]
      rw [e]
      exact bars_loop x0 x1 x2 x3 M s hM rs hb l (.sh (.int (k : Nat))) (.sh (tI (colL rs k)))
end Lw
end
section
namespace Lw
open PySem PySem.Spec PyProof.Rows L2 Wm
theorem chkbar_in (b : Bool) (rs : List (List Int)) (side : List Int) (n : Nat) (M : Int) (s : List Int) (hr : ∀ r ∈ rs, r.length = n) (hn : n ≤ 1000) (hM : 2 ≤ M) (hs : s.length = rs.length) (hi : (s.all fun z => decide (0 ≤ z) && decide (z < M)) = true) (hb : ∀ k, ∀ y ∈ colL rs k, y.natAbs < 2 ^ 64) (hsd : ∀ y ∈ side, y.natAbs < 2 ^ 64) :
    f_check_bar [lsl b (rs.map tI), .sh (tI side), .sh (.int n), .sh (.tup [.int M, tI s])] = match barAt rs side n M s with
      | some k => .exc "NoPaper" [("at", .int (k : Nat)), ("where", .str "bar")] [lso b (rs.map tI), .no, .no, .no]
      | none => .ok (.sh .non, [lso b (rs.map tI), .no, .no, .no]) := by
  have ib := bar_in M s rs.length hM hs
  rw [hi] at ib
  have fl := flipped_ev b rs n hr hn
  have en := enum_rg (m := n) (g := fun k => tI (colL rs k))
  have ed := dot_ev s side (okR_zip hsd)
  have M0 : M ≠ 0 := by omega
  unfold barAt
  cases b with
  | false =>
    simp only [lsl, lso, cond_false] at *
    rcases bars_loop (.sh (.lst (rs.map tI))) (.sh (tI side)) (.sh (.int n)) (.sh (.tup [.int M, tI s])) M s hM rs hb (List.range n) .no .no with ⟨k, y7, e1, e2⟩ | ⟨y6, y7, e1, e2⟩
    · rw [e1]
      simp [-List.map_map, f_check_bar, g_check_bar, ib, fl, en, e2]
    · rw [e1]
      generalize hq : (dotL s side).fmod M = q at *
      by_cases q0 : q = 0
      · subst q0
        simp [-List.map_map, f_check_bar, g_check_bar, ib, fl, en, e2, ed, M0, hq, okD]
      · have q1 : (q == 0) = false := by rw [beq_eq_false_iff_ne]; exact q0
        simp [-List.map_map, f_check_bar, g_check_bar, ib, fl, en, e2, ed, M0, hq, okD, q0, q1]
  | true =>
    simp only [lsl, lso, cond_true] at *
    rcases bars_loop (.byr (rs.map tI)) (.sh (tI side)) (.sh (.int n)) (.sh (.tup [.int M, tI s])) M s hM rs hb (List.range n) .no .no with ⟨k, y7, e1, e2⟩ | ⟨y6, y7, e1, e2⟩
    · rw [e1]
      simp [-List.map_map, f_check_bar, g_check_bar, ib, fl, en, e2]
    · rw [e1]
      generalize hq : (dotL s side).fmod M = q at *
      by_cases q0 : q = 0
      · subst q0
        simp [-List.map_map, f_check_bar, g_check_bar, ib, fl, en, e2, ed, M0, hq, okD]
      · have q1 : (q == 0) = false := by rw [beq_eq_false_iff_ne]; exact q0
        simp [-List.map_map, f_check_bar, g_check_bar, ib, fl, en, e2, ed, M0, hq, okD, q0, q1]
end Lw
end
section
namespace Lw
open PySem PySem.Spec PyProof.Rows L2 Wm
def mkL (g : List (List Int)) (x : List Int) : List Int := g.map fun r => dotL r x
theorem meets_ev (b : Bool) (rs : List (List Int)) (side x : List Int) (hb : ∀ r ∈ rs, ∀ y ∈ r, y.natAbs < 2 ^ 64) : f_meets [lsl b (rs.map tI), .sh (tI side), .sh (tI x)] = .ok (.sh (.bl (mkL rs x == side)), [lso b (rs.map tI), .no, .no]) := by
  have key : ∀ (m : Itm) (s0 : SD), m.keep [s0, .sh (tI side), .sh (tI x), .no] → lcL m (stN 3) bYes (xCall f_dot [.va 3, .va 2]) [3] (rs.map tI) [s0, .sh (tI side), .sh (tI x), .no] = .ok (rs.map fun r => D.int (dotL r x), [s0, .sh (tI side), .sh (tI x), .no]) := fun m s0 hm => lc_mapL fun r hr k => by
    have e := dot_ev r x (okL_zip (hb r hr))
    simp [e, hm]
  have e2 : (rs.map fun r => D.int (dotL r x)) = (mkL rs x).map D.int := by unfold mkL; rw [List.map_map]; rfl
  have q1 := eqDs_ints (mkL rs x) side
  have o1 := okNs_ints 59 (mkL rs x)
  have o2 := okNs_ints 59 side
  cases b with
  | false =>
    have k := key ⟨rs.map tI, []⟩ (.sh (.lst (rs.map tI))) (by simp)
    rw [e2] at k
    simp only [lsl, lso, cond_false]
    simp [-List.map_map, f_meets, g_meets, c_meets_0, k, okD, q1, o1, o2]
  | true =>
    have k := key ⟨rs.map tI, [(0, .byr (rs.map tI))]⟩ (.byr (rs.map tI)) (by simp)
    rw [e2] at k
    simp only [lsl, lso, cond_true]
    simp [-List.map_map, f_meets, g_meets, c_meets_0, k, okD, q1, o1, o2]
end Lw
end
section
namespace Lw
open PySem PySem.Spec PyProof.Rows L2 Wm
def offAt (rs : List (List Int)) (side x : List Int) : Option Nat := (rs.zip side).findIdx? fun p => !(dotL p.1 x == p.2)
theorem off_none : ∀ (rs : List (List Int)) (side x : List Int), rs.length = side.length → ((offAt rs side x = none) ↔ (mkL rs x == side) = true)
  | [], [], x, _ => by simp [offAt, mkL]
  | r :: rs, [], x, h => by simp at h
  | [], a :: side, x, h => by simp at h
  | r :: rs, a :: side, x, h => by
    have ih := off_none rs side x (by simpa using h)
    unfold offAt at ih ⊢
    rw [List.zip_cons_cons, List.findIdx?_cons]
    unfold mkL at ih ⊢
    rw [List.map_cons]
    by_cases e : dotL r x = a
    · have e1 : (!(dotL r x == a)) = false := by simp [e]
      simp only [e1, Bool.false_eq_true, if_false]
      rw [Option.map_eq_none_iff, ih]
      simp [e]
    · have e1 : (!(dotL r x == a)) = true := by simp [e]
      simp only [e1, if_true]
      simp [e]
theorem some_ev (b : Bool) (rs : List (List Int)) (side x : List Int) (n : Nat) (hr : ∀ r ∈ rs, r.length = n) (hs : side.length = rs.length) (hx : x.length = n) (hb : ∀ r ∈ rs, ∀ y ∈ r, y.natAbs < 2 ^ 64) :
    f_check_any_way [lsl b (rs.map tI), .sh (.tup [.str "some", tI x]), .sh (tI side), .sh (.int n)] = match offAt rs side x with
      | some k => .exc "NoPaper" [("at", .int (k : Nat)), ("where", .str "answer")] [lso b (rs.map tI), .no, .no, .no]
      | none => .ok (.sh .non, [lso b (rs.map tI), .no, .no, .no]) := by
  have c1 := chkside_ok b rs n side hr hs
  have rw1 := row_tI x n hx
  have me := meets_ev b rs side x hb
  have on := off_none rs side x hs.symm
  have so1 : PyData.strOk (Str.ofString "some") = true := by decide +kernel
  have so2 : PyData.strOk (Str.ofString "none") = true := by decide +kernel
  have s2 : (2 : Nat) ≤ sizeLine := by decide
  have ez := zip_rows rs side
  have key : ∀ (m : Itm) (s0 : SD), m.keep [s0, .sh (.tup [.str "some", tI x]), .sh (tI side), .sh (.int n), .sh (.str "some"), .sh (tI x), .no, .no] → lcL m (stT [6, 7]) bYes (xPrim [.ex (xCall f_dot [.va 6, .va 5]), .va 7] pEq) [6, 7] ((rs.zip side).map fun p => D.tup [tI p.1, .int p.2]) [s0, .sh (.tup [.str "some", tI x]), .sh (tI side), .sh (.int n), .sh (.str "some"), .sh (tI x), .no, .no] = .ok ((rs.zip side).map fun p => D.bl (dotL p.1 x == p.2), [s0, .sh (.tup [.str "some", tI x]), .sh (tI side), .sh (.int n), .sh (.str "some"), .sh (tI x), .no, .no]) := fun m s0 hm => lc_mapL fun p hp k => by
    have e := dot_ev p.1 x (okL_zip (hb _ (List.of_mem_zip hp).1))
    simp [e, hm, okD]
  have ok1 : ∀ l : List (List Int × Int), okNs 59 (l.map fun p => D.bl (dotL p.1 x == p.2)) = true := fun l => by
    induction l with
    | nil => rfl
    | cons a l ih => simp [okNs, okN, ih]
  have fi : ((rs.zip side).map fun p => D.bl (dotL p.1 x == p.2)).findIdx? (fun y => eqD y (.bl false)) = offAt rs side x := by
    unfold offAt
    rw [List.findIdx?_map]
    congr 1
    funext p
    show eqD (D.bl (dotL p.1 x == p.2)) (.bl false) = _
    cases (dotL p.1 x == p.2) <;> rfl
  have ok2 := ok1 (rs.zip side)
  generalize hB : ((rs.zip side).map fun p => D.bl (dotL p.1 x == p.2)) = B at key fi ok2
  cases b with
  | false =>
    have k := key ⟨(rs.zip side).map fun p => D.tup [tI p.1, .int p.2], []⟩ (.sh (.lst (rs.map tI))) (by simp)
    simp only [lsl, lso, cond_false] at *
    cases ho : offAt rs side x with
    | none =>
      rw [on.mp ho] at me
      simp [-List.map_map, f_check_any_way, g_check_any_way, c1, b_check_any_way_0, isB, okD, s2, str_eq, so1, so2, rw1, me, okN, okNs]
    | some j =>
      have q : (mkL rs x == side) = false := by
        cases hq : (mkL rs x == side) with
        | false => rfl
        | true => rw [on.mpr hq] at ho; cases ho
      rw [q] at me
      rw [ho] at fi
      simp [-List.map_map, f_check_any_way, g_check_any_way, c1, b_check_any_way_0, isB, okD, s2, str_eq, so1, so2, rw1, me, okN, okNs, c_check_any_way_0, ez, k, fi, ok2]
  | true =>
    have k := key ⟨(rs.zip side).map fun p => D.tup [tI p.1, .int p.2], [(0, .byr (rs.map tI))]⟩ (.byr (rs.map tI)) (by simp)
    simp only [lsl, lso, cond_true] at *
    cases ho : offAt rs side x with
    | none =>
      rw [on.mp ho] at me
      simp [-List.map_map, f_check_any_way, g_check_any_way, c1, b_check_any_way_0, isB, okD, s2, str_eq, so1, so2, rw1, me, okN, okNs]
    | some j =>
      have q : (mkL rs x == side) = false := by
        cases hq : (mkL rs x == side) with
        | false => rfl
        | true => rw [on.mpr hq] at ho; cases ho
      rw [q] at me
      rw [ho] at fi
      simp [-List.map_map, f_check_any_way, g_check_any_way, c1, b_check_any_way_0, isB, okD, s2, str_eq, so1, so2, rw1, me, okN, okNs, c_check_any_way_0, ez, k, fi, ok2]
end Lw
end
section
namespace Lw
open PySem PySem.Spec PyProof.Rows L2 Wm
section
variable (b : Bool) (rs : List (List Int)) (side : List Int) (n : Nat) (hr : ∀ r ∈ rs, r.length = n) (hs : side.length = rs.length)
include hr hs
end
end Lw
end
section
namespace Lw
open PySem PySem.Spec PyProof.Rows L2 Wm
section
variable (b : Bool) (rs : List (List Int)) (side : List Int) (n : Nat) (hr : ∀ r ∈ rs, r.length = n) (hs : side.length = rs.length)
include hr hs
theorem ans_none_ok (d : D) (h : f_check_bar [lsl b (rs.map tI), .sh (tI side), .sh (.int n), .sh d] = .ok (.sh .non, [lso b (rs.map tI), .no, .no, .no])) : f_check_any_way [lsl b (rs.map tI), .sh (.tup [.str "none", d]), .sh (tI side), .sh (.int n)] = .ok (.sh .non, [lso b (rs.map tI), .no, .no, .no]) := by
  have c1 := chkside_ok b rs n side hr hs
  have so1 : PyData.strOk (Str.ofString "some") = true := by decide +kernel
  have so2 : PyData.strOk (Str.ofString "none") = true := by decide +kernel
  have s2 : (2 : Nat) ≤ sizeLine := by decide
  cases b with
  | false =>
    simp only [lsl, lso, cond_false] at *
    simp [-List.map_map, f_check_any_way, g_check_any_way, c1, b_check_any_way_0, isB, okD, s2, str_eq, so1, so2, okN, okNs, h]
  | true =>
    simp only [lsl, lso, cond_true] at *
    simp [-List.map_map, f_check_any_way, g_check_any_way, c1, b_check_any_way_0, isB, okD, s2, str_eq, so1, so2, okN, okNs, h]
end
end Lw
end
section
namespace Lw
open PySem PySem.Spec PyProof.Rows L2 Wm
theorem ladded_ev (r s : List Int) (m : Int) (h : ∀ b ∈ s, IntMulOk m b) : f__law_added [.sh (tI r), .sh (tI s), .sh (.int m)] = .ok (.sh (tI (Rd.addL r s m)), [.no, .no, .no]) := by
  have e0 := zip_ints r s
  have k0 : lcL ⟨(r.zip s).map fun p => D.tup [.int p.1, .int p.2], []⟩ (stT [3, 4]) bYes (xPrim [.va 3, .ex (xPrim [.va 2, .va 4] pMul)] pAdd) [3, 4] ((r.zip s).map fun p => D.tup [.int p.1, .int p.2]) [.sh (tI r), .sh (tI s), .sh (.int m), .no, .no] = .ok ((r.zip s).map fun p => D.int (p.1 + m * p.2), [.sh (tI r), .sh (tI s), .sh (.int m), .no, .no]) := lc_mapL fun p hp k => by
    have m1 : IntMulOk m p.2 := h _ (List.of_mem_zip hp).2
    simp [pMul_int, m1]
  have e1 : ((r.zip s).map fun p => D.int (p.1 + m * p.2)) = (Rd.addL r s m).map D.int := by
    unfold Rd.addL
    rw [← zip_ints2 r s (fun a b => a + m * b), List.map_map]
    rfl
  rw [e1] at k0
  simp [f__law_added, g__law_added, c__law_added_0, e0, k0]
theorem ldotP (xs ys : List Int) (h : ∀ p ∈ xs.zip ys, IntMulOk p.1 p.2) : f__law_dot [.sh (tI xs), .sh (tI ys)] = .ok (.sh (.int (dotL xs ys)), [.no, .no]) := by
  have e0 := zip_ints xs ys
  have k0 : lcL ⟨(xs.zip ys).map fun p => D.tup [.int p.1, .int p.2], []⟩ (stT [2, 3]) bYes (xPrim [.va 2, .va 3] pMul) [2, 3] ((xs.zip ys).map fun p => D.tup [.int p.1, .int p.2]) [.sh (tI xs), .sh (tI ys), .no, .no] = .ok ((xs.zip ys).map fun p => D.int (p.1 * p.2), [.sh (tI xs), .sh (tI ys), .no, .no]) := lc_mapL fun p hp k => by
    have mo : IntMulOk p.1 p.2 := h _ hp
    simp [pMul_int, mo]
  have ep : pSum [.lst ((xs.zip ys).map fun p => D.int (p.1 * p.2))] = .ok (.sh (.int (dotL xs ys))) := by
    have := pSum_ints ((xs.zip ys).map fun p => p.1 * p.2)
    rwa [List.map_map] at this
  simp [-List.map_map, f__law_dot, g__law_dot, c__law_dot_0, e0, k0, ep]
theorem ldot_l (xs ys : List Int) (h : ∀ x ∈ xs, x.natAbs < 2 ^ 64) : f__law_dot [.sh (tI xs), .sh (tI ys)] = .ok (.sh (.int (dotL xs ys)), [.no, .no]) :=
  ldotP xs ys fun p hp => mul_okL (h _ (List.of_mem_zip hp).1)
theorem ldot_r (xs ys : List Int) (h : ∀ x ∈ ys, x.natAbs < 2 ^ 64) : f__law_dot [.sh (tI xs), .sh (tI ys)] = .ok (.sh (.int (dotL xs ys)), [.no, .no]) :=
  ldotP xs ys fun p hp => mul_okR (h _ (List.of_mem_zip hp).2)
theorem ldot_rl (xs ys : List Int) (h : ∀ x ∈ ys, x.natAbs < 2 ^ 64) : f__law_dot [.sh (tI xs), .sh (.lst (ys.map D.int))] = .ok (.sh (.int (dotL xs ys)), [.no, .no]) := by
  have e0 := zip_ints xs ys
  have k0 : lcL ⟨(xs.zip ys).map fun p => D.tup [.int p.1, .int p.2], []⟩ (stT [2, 3]) bYes (xPrim [.va 2, .va 3] pMul) [2, 3] ((xs.zip ys).map fun p => D.tup [.int p.1, .int p.2]) [.sh (tI xs), .sh (.lst (ys.map D.int)), .no, .no] = .ok ((xs.zip ys).map fun p => D.int (p.1 * p.2), [.sh (tI xs), .sh (.lst (ys.map D.int)), .no, .no]) := lc_mapL fun p hp k => by
    have mo : IntMulOk p.1 p.2 := mul_okR (h _ (List.of_mem_zip hp).2)
    simp [pMul_int, mo]
  have ep : pSum [.lst ((xs.zip ys).map fun p => D.int (p.1 * p.2))] = .ok (.sh (.int (dotL xs ys))) := by
    have := pSum_ints ((xs.zip ys).map fun p => p.1 * p.2)
    rwa [List.map_map] at this
  simp [-List.map_map, f__law_dot, g__law_dot, c__law_dot_0, e0, k0, ep]
theorem dot_sm : ∀ {n : Nat} {xs ys : List Int}, xs.length = n → ys.length = n → dotL xs ys = Dt.sm n fun j => Rd.at0 xs j * Rd.at0 ys j
  | 0, [], ys, _, _ => rfl
  | n + 1, x :: xs, y :: ys, h1, h2 => by
    rw [Dt.sm_first]
    have := dot_sm (n := n) (xs := xs) (ys := ys) (by simpa using h1) (by simpa using h2)
    show x * y + dotL xs ys = x * y + Dt.sm n fun j => Rd.at0 xs j * Rd.at0 ys j
    rw [this]
end Lw
end
section
namespace Lw
open PySem PySem.Spec PyProof.Rows L2 Wm
def Rw (n : Nat) (r : List Int) : Prop := r.length = n ∧ Rd.Bn 1000 r
abbrev bst3 (w : Wl) (n : Nat) (most : Int) (x3 x4 x5 x6 x7 : SD) : List SD := [.byr (wl w), .sh (.int n), .sh (.int most), x3, x4, x5, x6, x7, .no, .no]
theorem row_draw (w : Wl) (n : Nat) (most : Int) (x3 x4 x5 x6 x7 : SD) (hn : n ≤ 100) (hm : 1 ≤ most ∧ most ≤ 1000) : ∃ r w', c__law_built_0 (bst3 w n most x3 x4 x5 x6 x7) = .ok (.own (r.map D.int), bst3 w' n most x3 x4 x5 x6 x7) ∧ Rw n r := by
  have hr : rngOk (n : Int) := rgk (by omega)
  have hs : n ≤ sizeLine := Lw.sz (by omega)
  have m2 : IntMulOk 2 most := mul_okL (by decide)
  obtain ⟨r, w', e, hl, hp⟩ := lc_ints (P := fun x => x.natAbs ≤ 1000) (m := ⟨(List.range n).map fun (k : Nat) => D.int k, []⟩) (st := stN 9) (test := bYes) (elt := xPrim [.ex (xCall f__law_draw [.va 0, .ex (xPrim [.ex (xPrim [.ex (xC (.int 2)), .va 2] pMul), .ex (xC (.int 1))] pAdd)]), .va 2] pSub) (vs := [9]) (ds := (List.range n).map fun (k : Nat) => D.int k) (fun w => bst3 w n most x3 x4 x5 x6 x7) (by
    intro w d _
    have e1 := draw_ev w (2 * most + 1) (by omega) (by omega)
    have b1 := dr_bd w (2 * most + 1) (by omega)
    refine ⟨dr w (2 * most + 1) - most, dw w (2 * most + 1), by omega, fun k => ?_⟩
    simp [-List.map_map, pMul_int, m2, e1]) w
  refine ⟨r, w', ?_, by simpa using hl, hp⟩
  simp [c__law_built_0, hr, hs, e]
theorem rows_draw (w : Wl) (n : Nat) (most : Int) (hn : n ≤ 100) (hm : 1 ≤ most ∧ most ≤ 1000) : ∃ (rs : List (List Int)) (w' : Wl), c__law_built_1 (bst3 w n most .no .no .no .no .no) = .ok (.own (rs.map tI), bst3 w' n most .no .no .no .no .no) ∧ rs.length ≤ 4 ∧ ∀ r ∈ rs, Rw n r := by
  have d := draw_ev w 5 (by omega) (by omega)
  have bd := dr_bd w 5 (by omega)
  obtain ⟨m, hm'⟩ : ∃ m : Nat, dr w 5 = m := ⟨(dr w 5).toNat, by omega⟩
  rw [hm'] at d bd
  generalize dw w 5 = w1 at d
  have hr : rngOk (m : Int) := rgk (by omega)
  have hs : m ≤ sizeLine := Lw.sz (by omega)
  obtain ⟨rs, w', e, hl, hp⟩ := lc_rows (P := Rw n) (m := ⟨(List.range m).map fun (k : Nat) => D.int k, []⟩) (st := stN 7) (test := bYes) (elt := xPrim [.ex c__law_built_0] pTuple) (vs := [7]) (ds := (List.range m).map fun (k : Nat) => D.int k) (fun w => bst3 w n most .no .no .no .no .no) (by
    intro w d hd
    obtain ⟨r, w2, e, h⟩ := row_draw w n most .no .no .no .no (.sh d) hn hm
    refine ⟨r, w2, h, fun k => ?_⟩
    simp only [bst3] at e ⊢
    simp [-List.map_map, e, tI]) w1
  refine ⟨rs, w', ?_, by simp at hl; omega, hp⟩
  simp only [bst3] at e ⊢
  generalize rs.map tI = RS at *
  simp [-List.map_map, c__law_built_1, d, hr, hs, e]
theorem set_last (rs : List (List Int)) (r : List Int) (h : rs ≠ []) : setAt (rs.map tI) (-1) (tI r) = some ((rs.set (rs.length - 1) r).map tI) := by
  have hl : 0 < rs.length := List.length_pos_iff.mpr h
  have e : ixN (rs.map tI).length (-1) = some (rs.length - 1) := by
    rw [List.length_map]
    unfold ixN
    simp
    omega
  unfold setAt
  rw [e, List.map_set]
  rfl
theorem last_row (rs : List (List Int)) (h : rs ≠ []) : ∃ b ∈ rs, atI (rs.map tI) (-1) = some (tI b) := by
  refine ⟨rs.getLast h, List.getLast_mem h, ?_⟩
  have hl : 0 < rs.length := List.length_pos_iff.mpr h
  have e : ixN (rs.map tI).length (-1) = some (rs.length - 1) := by
    rw [List.length_map]
    unfold ixN
    simp
    omega
  unfold atI
  rw [e]
  have g : rs[rs.length - 1]? = some (rs.getLast h) := by rw [List.getLast_eq_getElem]; exact List.getElem?_eq_getElem _
  show (rs.map tI)[rs.length - 1]? = _
  rw [List.getElem?_map, g]
  rfl
theorem dup_ev (w : Wl) (n : Nat) (most : Int) (rs : List (List Int)) (hl : rs.length ≤ 4) (hp : ∀ r ∈ rs, Rw n r) : ∃ (rs' : List (List Int)) (w' : Wl), sIf b__law_built_0 (sStore 3 (xCall f__law_added [.ex (xPrim [.va 3, .ex (xC (.int 0))] pIx), .ex (xPrim [.va 3, .ex (xPrim [.ex (xC (.int 1))] pNeg)] pIx), .ex (xC (.int 0))]) (.ex (xPrim [.ex (xC (.int 1))] pNeg))) sNil (bst3 w n most (.own (rs.map tI)) .no .no .no .no) = .ok (.nx (bst3 w' n most (.own (rs'.map tI)) .no .no .no .no)) ∧ rs'.length ≤ 4 ∧ ∀ r ∈ rs', Rw n r := by
  have d := draw_ev w 3 (by omega) (by omega)
  by_cases h1 : 1 < rs.length
  · have h1' : (1 : Int) < rs.length := by omega
    by_cases h2 : dr w 3 = 0
    · have ne : rs ≠ [] := fun z => by subst z; simp at h1
      obtain ⟨b, hb, eb⟩ := last_row rs ne
      obtain ⟨a, t, ea⟩ := List.exists_cons_of_ne_nil ne
      have e0 : atI (rs.map tI) 0 = some (tI a) := by rw [ea, List.map_cons]; exact atI_0 _ _
      have ra := hp a (by rw [ea]; simp)
      have rb := hp b hb
      have ad := ladded_ev a b 0 fun x hx => mul_okL (by decide)
      have st := set_last rs (Rd.addL a b 0) ne
      refine ⟨rs.set (rs.length - 1) (Rd.addL a b 0), dw w 3, ?_, by simpa using hl, fun r hr => ?_⟩
      · simp only [bst3]
        rw [h2] at d
        have ln : (rs.map tI).length = rs.length := by simp
        generalize (rs.set (rs.length - 1) (Rd.addL a b 0)).map tI = OUT at *
        generalize tI (Rd.addL a b 0) = AD at *
        generalize tI a = AA at *
        generalize tI b = BB at *
        generalize rs.map tI = RS at *
        simp [b__law_built_0, ln, h1', d, e0, eb, ad, st, storeL, storeD]
      · rcases List.mem_or_eq_of_mem_set hr with hr | rfl
        · exact hp r hr
        · refine ⟨by rw [Rd.addL_len (by rw [ra.1, rb.1]), ra.1], fun x hx => ?_⟩
          obtain ⟨u, hu, v, hv, rfl⟩ := @Rd.mem_addL [] 0 x a b hx
          have := ra.2 u hu
          omega
    · refine ⟨rs, dw w 3, ?_, hl, hp⟩
      have h2' : (dr w 3 == 0) = false := by simpa using h2
      simp only [bst3]
      have ln : (rs.map tI).length = rs.length := by simp
      generalize rs.map tI = RS at *
      simp [b__law_built_0, ln, h1', d, h2']
  · have h1' : ¬ (1 : Int) < rs.length := by omega
    refine ⟨rs, w, ?_, hl, hp⟩
    simp only [bst3]
    have ln : (rs.map tI).length = rs.length := by simp
    generalize rs.map tI = RS at *
    simp [b__law_built_0, ln, h1']
end Lw
end
section
namespace Lw
open PySem PySem.Spec PyProof.Rows L2 Wm
structure Wld (rs : List (List Int)) (n : Nat) (sd : List Int) (wd : D) : Prop where
  n1 : 1 ≤ n
  n5 : n ≤ 5
  cnt : rs.length ≤ 4
  rw : ∀ r ∈ rs, Rw n r
  sl : sd.length = rs.length
  sb : ∀ x ∈ sd, x.natAbs < 2 ^ 60
  wd : wd = .non ∨ (wd = .str "some" ∧ ∃ v : List Int, v.length = n ∧ sd = rs.map fun r => dotL r v)
theorem vec_draw (w : Wl) (n : Nat) (most : Int) (x3 : SD) (hn : n ≤ 100) : ∃ (v : List Int) (w' : Wl), c__law_built_2 (bst3 w n most x3 .no .no .no .no) = .ok (.own (v.map D.int), bst3 w' n most x3 .no .no .no .no) ∧ v.length = n ∧ ∀ x ∈ v, x.natAbs ≤ 9 := by
  have hr : rngOk (n : Int) := rgk (by omega)
  have hs : n ≤ sizeLine := Lw.sz (by omega)
  obtain ⟨r, w', e, hl, hp⟩ := lc_ints (P := fun x => x.natAbs ≤ 9) (m := ⟨(List.range n).map fun (k : Nat) => D.int k, []⟩) (st := stN 9) (test := bYes) (elt := xPrim [.ex (xCall f__law_draw [.va 0, .ex (xC (.int 19))]), .ex (xC (.int 9))] pSub) (vs := [9]) (ds := (List.range n).map fun (k : Nat) => D.int k) (fun w => bst3 w n most x3 .no .no .no .no) (by
    intro w d _
    have e1 := draw_ev w 19 (by omega) (by omega)
    have b1 := dr_bd w 19 (by omega)
    refine ⟨dr w 19 - 9, dw w 19, by omega, fun k => ?_⟩
    simp [-List.map_map, e1]) w
  refine ⟨r, w', ?_, by simpa using hl, hp⟩
  simp [c__law_built_2, hr, hs, e]
theorem aim_ev (w : Wl) (n : Nat) (most : Int) (rs : List (List Int)) (v : List Int) (hp : ∀ r ∈ rs, Rw n r) : c__law_built_3 (bst3 w n most (.own (rs.map tI)) (.sh (tI v)) .no .no .no) = .ok (.own ((rs.map fun r => dotL r v).map D.int), bst3 w n most (.own (rs.map tI)) (.sh (tI v)) .no .no .no) := by
  have k0 : lcL ⟨rs.map tI, [(3, .own (rs.map tI))]⟩ (stN 8) bYes (xCall f__law_dot [.va 8, .va 4]) [8] (rs.map tI) (bst3 w n most (.own (rs.map tI)) (.sh (tI v)) .no .no .no) = .ok (rs.map fun r => D.int (dotL r v), bst3 w n most (.own (rs.map tI)) (.sh (tI v)) .no .no .no) := lc_mapL fun r hr k => by
    have e := ldot_l r v fun x hx => by
      have := (hp r hr).2 x hx
      have : (1000 : Nat) < 2 ^ 64 := by decide
      omega
    simp only [bst3]
    generalize rs.map tI = RS at *
    generalize tI v = VV at *
    generalize tI r = RR at *
    simp [e]
  rw [List.map_map]
  have e1 : (rs.map fun r => D.int (dotL r v)) = rs.map (D.int ∘ fun r => dotL r v) := rfl
  rw [e1] at k0
  simp only [bst3] at *
  generalize rs.map (D.int ∘ fun r => dotL r v) = OUT at *
  generalize rs.map tI = RS at *
  generalize tI v = VV at *
  simp [c__law_built_3, k0]
theorem aim_bd (n : Nat) (hn : n ≤ 5) (rs : List (List Int)) (v : List Int) (hp : ∀ r ∈ rs, Rw n r) (hv : ∀ x ∈ v, x.natAbs ≤ 9) : ∀ x ∈ rs.map (fun r => dotL r v), x.natAbs ≤ 45000 := fun x hx => by
  obtain ⟨r, hr, rfl⟩ := List.mem_map.mp hx
  have h := dotL_abs 1000 9 r v (hp r hr).2 hv
  rw [(hp r hr).1] at h
  omega
theorem built_ev (w : Wl) : ∃ (rs : List (List Int)) (n : Nat) (sd : List Int) (wd : D) (w' : Wl), f__law_built [.byr (wl w)] = .ok (.sh (.tup [.lst (rs.map tI), tI sd, .int n, wd]), [.byr (wl w')]) ∧ Wld rs n sd wd := by
  have z4 : (4 : Nat) ≤ sizeLine := by decide
  have d1 := draw_ev w 5 (by omega) (by omega)
  have b1 := dr_bd w 5 (by omega)
  generalize dw w 5 = w1 at d1
  obtain ⟨a, ha⟩ : ∃ a : Nat, dr w 5 = a := ⟨(dr w 5).toNat, by omega⟩
  rw [ha] at d1 b1
  have d2 := draw_ev w1 4 (by omega) (by omega)
  have b2 := dr_bd w1 4 (by omega)
  generalize dw w1 4 = w2 at d2
  generalize dr w1 4 = c at d2 b2
  obtain ⟨most, hm, em⟩ : ∃ most : Int, (1 ≤ most ∧ most ≤ 1000) ∧ atI [D.int 9, .int 3, .int 1, .int 1000] c = some (.int most) := by
    obtain ⟨z, hz, e⟩ := at_mem [D.int 9, .int 3, .int 1, .int 1000] c b2.1 b2.2
    simp only [List.mem_cons, List.not_mem_nil, or_false] at hz
    rcases hz with rfl | rfl | rfl | rfl <;> exact ⟨_, by decide, e⟩
  have ec : (1 : Int) + (a : Nat) = ((1 + a : Nat) : Int) := by omega
  generalize hn : 1 + a = n at ec
  obtain ⟨rs0, w3, e3, l3, p3⟩ := rows_draw w2 n most (by omega) hm
  obtain ⟨rs, w4, e4, l4, p4⟩ := dup_ev w3 n most rs0 l3 p3
  obtain ⟨v, w5, e5, l5, p5⟩ := vec_draw w4 n most (.own (rs.map tI)) (by omega)
  have e6 := aim_ev w5 n most rs v p4
  have bd := aim_bd n (by omega) rs v p4 p5
  have la : (rs.map fun r => dotL r v).length = rs.length := by simp
  have wd0 : Wld rs n (rs.map fun r => dotL r v) (.str "some") := ⟨by omega, by omega, l4, p4, la, fun x hx => by have := bd x hx; omega, .inr ⟨rfl, v, l5, rfl⟩⟩
  have z0 : (D.tup [.lst (rs.map tI), tI (rs.map fun r => dotL r v), .int n, .str "some"]) = .tup [.lst (rs.map tI), .tup ((rs.map fun r => dotL r v).map D.int), .int n, .str "some"] := rfl
  unfold f__law_built
  simp only [bodyF_ap]
  unfold g__law_built
  simp only [List.length_cons, List.length_nil, Nat.zero_add, Nat.reduceSub, Nat.reduceAdd, List.replicate, List.cons_append, List.nil_append]
  rw [seq_nx (ρ' := [.byr (wl w1), .sh (.int n), .no, .no, .no, .no, .no, .no, .no, .no]) (by simp [d1, ec])]
  rw [seq_nx (ρ' := bst3 w2 n most .no .no .no .no .no) (by simp [d2, em, z4])]
  rw [seq_nx (ρ' := bst3 w3 n most (.own (rs0.map tI)) .no .no .no .no) (by
    simp only [bst3] at *
    generalize rs0.map tI = RS at *
    simp [e3])]
  rw [seq_nx (e4 ..)]
  rw [seq_nx (ρ' := bst3 w5 n most (.own (rs.map tI)) (.sh (tI v)) .no .no .no) (by
    simp only [bst3] at *
    generalize rs.map tI = RS at *
    simp [e5])]
  rw [seq_nx (ρ' := bst3 w5 n most (.own (rs.map tI)) (.sh (tI v)) (.own ((rs.map fun r => dotL r v).map D.int)) .no .no) (by
    simp only [bst3] at *
    generalize (rs.map fun r => dotL r v).map D.int = OUT at *
    generalize rs.map tI = RS at *
    generalize tI v = VV at *
    simp [e6])]
  have s4 : (4 : Nat) ≤ sizeLine := by decide
  generalize hs0 : (rs.map fun r => dotL r v) = sd0 at *
  have dn := draw_ev w5 2 (by omega) (by omega)
  have okn := okNs_ints 59 sd0
  by_cases ne : sd0 = []
  · refine ⟨rs, n, sd0, .str "some", w5, ?_, wd0⟩
    subst ne
    simp only [bst3]
    generalize rs.map tI = RS at *
    generalize tI v = VV at *
    simp [b__law_built_1, s4]
  · have nn : eqDs (sd0.map D.int) [] = false := by
      cases sd0 with
      | nil => exact absurd rfl ne
      | cons x t => rfl
    by_cases h2 : dr w5 2 = 0
    · have hl : 0 < sd0.length := List.length_pos_iff.mpr ne
      rw [h2] at dn
      have d6 := draw_ev (dw w5 2) sd0.length (by omega) (by omega)
      have b6 := dr_bd (dw w5 2) sd0.length (by omega)
      generalize dw (dw w5 2) sd0.length = w6 at d6
      obtain ⟨k, hk⟩ : ∃ k : Nat, dr (dw w5 2) sd0.length = k := ⟨(dr (dw w5 2) sd0.length).toNat, by omega⟩
      rw [hk] at d6 b6
      have d7 := draw_ev w6 7 (by omega) (by omega)
      have b7 := dr_bd w6 7 (by omega)
      have hk' : k < sd0.length := by omega
      have ea : atI (sd0.map D.int) (k : Int) = some (.int (at0 sd0 k)) := at0_get sd0 k hk'
      have mk : at0 sd0 k ∈ sd0 := Rd.at0_mem hk'
      have bk := bd _ mk
      have st : setAt (sd0.map D.int) (k : Int) (.int (at0 sd0 k + 1 + dr w6 7)) = some ((sd0.set k (at0 sd0 k + 1 + dr w6 7)).map D.int) := by
        rw [setAt_nth _ (by simpa using hk'), List.map_set]
      refine ⟨rs, n, sd0.set k (at0 sd0 k + 1 + dr w6 7), .non, dw w6 7, ?_, ⟨by omega, by omega, l4, p4, by rw [List.length_set]; exact la, fun x hx => ?_, .inl rfl⟩⟩
      · have ln : (sd0.map D.int).length = sd0.length := by simp
        simp only [bst3, tI]
        generalize (sd0.set k (at0 sd0 k + 1 + dr w6 7)).map D.int = OUT at *
        generalize sd0.map D.int = SD0 at *
        generalize rs.map tI = RS at *
        generalize v.map D.int = VV at *
        simp [b__law_built_1, nn, dn, okn, ln, d6, d7, ea, st, s4, storeL, storeD]
      · rcases List.mem_or_eq_of_mem_set hx with hx | rfl
        · have := bd x hx; omega
        · omega
    · refine ⟨rs, n, sd0, .str "some", dw w5 2, ?_, wd0⟩
      have h2' : (dr w5 2 == 0) = false := by simpa using h2
      simp only [bst3, tI]
      generalize sd0.map D.int = SD0 at *
      generalize rs.map tI = RS at *
      generalize v.map D.int = VV at *
      simp [b__law_built_1, nn, okn, dn, h2', s4]
end Lw
end
section
namespace Lw
open PySem PySem.Spec PyProof.Rows L2 Wm
theorem keys_rows (c n : Nat) (hc : c < n) : ∀ (S : List (List Int)), (∀ r ∈ S, r.length = n) → keysD (c : Int) (S.map tI) = some (S.map fun r => ((at0 r c).natAbs : Int))
  | [], _ => rfl
  | r :: S, h => by
    have e := at0_get r c (by rw [h r (by simp)]; exact hc)
    have k : keyD (c : Int) (tI r) = some ((at0 r c).natAbs : Int) := by
      show (match atI (r.map D.int) (c : Int) with | some (.int v) => some (if v < 0 then -v else v) | _ => none) = _
      rw [e]
      show some (if at0 r c < 0 then -(at0 r c) else at0 r c) = _
      congr 1
      split <;> omega
    rw [List.map_cons, List.map_cons]
    unfold keysD
    rw [k, keys_rows c n hc S fun s hs => h s (List.mem_cons_of_mem _ hs)]
theorem sort_ev (ρ : List SD) (S : List (List Int)) (c n : Nat) (hc : c < n) (h : ∀ r ∈ S, r.length = n) (hS : S ≠ []) (hl : S.length ≤ 1000) (hcs : c ≤ 100000) (h4 : ρ[4]? = some (.own (S.map tI))) (h3 : ρ[3]? = some (.sh (.int (c : Nat)))) :
    ∃ f T, (f :: T).Perm S ∧ (∀ r ∈ S, (at0 f c).natAbs ≤ (at0 r c).natAbs) ∧ xSortKey 4 3 ρ = .ok (.own ((f :: T).map tI), ρ) := by
  let key : List Int → Int × List Int := fun r => (((at0 r c).natAbs : Int), r)
  have pm := stab_perm (S.map key)
  have so := stab_sorted (S.map key)
  have pm2 : ((stab (S.map key)).map (fun p : Int × List Int => p.2)).Perm S := by
    have := pm.map (fun p : Int × List Int => p.2)
    have e : (S.map key).map (fun p : Int × List Int => p.2) = S := by rw [List.map_map]; exact List.map_id' S
    rwa [e] at this
  have ky : ∀ p ∈ stab (S.map key), p = key p.2 := fun p hp => by
    obtain ⟨r, _, rfl⟩ := List.mem_map.mp (pm.mem_iff.mp hp)
    rfl
  have ev : xSortKey 4 3 ρ = .ok (.own (((stab (S.map key)).map (fun p : Int × List Int => p.2)).map tI), ρ) := by
    have e1 : ownGet ρ 4 = .ok (S.map tI) := by unfold ownGet; rw [h4]
    show (ownGet ρ 4).bind (fun xs => sortK xs ρ ρ[3]?) = _
    rw [e1, h3]
    show (match keysD (c : Int) (S.map tI) with | some ks => if (S.map tI).length ≤ sizeLine ∧ -(2 ^ 63) ≤ (c : Int) ∧ (c : Int) < 2 ^ 63 then Rs.ok (SD.own ((stab (ks.zip (S.map tI))).map fun p : Int × D => p.2), ρ) else .bad | none => .bad) = _
    rw [keys_rows c n hc S h]
    show (if (S.map tI).length ≤ sizeLine ∧ -(2 ^ 63) ≤ (c : Int) ∧ (c : Int) < 2 ^ 63 then Rs.ok (SD.own ((stab ((S.map fun r => ((at0 r c).natAbs : Int)).zip (S.map tI))).map fun p : Int × D => p.2), ρ) else .bad) = _
    rw [if_pos ⟨Lw.sz (by rw [List.length_map]; omega), by omega, by omega⟩]
    have ez : (S.map fun r => ((at0 r c).natAbs : Int)).zip (S.map tI) = (S.map key).map fun p : Int × List Int => (p.1, tI p.2) := by
      rw [List.map_map, List.zip_map', List.map_congr_left]
      intro r _
      rfl
    rw [ez, stab_map, List.map_map, List.map_map]
    rfl
  cases hq : stab (S.map key) with
  | nil =>
    rw [hq] at pm2
    exact absurd (List.Perm.nil_eq pm2).symm hS
  | cons p P =>
    rw [hq] at pm2 so ky ev
    refine ⟨p.2, P.map (fun p : Int × List Int => p.2), pm2, fun r hr => ?_, ev⟩
    have k1 := ky p (by simp)
    have hr' : r ∈ (p :: P).map (fun p : Int × List Int => p.2) := pm2.mem_iff.mpr hr
    obtain ⟨q, hq', rfl⟩ := List.mem_map.mp hr'
    have k2 := ky q hq'
    rcases List.mem_cons.mp hq' with rfl | hq'
    · exact Nat.le_refl _
    · have := (List.pairwise_cons.mp so).1 q hq'
      rw [k1, k2] at this
      have this : ((at0 p.2 c).natAbs : Int) ≤ ((at0 q.2 c).natAbs : Int) := this
      omega
theorem Ph_perm {c n M a X : Nat} {p : List Int} {S T O O' : List (List Int)} (h : Rd.Ph c n M (p :: S) O a X) (hT : ∀ r, r ∈ T ↔ r ∈ S) (hO : ∀ r ∈ O', r ∈ O) : Rd.Ph c n M (p :: T) O' a X := by
  obtain ⟨q, rest, e, ha, h1, h2⟩ := h.ex
  injection e with e1 e2
  subst e1 e2
  refine ⟨⟨p, T, rfl, ha, fun r hr => h1 r ((hT r).mp hr), fun hn => ?_⟩, h.a0, fun r hr => ?_, h.x, fun r hr => h.o r (hO r hr)⟩
  · obtain ⟨x, hx⟩ := List.exists_mem_of_ne_nil _ hn
    obtain ⟨r, hr, hb⟩ := h2 (List.ne_nil_of_mem ((hT x).mp hx))
    exact ⟨r, (hT r).mpr hr, hb⟩
  · rcases List.mem_cons.mp hr with rfl | hr
    · exact h.w _ (by simp)
    · exact h.w r (List.mem_cons_of_mem _ ((hT r).mp hr))
theorem perm_led {c : Nat} {f : List Int} {T S : List (List Int)} (h : (f :: T).Perm S) : (T.map (Rd.cut c f)).Perm (Rd.led c f S) := by
  have h1 : T.Perm (S.erase f) := by
    have := h.erase f
    rwa [List.erase_cons_head] at this
  exact h1.map _
end Lw
end
section
namespace Lw
open PySem PySem.Spec PyProof.Rows L2 Wm
abbrev srs (x0 x1 : SD) (O : List (List Int)) (c : Nat) (S : List (List Int)) (x5 x6 x7 : SD) : List SD := [x0, x1, .own (O.map tI), .sh (.int c), .own (S.map tI), x5, x6, x7]
theorem sbody_ev (x0 x1 : SD) (c m X : Nat) (O S : List (List Int)) (x5 x6 x7 : SD) (hc : c < m) (hcs : c ≤ 1000) (w : Rd.Wd m X S) (h0 : ∀ r ∈ S, at0 r c ≠ 0) (hX : X < 2 ^ 8000) (hS : S ≠ []) (hl : S.length + O.length ≤ 1000) (k5 : keptSD (some x5) = x5) :
    ∃ f T y7, (f :: T).Perm S ∧ (∀ r ∈ S, (at0 f c).natAbs ≤ (at0 r c).natAbs) ∧ w__law_sides_rest_7 (srs x0 x1 O c S x5 x6 x7) = .ok (.nx (srs x0 x1 (O ++ (T.map (Rd.cut c f)).filter (Rd.zr c)) c (f :: (T.map (Rd.cut c f)).filter (Rd.nz c)) x5 x6 y7)) := by
  obtain ⟨f, T, pm, hm, es⟩ := sort_ev (srs x0 x1 O c S x5 x6 x7) S c m hc (fun r hr => (w r hr).1) hS (by omega) (by omega) rfl rfl
  have hf : f ∈ S := pm.mem_iff.mp (by simp)
  have hT : ∀ r ∈ T, r ∈ S := fun r hr => pm.mem_iff.mp (List.mem_cons_of_mem _ hr)
  have f0 := h0 f hf
  have wf := w f hf
  have gf := at0_get f c (by rw [wf.1]; exact hc)
  have fb : ∀ b ∈ f, b.natAbs < 2 ^ 8000 := fun b hb => Nat.lt_of_le_of_lt (wf.2 b hb) hX
  have fc : (at0 f c).natAbs < 2 ^ 8000 := Nat.lt_of_le_of_lt (wf.2.at (by omega)) hX
  have e4 : c__law_sides_rest_4 [x0, x1, .own (O.map tI), .sh (.int c), .own ((f :: T).map tI), x5, x6, x7] = .ok (.own ((T.map (Rd.cut c f)).map tI), [x0, x1, .own (O.map tI), .sh (.int c), .own ((f :: T).map tI), x5, x6, x7]) := by
    have k0 : lcL ⟨T.map tI, []⟩ (stN 5) bYes (xCall f__law_added [.va 5, .ex (xPrim [.va 4, .ex (xC (.int 0))] pIx), .ex (xPrim [.ex (xPrim [.ex (xPrim [.va 5, .va 3] pIx), .ex (xPrim [.ex (xPrim [.va 4, .ex (xC (.int 0))] pIx), .va 3] pIx)] pFdiv)] pNeg)]) [5] (T.map tI) [x0, x1, .own (O.map tI), .sh (.int c), .own ((f :: T).map tI), .no, x6, x7] = .ok (T.map fun r => tI (Rd.cut c f r), [x0, x1, .own (O.map tI), .sh (.int c), .own ((f :: T).map tI), .no, x6, x7]) := lc_mapL fun r hr k => by
      have hr := hT r hr
      have gr := at0_get r c (by rw [(w r hr).1]; exact hc)
      have cd : CDv (at0 r c) (at0 f c) := ⟨f0, log_lt (by omega) fc f0⟩
      have rc : (at0 r c).natAbs < 2 ^ 8000 := Nat.lt_of_le_of_lt ((w r hr).2.at (by rw [(w r hr).1]; exact hc)) hX
      have qb : (-((at0 r c).fdiv (at0 f c))).natAbs < 2 ^ 100000 := by
        rw [Int.natAbs_neg]
        have h1 := Rd.fdiv_le (at0 r c) (at0 f c) f0
        have h2 : 2 ^ 8000 + 1 ≤ 2 ^ 100000 := by
          have : 2 ^ 8000 * 2 ≤ 2 ^ 100000 := by rw [← Nat.pow_succ]; exact Nat.pow_le_pow_right (by omega) (by omega)
          have : 1 ≤ 2 ^ 8000 := Nat.one_le_two_pow
          omega
        omega
      have ad := ladded_ev r f (-((at0 r c).fdiv (at0 f c))) fun b hb => mul_okB qb (Nat.lt_of_lt_of_le (fb b hb) (Nat.pow_le_pow_right (by omega) (by omega)))
      have ct : Rd.addL r f (-((at0 r c).fdiv (at0 f c))) = Rd.cut c f r := rfl
      rw [ct] at ad
      have a0 : atI ((f :: T).map tI) 0 = some (tI f) := by rw [List.map_cons]; exact atI_0 _ _
      generalize tI (Rd.cut c f r) = CC at *
      simp only [tI] at *
      generalize (f :: T).map (fun r => D.tup (r.map D.int)) = FT at *
      generalize O.map (fun r => D.tup (r.map D.int)) = OO at *
      generalize f.map D.int = FD at *
      generalize r.map D.int = RD at *
      simp [gf, gr, cd, ad, a0]
    have sl : pSlLo [.lst ((f :: T).map tI), .int 1] = .ok (.own (T.map tI)) := by
      rw [slLo_lst _ _ (by omega)]
      rfl
    rw [List.map_map]
    have k1 : ((T.map fun r => tI (Rd.cut c f r))) = T.map (tI ∘ Rd.cut c f) := rfl
    rw [k1] at k0
    generalize T.map (tI ∘ Rd.cut c f) = OUT at *
    generalize (f :: T).map tI = FT at *
    generalize O.map tI = OO at *
    simp [c__law_sides_rest_4, sl, k0, k5]
  have wL : ∀ r ∈ T.map (Rd.cut c f), c < r.length := fun r hr => by
    obtain ⟨s, hs, rfl⟩ := List.mem_map.mp hr
    have ws := w s (hT s hs)
    rw [Rd.cut_len (by rw [ws.1, wf.1]), ws.1]
    exact hc
  have hLl : (T.map (Rd.cut c f)).length + 1 = S.length := by
    rw [List.length_map]
    have := pm.length_eq
    simpa using this
  generalize hL : T.map (Rd.cut c f) = L at e4 wL hLl
  have gl : ∀ r ∈ L, atI (r.map D.int) (c : Int) = some (.int (at0 r c)) := fun r hr => at0_get r c (wL r hr)
  have e5 : ∀ x2 x4 : SD, c__law_sides_rest_5 [x0, x1, x2, .sh (.int c), x4, x5, x6, .own (L.map tI)] = .ok (.own ((L.filter (Rd.zr c)).map tI), [x0, x1, x2, .sh (.int c), x4, x5, x6, .own (L.map tI)]) := fun x2 x4 => by
    have k0 : lcL ⟨L.map tI, [(7, .own (L.map tI))]⟩ (stN 5) (bT (xPrim [.ex (xPrim [.va 5, .va 3] pIx), .ex (xC (.int 0))] pEq)) (xVar 5) [5] (L.map tI) [x0, x1, x2, .sh (.int c), x4, .no, x6, .own (L.map tI)] = .ok ((L.filter (Rd.zr c)).map tI, [x0, x1, x2, .sh (.int c), x4, .no, x6, .own (L.map tI)]) := lc_filterL fun r hr k => by
      by_cases q : at0 r c = 0
      · simp [gl r hr, q, Rd.zr, at0_rd]
      · have q' : (at0 r c == 0) = false := by simpa using q
        simp [gl r hr, q, q', Rd.zr, at0_rd]
    simp [c__law_sides_rest_5, k0, k5]
  have e6 : ∀ x2 x4 : SD, c__law_sides_rest_6 [x0, x1, x2, .sh (.int c), x4, x5, x6, .own (L.map tI)] = .ok (.own ((L.filter (Rd.nz c)).map tI), [x0, x1, x2, .sh (.int c), x4, x5, x6, .own (L.map tI)]) := fun x2 x4 => by
    have k0 : lcL ⟨L.map tI, [(7, .own (L.map tI))]⟩ (stN 5) (bT (xPrim [.ex (xPrim [.va 5, .va 3] pIx), .ex (xC (.int 0))] pNe)) (xVar 5) [5] (L.map tI) [x0, x1, x2, .sh (.int c), x4, .no, x6, .own (L.map tI)] = .ok ((L.filter (Rd.nz c)).map tI, [x0, x1, x2, .sh (.int c), x4, .no, x6, .own (L.map tI)]) := lc_filterL fun r hr k => by
      by_cases q : at0 r c = 0
      · simp [gl r hr, q, Rd.nz, at0_rd]
      · have q' : (at0 r c == 0) = false := by simpa using q
        simp [gl r hr, q, q', Rd.nz, at0_rd]
    simp [c__law_sides_rest_6, k0, k5]
  have s1 : (L.filter (Rd.zr c)).length ≤ L.length := List.length_filter_le ..
  have s2 : (L.filter (Rd.nz c)).length ≤ L.length := List.length_filter_le ..
  have z1 : O.length + (L.filter (Rd.zr c)).length ≤ sizeLine := Lw.sz (by omega)
  have z2' : 1 + (L.filter (Rd.nz c)).length ≤ sizeLine := Lw.sz (by omega)
  have z2 : (L.filter (Rd.nz c)).length + 1 ≤ sizeLine := Lw.sz (by omega)
  have z3 : (1 : Nat) ≤ sizeLine := by decide
  have sh : pSlHi [.lst ((f :: T).map tI), .int 1] = .ok (.own [tI f]) := by
    rw [slHi_lst _ _ (by omega)]
    rfl
  refine ⟨f, T, .own (L.map tI), pm, hm, ?_⟩
  rw [hL]
  unfold w__law_sides_rest_7
  rw [seq_nx (ρ' := [x0, x1, .own (O.map tI), .sh (.int c), .own ((f :: T).map tI), x5, x6, x7]) (by
      show (sSet 4 (xSortKey 4 3)) (srs x0 x1 O c S x5 x6 x7) = _
      rw [sSet_ap, es]
      rfl),
    seq_nx (ρ' := [x0, x1, .own (O.map tI), .sh (.int c), .own ((f :: T).map tI), x5, x6, .own (L.map tI)]) (by rw [sSet_ap, e4]; rfl),
    seq_nx (ρ' := [x0, x1, .own ((O ++ L.filter (Rd.zr c)).map tI), .sh (.int c), .own ((f :: T).map tI), x5, x6, .own (L.map tI)]) (by simp [e5, z1])]
  have es6 := e6 (.own ((O ++ L.filter (Rd.zr c)).map tI)) (.own ((f :: T).map tI))
  simp only [srs]
  rw [show (f :: L.filter (Rd.nz c)).map tI = [tI f] ++ (L.filter (Rd.nz c)).map tI from rfl]
  have z4 : ((L.filter (Rd.nz c)).map tI).length + 1 ≤ sizeLine := by simpa using z2
  have z6 : 1 + ((L.filter (Rd.nz c)).map tI).length ≤ sizeLine := by simpa using z2'
  generalize (L.filter (Rd.nz c)).map tI = LN at *
  generalize (O ++ L.filter (Rd.zr c)).map tI = OO at *
  generalize (f :: T).map tI = FT at *
  generalize L.map tI = LL at *
  generalize tI f = FF at *
  simp [es6, sh, z4, z6]
end Lw
end
section
namespace Lw
open PySem PySem.Spec PyProof.Rows L2 Wm
abbrev stst : Sb := (bT (xPrim [.ex (xPrim [.va 4] pLen), .ex (xC (.int 1))] pGt))
theorem stst_ev (x0 x1 : SD) (c : Nat) (O S : List (List Int)) (x5 x6 x7 : SD) : stst (srs x0 x1 O c S x5 x6 x7) = .ok (decide (1 < S.length), srs x0 x1 O c S x5 x6 x7) := by
  by_cases h : 1 < S.length
  · have h' : (1 : Int) < S.length := by omega
    simp [h, h']
  · have h' : ¬ (1 : Int) < S.length := by omega
    simp [h, h']
structure SDone (c m N : Nat) (S O S' O' : List (List Int)) : Prop where
  one : S'.length ≤ 1
  s : Rd.Wd m N S'
  o : Rd.Wd m N O'
  nz : ∀ r ∈ S', at0 r c ≠ 0
  zr : ∀ r ∈ O', at0 r c = 0
  cnt : S'.length + O'.length = S.length + O.length
  eq : La.Eqv (S' ++ O') (S ++ O)
theorem zr_app {c : Nat} {O L : List (List Int)} (hz : ∀ r ∈ O, at0 r c = 0) : ∀ r ∈ O ++ L.filter (Rd.zr c), at0 r c = 0 := fun r hr => by
  rcases List.mem_append.mp hr with hr | hr
  · exact hz r hr
  · have := (List.mem_filter.mp hr).2
    simpa [Rd.zr, at0_rd] using this
theorem led_count' {c : Nat} {f : List Int} {T S : List (List Int)} (h : (f :: T).Perm S) : (f :: (T.map (Rd.cut c f)).filter (Rd.nz c)).length + ((T.map (Rd.cut c f)).filter (Rd.zr c)).length = S.length := by
  have hf : f ∈ S := h.mem_iff.mp (by simp)
  have := led_count c f S hf
  have p := perm_led (c := c) h
  rw [List.length_cons, (p.filter (Rd.nz c)).length_eq, (p.filter (Rd.zr c)).length_eq]
  simpa using this
theorem ph_sorted {c m M a X : Nat} {f : List Int} {T S O : List (List Int)} (h : (f :: T).Perm S) (ph : Rd.Ph c m M (f :: (Rd.led c f S).filter (Rd.nz c)) (O ++ (Rd.led c f S).filter (Rd.zr c)) a X) : Rd.Ph c m M (f :: (T.map (Rd.cut c f)).filter (Rd.nz c)) (O ++ (T.map (Rd.cut c f)).filter (Rd.zr c)) a X := by
  have p := perm_led (c := c) h
  exact Ph_perm ph (fun r => (p.filter (Rd.nz c)).mem_iff) fun r hr => ((p.filter (Rd.zr c)).append_left O).mem_iff.mp hr
theorem seqv {c m : Nat} {f : List Int} {T S O : List (List Int)} (pm : (f :: T).Perm S) (hS : ∀ r ∈ S, r.length = m) : La.Eqv ((f :: (T.map (Rd.cut c f)).filter (Rd.nz c)) ++ (O ++ (T.map (Rd.cut c f)).filter (Rd.zr c))) (S ++ O) := by
  have p := perm_led (c := c) pm
  have hf : f ∈ S := pm.mem_iff.mp (by simp)
  refine La.Eqv.trans (La.Eqv.mem fun r => ?_) (La.led_eqv (c := c) (O := O) hf hS)
  have a1 := (p.filter (Rd.nz c)).mem_iff (a := r)
  have a2 := (p.filter (Rd.zr c)).mem_iff (a := r)
  simp only [List.mem_append, List.mem_cons, a1, a2]
theorem sloop (x0 x1 : SD) (c m M : Nat) (hc : c < m) (hcs : c ≤ 1000) (hM : 2 * M < 2 ^ 8000) : ∀ (fuel : Nat) (S O : List (List Int)) (a X : Nat) (x5 x6 x7 : SD), Rd.Ph c m M S O a X → (∀ r ∈ O, at0 r c = 0) → a < fuel → S.length + O.length ≤ 1000 → keptSD (some x5) = x5 →
    ∃ S' O' y7, whl stst w__law_sides_rest_7 fuel (srs x0 x1 O c S x5 x6 x7) = .ok (.nx (srs x0 x1 O' c S' x5 x6 y7)) ∧ SDone c m (2 * M) S O S' O'
  | 0, S, O, a, X, x5, x6, x7, h, _, hf, _, _ => absurd hf (by omega)
  | fuel + 1, S, O, a, X, x5, x6, x7, h, hz, hf, hl, k5 => by
    have h0 : ∀ r ∈ S, at0 r c ≠ 0 := fun r hr => by
      obtain ⟨p, rest, rfl, ha, h1, _⟩ := h.ex
      rcases List.mem_cons.mp hr with rfl | hr
      · have := h.a0
        rw [← ha] at this
        intro z
        rw [at0_rd, z] at this
        cases this
      · exact (h1 r hr).2.1
    have hne : S ≠ [] := by
      obtain ⟨p, rest, rfl, _⟩ := h.ex
      simp
    rw [whl_succ, stst_ev]
    by_cases h2 : 1 < S.length
    · obtain ⟨f, T, y7, pm, hm, eb⟩ := sbody_ev x0 x1 c m X O S x5 x6 x7 hc hcs h.w h0 (Nat.lt_of_le_of_lt h.x hM) hne hl k5
      have hf1 : f ∈ S := pm.mem_iff.mp (by simp)
      obtain ⟨X', hp, ha⟩ := h.next hc h2 hf1 hm
      have ct := led_count' (c := c) pm
      obtain ⟨S', O', z7, e, d⟩ := sloop x0 x1 c m M hc hcs hM fuel _ _ _ X' x5 x6 y7 (ph_sorted pm hp) (zr_app hz) (by omega) (by rw [List.length_append]; omega) k5
      refine ⟨S', O', z7, ?_, ⟨d.one, d.s, d.o, d.nz, d.zr, by rw [d.cnt, List.length_append]; omega, d.eq.trans (seqv pm fun r hr => (h.w r hr).1)⟩⟩
      simp only [bind_ok, h2, decide_true, if_true, eb, turn_nx]
      exact e
    · exact ⟨S, O, x7, by simp [h2], ⟨by omega, h.w.le h.x, h.o, h0, hz, rfl, La.Eqv.rfl'⟩⟩
theorem sfuel (x0 x1 : SD) (c : Nat) (O S : List (List Int)) (x5 x6 x7 : SD) (f : List Int) (hf : f ∈ S) (hc : c < f.length) : (at0 f c).natAbs + 2 ≤ szS (srs x0 x1 O c S x5 x6 x7) := by
  have h1 : (SD.own (S.map tI)).sz + 2 ≤ szS (srs x0 x1 O c S x5 x6 x7) := szS_mem (by simp)
  have h2 : (tI f).sz ≤ szs (S.map tI) := szs_mem (List.mem_map.mpr ⟨f, hf, rfl⟩)
  have h3 : (D.int (at0 f c)).sz ≤ szs (f.map D.int) := szs_mem (List.mem_map.mpr ⟨_, Rd.at0_mem hc, rfl⟩)
  have e1 : (SD.own (S.map tI)).sz = szs (S.map tI) := rfl
  have e2 : (tI f).sz = szs (f.map D.int) := by simp [tI, D.sz]
  have e3 : (D.int (at0 f c)).sz = (at0 f c).natAbs := by simp [D.sz]
  omega
theorem swhl (x0 x1 : SD) (c m X : Nat) (hc : c < m) (hcs : c ≤ 1000) (S O : List (List Int)) (x5 x6 x7 : SD) (wS : Rd.Wd m X S) (wO : Rd.Wd m X O) (h0 : ∀ r ∈ S, at0 r c ≠ 0) (hz : ∀ r ∈ O, at0 r c = 0) (hX : X < 2 ^ 8000) (hg : grow X < 2 ^ 8000) (l1 : S.length + O.length ≤ 1000) (k5 : keptSD (some x5) = x5) :
    ∃ S' O' y7, whl stst w__law_sides_rest_7 (szS (srs x0 x1 O c S x5 x6 x7)) (srs x0 x1 O c S x5 x6 x7) = .ok (.nx (srs x0 x1 O' c S' x5 x6 y7)) ∧ SDone c m (max X (grow X)) S O S' O' := by
  by_cases h2 : 1 < S.length
  · have hne : S ≠ [] := fun z => by subst z; simp at h2
    obtain ⟨f, T, y7, pm, hm, eb⟩ := sbody_ev x0 x1 c m X O S x5 x6 x7 hc hcs wS h0 hX hne l1 k5
    have hf1 : f ∈ S := pm.mem_iff.mp (by simp)
    have fg := sfuel x0 x1 c O S x5 x6 x7 f hf1 (by rw [(wS f hf1).1]; exact hc)
    obtain ⟨k, ek⟩ : ∃ k, szS (srs x0 x1 O c S x5 x6 x7) = k + 1 := ⟨szS (srs x0 x1 O c S x5 x6 x7) - 1, by omega⟩
    have ct := led_count' (c := c) pm
    have hp := Rd.Ph.first hc wS wO h0 hf1 hm
    obtain ⟨S', O', z7, e, d⟩ := sloop x0 x1 c m _ hc hcs hg k _ _ _ _ x5 x6 y7 (ph_sorted pm hp) (zr_app hz) (by rw [at0_rd]; omega) (by rw [List.length_append]; omega) k5
    refine ⟨S', O', z7, ?_, ⟨d.one, d.s.le (Nat.le_max_right ..), d.o.le (Nat.le_max_right ..), d.nz, d.zr, by rw [d.cnt, List.length_append]; omega, d.eq.trans (seqv pm fun r hr => (wS r hr).1)⟩⟩
    rw [ek, whl_succ, stst_ev]
    simp only [bind_ok, h2, decide_true, if_true, eb, turn_nx]
    exact e
  · obtain ⟨k, ek⟩ : ∃ k, szS (srs x0 x1 O c S x5 x6 x7) = k + 1 := by
      have : (SD.own (S.map tI)).sz + 2 ≤ szS (srs x0 x1 O c S x5 x6 x7) := szS_mem (by simp)
      exact ⟨szS (srs x0 x1 O c S x5 x6 x7) - 1, by omega⟩
    refine ⟨S, O, x7, ?_, ⟨by omega, wS.le (Nat.le_max_left ..), wO.le (Nat.le_max_left ..), h0, hz, rfl, La.Eqv.rfl'⟩⟩
    rw [ek, whl_succ, stst_ev]
    simp [h2]
end Lw
end
section
namespace La
open Rd Dt
theorem Sp.cons_iff {f : List Int} {O : Rows} {x : Vec} : Sp (f :: O) x ↔ ∃ a y, Sp O y ∧ x = fun i => y i + a * at0 f i := by
  constructor
  · intro h
    induction h with
    | zero => exact ⟨0, _, .zero, by funext i; omega⟩
    | @add v r k _ hr ih =>
      obtain ⟨a, y, hy, rfl⟩ := ih
      rcases List.mem_cons.mp hr with rfl | hr
      · exact ⟨a + k, y, hy, by funext i; grind⟩
      · exact ⟨a, _, .add k hy hr, by funext i; grind⟩
  · rintro ⟨a, y, hy, rfl⟩
    exact Sp.comb a (hy.mono fun r hr => List.mem_cons_of_mem _ hr) (.mem List.mem_cons_self)
theorem gone_iff {c : Nat} {S' O' L : Rows} {x : Vec} (e : Eqv (S' ++ O') L) (h1 : S'.length ≤ 1) (nz : ∀ r ∈ S', at0 r c ≠ 0) (z : ∀ r ∈ O', at0 r c = 0) : Sp O' x ↔ Sp L x ∧ x c = 0 := by
  constructor
  · intro h
    exact ⟨(e x).mp (h.mono fun r hr => List.mem_append_right _ hr), h.zeroAt z⟩
  · rintro ⟨h, h0⟩
    have h := (e x).mpr h
    match S', h1, nz, h with
    | [], _, _, h => exact h
    | [f], _, nz, h =>
      obtain ⟨a, y, hy, rfl⟩ := Sp.cons_iff.mp (show Sp (f :: O') x from h)
      have y0 := hy.zeroAt z
      have h0 : y c + a * at0 f c = 0 := h0
      rw [y0, Int.zero_add] at h0
      have a0 : a = 0 := by
        rcases Int.mul_eq_zero.mp h0 with q | q
        · exact q
        · exact absurd q (nz f (by simp))
      subst a0
      have e2 : (fun i => y i + 0 * at0 f i) = y := by funext i; omega
      rw [e2]
      exact hy
    | _ :: _ :: _, h1, _, _ => simp at h1
end La
end
section
namespace Lw
open PySem PySem.Spec PyProof.Rows L2 Wm
theorem nz_zr_len (c : Nat) (L : List (List Int)) : (L.filter (Rd.nz c)).length + (L.filter (Rd.zr c)).length = L.length := by
  induction L with
  | nil => rfl
  | cons r L ih =>
    by_cases q : Rd.at0 r c = 0
    · have a1 : Rd.nz c r = false := by simp [Rd.nz, q]
      have a2 : Rd.zr c r = true := by simp [Rd.zr, q]
      simp [a1, a2]; omega
    · have a1 : Rd.nz c r = true := by simp [Rd.nz, q]
      have a2 : Rd.zr c r = false := by simp [Rd.zr, q]
      simp [a1, a2]; omega
structure SR0 (C : List (List Int)) (m k : Nat) (sd : List Int) (L : List (List Int)) (z : List Int) : Prop where
  w : Rd.Wd m (bX 1000 k) L
  cnt : L.length ≤ 5
  z0 : ∀ r ∈ L, ∀ j, j < k → Rd.at0 r j = 0
  iff : ∀ x, La.Sp L x ↔ La.Sp C x ∧ ∀ j, j < k → x j = 0
  zl : z.length = m
  zb : ∀ x ∈ z, x.natAbs < 2 ^ (60 + 6602 * k)
  zs : La.Sp C fun i => Rd.at0 sd i - Rd.at0 z i
  zm : La.Sp C (Rd.at0 sd) → ∀ j, j < k → Rd.at0 z j = 0
theorem SR0.cut {C : List (List Int)} {m k : Nat} {sd : List Int} {L O' : List (List Int)} {z f : List Int} (h : SR0 C m k sd L z) (hk : k < m) (hm : m ≤ 4) (fw : f.length = m ∧ Rd.Bn (bX 1000 (k + 1)) f) (f0 : Rd.at0 f k ≠ 0) (ow : Rd.Wd m (bX 1000 (k + 1)) O') (oz : ∀ r ∈ O', Rd.at0 r k = 0) (oc : O'.length ≤ 5) (eq : La.Eqv ([f] ++ O') L) (hb : bX 1000 (k + 1) < 2 ^ 6600) : SR0 C m (k + 1) sd O' (Rd.cut k f z) := by
  have fL : La.Sp L (Rd.at0 f) := (eq _).mp (.mem (by simp))
  have fC := ((h.iff _).mp fL)
  have oL : ∀ r ∈ O', La.Sp L (Rd.at0 r) := fun r hr => (eq _).mp (.mem (by simp [hr]))
  have ec := La.at0_cut (c := k) (f := f) (r := z) (by rw [h.zl, fw.1])
  refine ⟨ow, oc, fun r hr j hj => ?_, fun x => ?_, by rw [Rd.cut_len (by rw [h.zl, fw.1]), h.zl], fun x hx => ?_, ?_, fun hs j hj => ?_⟩
  · by_cases q : j = k
    · rw [q]; exact oz r hr
    · exact ((h.iff _).mp (oL r hr)).2 j (by omega)
  · rw [La.gone_iff eq (by simp) (fun r hr => by have : r = f := by simpa using hr
                                                 rw [this]; exact f0) oz, h.iff]
    constructor
    · rintro ⟨⟨a, c⟩, e⟩
      refine ⟨a, fun j hj => ?_⟩
      by_cases q : j = k
      · rw [q]; exact e
      · exact c j (by omega)
    · rintro ⟨a, c⟩
      exact ⟨⟨a, fun j hj => c j (by omega)⟩, c k (by omega)⟩
  · have zk : (Rd.at0 z k).natAbs < 2 ^ (60 + 6602 * k) := h.zb _ (Rd.at0_mem (by rw [h.zl]; exact hk))
    have q1 := Rd.fdiv_le (Rd.at0 z k) (Rd.at0 f k) f0
    have b1 := Rd.addL_bn (N := 2 ^ (60 + 6602 * k)) (M := 2 ^ 6600) (k := 2 ^ (60 + 6602 * k)) (m := -((Rd.at0 z k).fdiv (Rd.at0 f k))) (fun y hy => Nat.le_of_lt (h.zb y hy)) (fun y hy => Nat.le_trans (fw.2 y hy) (Nat.le_of_lt hb)) (by rw [Int.natAbs_neg]; omega) x hx
    have e : 60 + 6602 * (k + 1) = (60 + 6602 * k) + 6602 := by omega
    rw [e, Nat.pow_add]
    have e2 : (2 : Nat) ^ 6602 = 2 ^ 6600 * 4 := by rw [show 6602 = 6600 + 2 from rfl, Nat.pow_add]
    rw [e2]
    have p1 : 1 ≤ (2 : Nat) ^ 6600 := Nat.one_le_two_pow
    have p2 : 1 ≤ (2 : Nat) ^ (60 + 6602 * k) := Nat.one_le_two_pow
    generalize (2 : Nat) ^ (60 + 6602 * k) = A at *
    generalize (2 : Nat) ^ 6600 = B at *
    have h1 : A ≤ A * B := Nat.le_mul_of_pos_right A p1
    rw [show A * (B * 4) = A * B * 4 by rw [Nat.mul_assoc]]
    have : 1 ≤ A * B := by omega
    omega
  · have := h.zs.comb ((Rd.at0 z k).fdiv (Rd.at0 f k)) fC.1
    refine cast (congrArg (La.Sp C) (funext fun i => ?_)) this
    rw [ec]
    show Rd.at0 sd i - Rd.at0 z i + (Rd.at0 z k).fdiv (Rd.at0 f k) * Rd.at0 f i = Rd.at0 sd i - (Rd.at0 z i + -((Rd.at0 z k).fdiv (Rd.at0 f k)) * Rd.at0 f i)
    rw [Int.neg_mul]
    omega
  · rw [ec]
    have zm := h.zm hs
    have zC : La.Sp C (Rd.at0 z) := by
      have := hs.comb (-1) h.zs
      refine cast (congrArg (La.Sp C) (funext fun i => ?_)) this
      omega
    by_cases q : j = k
    · subst q
      have zL : La.Sp L (Rd.at0 z) := (h.iff _).mpr ⟨zC, zm⟩
      obtain ⟨a, y, hy, e⟩ := La.Sp.cons_iff.mp (show La.Sp (f :: O') (Rd.at0 z) from (eq _).mpr zL)
      have y0 : y j = 0 := hy.zeroAt oz
      have ez : Rd.at0 z j = a * Rd.at0 f j := by rw [e]; show y j + a * Rd.at0 f j = _; omega
      show Rd.at0 z j + -((Rd.at0 z j).fdiv (Rd.at0 f j)) * Rd.at0 f j = 0
      rw [ez, Int.mul_fdiv_cancel _ f0, Int.neg_mul]
      omega
    · have hj' : j < k := by omega
      show Rd.at0 z j + -((Rd.at0 z k).fdiv (Rd.at0 f k)) * Rd.at0 f j = 0
      rw [zm j hj', fC.2 j hj']
      omega
theorem SR0.pass {C : List (List Int)} {m k : Nat} {sd : List Int} {L O' : List (List Int)} {z : List Int} (h : SR0 C m k sd L z) (ow : Rd.Wd m (bX 1000 (k + 1)) O') (oz : ∀ r ∈ O', Rd.at0 r k = 0) (oc : O'.length ≤ 5) (eq : La.Eqv ([] ++ O') L) : SR0 C m (k + 1) sd O' z := by
  have oL : ∀ r ∈ O', La.Sp L (Rd.at0 r) := fun r hr => (eq _).mp (.mem (by simp [hr]))
  refine ⟨ow, oc, fun r hr j hj => ?_, fun x => ?_, h.zl, fun x hx => Nat.lt_of_lt_of_le (h.zb x hx) (Nat.pow_le_pow_right (by omega) (by omega)), h.zs, fun hs j hj => ?_⟩
  · by_cases q : j = k
    · rw [q]; exact oz r hr
    · exact ((h.iff _).mp (oL r hr)).2 j (by omega)
  · rw [La.gone_iff eq (by simp) (fun r hr => absurd hr (by simp)) oz, h.iff]
    constructor
    · rintro ⟨⟨a, c⟩, e⟩
      refine ⟨a, fun j hj => ?_⟩
      by_cases q : j = k
      · rw [q]; exact e
      · exact c j (by omega)
    · rintro ⟨a, c⟩
      exact ⟨⟨a, fun j hj => c j (by omega)⟩, c k (by omega)⟩
  · have zm := h.zm hs
    by_cases q : j = k
    · subst q
      have zC : La.Sp C (Rd.at0 z) := by
        have := hs.comb (-1) h.zs
        refine cast (congrArg (La.Sp C) (funext fun i => ?_)) this
        omega
      have zL : La.Sp L (Rd.at0 z) := (h.iff _).mpr ⟨zC, zm⟩
      exact ((show La.Sp O' (Rd.at0 z) from (eq _).mpr zL)).zeroAt oz
    · exact zm j (by omega)
end Lw
end
section
namespace Lw
open PySem PySem.Spec PyProof.Rows L2 Wm
theorem bX5 {k : Nat} (h : k ≤ 4) : bX 1000 k < 2 ^ 6600 := Nat.lt_of_le_of_lt (bX_mono 1000 h) bnd_any.1
theorem s_turn (x0 : SD) {C : List (List Int)} {m k : Nat} {sd : List Int} {L : List (List Int)} {z : List Int} (hk : k < m) (hm : m ≤ 4) (x4 x5 x6 x7 : SD) (h : SR0 C m k sd L z) (k5 : keptSD (some x5) = x5) :
    ∃ L' z' y4 y5 y7, keptSD (some y5) = y5 ∧ SR0 C m (k + 1) sd L' z' ∧ l__law_sides_rest_9 [x0, .sh (tI z), .own (L.map tI), .sh (.int (k : Nat)), x4, x5, x6, x7] = .ok (.nx [x0, .sh (tI z'), .own (L'.map tI), .sh (.int (k : Nat)), y4, y5, x6, y7]) := by
  have wL := h.w
  have gt : ∀ r ∈ L, atI (r.map D.int) (k : Int) = some (.int (at0 r k)) := fun r hr => at0_get r k (by rw [(wL r hr).1]; exact hk)
  have h0 : ∀ r ∈ L.filter (Rd.nz k), at0 r k ≠ 0 := fun r hr => by
    have := (List.mem_filter.mp hr).2
    simpa [Rd.nz, at0_rd] using this
  have hz : ∀ r ∈ L.filter (Rd.zr k), at0 r k = 0 := fun r hr => by
    have := (List.mem_filter.mp hr).2
    simpa [Rd.zr, at0_rd] using this
  have l0 := nz_zr_len k L
  have lc := h.cnt
  have hb := bX5 (k := k + 1) (by omega)
  have hX := bX5 (k := k) (by omega)
  have p8 : (2 : Nat) ^ 6600 ≤ 2 ^ 8000 := Nat.pow_le_pow_right (by omega) (by omega)
  have hg : grow (bX 1000 k) < 2 ^ 8000 := by
    have : grow (bX 1000 k) ≤ bX 1000 (k + 1) := Nat.le_max_right ..
    omega
  obtain ⟨S', O', y7, ew, d⟩ := swhl x0 (.sh (tI z)) k m (bX 1000 k) hk (by omega) (L.filter (Rd.nz k)) (L.filter (Rd.zr k)) x5 x6 x7 wL.filter wL.filter h0 hz (by omega) hg (by omega) k5
  have ds : Rd.Wd m (bX 1000 (k + 1)) S' := d.s
  have do' : Rd.Wd m (bX 1000 (k + 1)) O' := d.o
  have cnt := d.cnt
  have eq : La.Eqv (S' ++ O') L := d.eq.trans (La.Eqv.mem fun r => by rw [List.mem_append]; exact La.mem_split.symm)
  have e2 : c__law_sides_rest_2 [x0, .sh (tI z), .own (L.map tI), .sh (.int (k : Nat)), x4, x5, x6, x7] = .ok (.own ((L.filter (Rd.nz k)).map tI), [x0, .sh (tI z), .own (L.map tI), .sh (.int (k : Nat)), x4, x5, x6, x7]) := by
    have k0 : lcL ⟨L.map tI, [(2, .own (L.map tI))]⟩ (stN 5) (bT (xPrim [.ex (xPrim [.va 5, .va 3] pIx), .ex (xC (.int 0))] pNe)) (xVar 5) [5] (L.map tI) [x0, .sh (tI z), .own (L.map tI), .sh (.int (k : Nat)), x4, .no, x6, x7] = .ok ((L.filter (Rd.nz k)).map tI, [x0, .sh (tI z), .own (L.map tI), .sh (.int (k : Nat)), x4, .no, x6, x7]) := lc_filterL fun r hr kk => by
      by_cases q : at0 r k = 0
      · simp [gt r hr, q, Rd.nz, at0_rd]
      · have q' : (at0 r k == 0) = false := by simpa using q
        simp [gt r hr, q, q', Rd.nz, at0_rd]
    generalize (L.filter (Rd.nz k)).map tI = LN at *
    generalize L.map tI = LL at *
    simp [c__law_sides_rest_2, k0, k5]
  have e3 : ∀ x4, c__law_sides_rest_3 [x0, .sh (tI z), .own (L.map tI), .sh (.int (k : Nat)), x4, x5, x6, x7] = .ok (.own ((L.filter (Rd.zr k)).map tI), [x0, .sh (tI z), .own (L.map tI), .sh (.int (k : Nat)), x4, x5, x6, x7]) := fun x4 => by
    have k0 : lcL ⟨L.map tI, [(2, .own (L.map tI))]⟩ (stN 5) (bT (xPrim [.ex (xPrim [.va 5, .va 3] pIx), .ex (xC (.int 0))] pEq)) (xVar 5) [5] (L.map tI) [x0, .sh (tI z), .own (L.map tI), .sh (.int (k : Nat)), x4, .no, x6, x7] = .ok ((L.filter (Rd.zr k)).map tI, [x0, .sh (tI z), .own (L.map tI), .sh (.int (k : Nat)), x4, .no, x6, x7]) := lc_filterL fun r hr kk => by
      by_cases q : at0 r k = 0
      · simp [gt r hr, q, Rd.zr, at0_rd]
      · have q' : (at0 r k == 0) = false := by simpa using q
        simp [gt r hr, q, q', Rd.zr, at0_rd]
    generalize (L.filter (Rd.zr k)).map tI = LN at *
    generalize L.map tI = LL at *
    simp [c__law_sides_rest_3, k0, k5]
  simp only [srs] at ew
  have ahead : ∀ w, (sFor (conF 4) (stN 5) l__law_sides_rest_8) [x0, .sh (tI z), .own (O'.map tI), .sh (.int (k : Nat)), .own (S'.map tI), x5, x6, y7] = w → l__law_sides_rest_9 [x0, .sh (tI z), .own (L.map tI), .sh (.int (k : Nat)), x4, x5, x6, x7] = w := fun w hw => by
    rw [← hw]
    unfold l__law_sides_rest_9
    rw [seq_nx (ρ' := [x0, .sh (tI z), .own (L.map tI), .sh (.int (k : Nat)), .own ((L.filter (Rd.nz k)).map tI), x5, x6, x7]) (by rw [sSet_ap, e2]; rfl),
      seq_nx (ρ' := [x0, .sh (tI z), .own ((L.filter (Rd.zr k)).map tI), .sh (.int (k : Nat)), .own ((L.filter (Rd.nz k)).map tI), x5, x6, x7]) (by rw [sSet_ap, e3]; rfl),
      seq_nx (ρ' := [x0, .sh (tI z), .own (O'.map tI), .sh (.int (k : Nat)), .own (S'.map tI), x5, x6, y7]) (by exact ew)]
  rcases S' with _ | ⟨f, _ | ⟨g, S'⟩⟩
  · refine ⟨O', z, .sh (.lst []), x5, y7, k5, h.pass do' d.zr (by simp at cnt; omega) eq, ahead _ ?_⟩
    generalize O'.map tI = OO
    generalize tI z = ZZ
    simp [conF]
  · have fw := ds f (by simp)
    have f0 := d.nz f (by simp)
    have fc : (at0 f k).natAbs < 2 ^ 8000 := Nat.lt_of_le_of_lt (fw.2.at (by rw [fw.1]; exact hk)) (by omega)
    refine ⟨O', Rd.cut k f z, .sh (.lst [tI f]), .sh (tI f), y7, rfl, h.cut hk hm fw f0 do' d.zr (by simp at cnt; omega) eq hb, ahead _ ?_⟩
    have gz := at0_get z k (by rw [h.zl]; exact hk)
    have gf := at0_get f k (by rw [fw.1]; exact hk)
    have cd : CDv (at0 z k) (at0 f k) := ⟨f0, log_lt (by omega) fc f0⟩
    have zk : (at0 z k).natAbs < 2 ^ (60 + 6602 * k) := h.zb _ (Rd.at0_mem (by rw [h.zl]; exact hk))
    have qb : (-((at0 z k).fdiv (at0 f k))).natAbs < 2 ^ 100000 := by
      rw [Int.natAbs_neg]
      have h1 := Rd.fdiv_le (at0 z k) (at0 f k) f0
      have h2 : 2 ^ (60 + 6602 * k) * 2 ≤ 2 ^ 100000 := by rw [← Nat.pow_succ]; exact Nat.pow_le_pow_right (by omega) (by omega)
      have : 1 ≤ 2 ^ (60 + 6602 * k) := Nat.one_le_two_pow
      omega
    have ad := ladded_ev z f (-((at0 z k).fdiv (at0 f k))) fun b hb' => mul_okB qb (Nat.lt_of_le_of_lt (fw.2 b hb') (Nat.lt_of_lt_of_le hb (Nat.pow_le_pow_right (by omega) (by omega))))
    have ct : Rd.addL z f (-((at0 z k).fdiv (at0 f k))) = Rd.cut k f z := rfl
    rw [ct] at ad
    simp only [List.map_cons, List.map_nil]
    generalize tI (Rd.cut k f z) = CC at *
    generalize O'.map tI = OO at *
    simp only [tI] at *
    generalize f.map D.int = FF at *
    generalize z.map D.int = ZZ at *
    simp [conF, l__law_sides_rest_8, gz, gf, cd, ad]
  · have := d.one
    simp at this
theorem cols_ev (rs : List (List Int)) (n : Nat) (sd : SD) (hr : ∀ r ∈ rs, r.length = n) (hn : n ≤ 100) (hm : rs ≠ []) : c__law_sides_rest_1 [.sh (.lst (rs.map tI)), sd, .no, .no, .no, .no, .no, .no] = .ok (.own (((List.range n).map fun k => colL rs k).map tI), [.sh (.lst (rs.map tI)), sd, .no, .no, .no, .no, .no, .no]) := by
  have hr1 : rngOk (n : Int) := rgk (by omega)
  have hs : n ≤ sizeLine := Lw.sz (by omega)
  have inner : ∀ k : Nat, k < n → c__law_sides_rest_0 [.sh (.lst (rs.map tI)), sd, .no, .no, .no, .no, .sh (.int (k : Nat)), .no] = .ok (.own ((colL rs k).map D.int), [.sh (.lst (rs.map tI)), sd, .no, .no, .no, .no, .sh (.int (k : Nat)), .no]) := fun k hk => by
    have k0 : lcL ⟨rs.map tI, []⟩ (stN 5) bYes (xPrim [.va 5, .va 6] pIx) [5] (rs.map tI) [.sh (.lst (rs.map tI)), sd, .no, .no, .no, .no, .sh (.int (k : Nat)), .no] = .ok (rs.map fun r => D.int (at0 r k), [.sh (.lst (rs.map tI)), sd, .no, .no, .no, .no, .sh (.int (k : Nat)), .no]) := lc_mapL fun r hr' kk => by
      have g := at0_get r k (by rw [hr r hr']; exact hk)
      generalize rs.map tI = RS at *
      simp only [tI]
      generalize r.map D.int = RR at *
      simp [g]
    have e1 : (colL rs k).map D.int = rs.map fun r => D.int (at0 r k) := by unfold colL; rw [List.map_map]; rfl
    rw [e1]
    generalize (rs.map fun r => D.int (at0 r k)) = OUT at *
    generalize rs.map tI = RS at *
    simp [c__law_sides_rest_0, k0]
  have key : lcL ⟨(List.range n).map fun (k : Nat) => D.int k, []⟩ (stN 6) bYes (xPrim [.ex c__law_sides_rest_0] pTuple) [6] ((List.range n).map fun (k : Nat) => D.int k) [.sh (.lst (rs.map tI)), sd, .no, .no, .no, .no, .no, .no] = .ok ((List.range n).map fun k => tI (colL rs k), [.sh (.lst (rs.map tI)), sd, .no, .no, .no, .no, .no, .no]) := lc_mapL fun k hk kk => by
    have i := inner k (List.mem_range.mp hk)
    generalize rs.map tI = RS at *
    simp [i]
  obtain ⟨a, t, ea⟩ := List.exists_cons_of_ne_nil hm
  have a0 : atI (rs.map tI) 0 = some (tI a) := by rw [ea, List.map_cons]; exact atI_0 _ _
  have la : (a.map D.int).length = n := by rw [List.length_map, hr a (by rw [ea]; simp)]
  rw [List.map_map]
  have e1 : (List.range n).map (tI ∘ fun k => colL rs k) = (List.range n).map fun k => tI (colL rs k) := rfl
  rw [e1]
  generalize ((List.range n).map fun k => tI (colL rs k)) = OUT at *
  generalize rs.map tI = RS at *
  simp only [tI] at a0
  generalize a.map D.int = AA at *
  simp [c__law_sides_rest_1, a0, la, hr1, hs, key]
theorem srest_ev (rs : List (List Int)) (n : Nat) (sd : List Int) (hr : ∀ r ∈ rs, Rw n r) (n5 : n ≤ 5) (hm : rs.length ≤ 4) (hne : rs ≠ []) (hs : sd.length = rs.length) (hb : ∀ x ∈ sd, x.natAbs < 2 ^ 60) :
    ∃ z, f__law_sides_rest [.sh (.lst (rs.map tI)), .sh (tI sd)] = .ok (.sh (tI z), [.no, .no]) ∧ (nought z = true ↔ La.Sp ((List.range n).map fun k => colL rs k) (Rd.at0 sd)) := by
  have e1 := cols_ev rs n (.sh (tI sd)) (fun r h => (hr r h).1) (by omega) hne
  generalize hC : ((List.range n).map fun k => colL rs k) = C at *
  have s0 : SR0 C rs.length 0 sd C sd := by
    refine ⟨fun r h => ?_, by rw [← hC]; simpa using n5, fun r _ j hj => absurd hj (by omega), fun x => ⟨fun h => ⟨h, fun j hj => absurd hj (by omega)⟩, fun h => h.1⟩, hs, hb, ?_, fun _ j hj => absurd hj (by omega)⟩
    · rw [← hC] at h
      obtain ⟨k, hk, rfl⟩ := List.mem_map.mp h
      have hk := List.mem_range.mp hk
      refine ⟨by simp [colL], fun x hx => ?_⟩
      obtain ⟨r, h1, rfl⟩ := List.mem_map.mp hx
      exact (hr r h1).2.at (by rw [(hr r h1).1]; exact hk)
    · refine cast (congrArg (La.Sp C) (funext fun i => ?_)) (La.Sp.zero (S := C))
      omega
  obtain ⟨ρ', ⟨L, z, x3, x4, x5, x6, x7, rfl, _, h⟩, e⟩ := for_rgx (st := stN 3) (body := l__law_sides_rest_9) (n := rs.length) (g := fun (k : Nat) => D.int k) (ρ := [.sh (.lst (rs.map tI)), .sh (tI sd), .own (C.map tI), .no, .no, .no, .no, .no])
    (fun k ρ => ∃ L z x3 x4 x5 x6 x7, ρ = [.sh (.lst (rs.map tI)), .sh (tI z), .own (L.map tI), x3, x4, x5, x6, x7] ∧ keptSD (some x5) = x5 ∧ SR0 C rs.length k sd L z) (by
      rintro k _ hk ⟨L, z, x3, x4, x5, x6, x7, rfl, k5, h⟩
      obtain ⟨L', z', y4, y5, y7, k5', h', t⟩ := s_turn (.sh (.lst (rs.map tI))) hk hm x4 x5 x6 x7 h k5
      refine ⟨_, ⟨L', z', .sh (.int (k : Nat)), y4, y5, x6, y7, rfl, k5', h'⟩, fun kk => ?_⟩
      show (l__law_sides_rest_9 [.sh (.lst (rs.map tI)), .sh (tI z), .own (L.map tI), .sh (.int (k : Nat)), x4, x5, x6, x7]).bind (Fl.turn kk) = _
      rw [t]
      rfl) ⟨C, sd, .no, .no, .no, .no, .no, rfl, rfl, s0⟩
  have hr1 : rngOk (rs.length : Int) := rgk (by omega)
  have hs1 : rs.length ≤ sizeLine := Lw.sz (by omega)
  have lr : (rs.map tI).length = rs.length := by simp
  refine ⟨z, ?_, ⟨fun q => ?_, fun q => ?_⟩⟩
  · generalize C.map tI = CC at *
    generalize L.map tI = LL at *
    generalize rs.map tI = RS at *
    simp only [tI] at *
    generalize sd.map D.int = SS at *
    generalize z.map D.int = ZZ at *
    simp [-List.map_map, f__law_sides_rest, g__law_sides_rest, e1, lr, hr1, hs1, e]
  · have z0 := nought_zero q
    refine cast (congrArg (La.Sp C) (funext fun i => ?_)) h.zs
    rw [z0 i]
    omega
  · exact zero_nought fun i => by
      by_cases hi : i < rs.length
      · exact h.zm q i hi
      · exact La.at0_out (by rw [h.zl]; omega)
end Lw
end
section
namespace Lw
open PySem PySem.Spec PyProof.Rows L2 Wm
theorem col_at (G : List (List Int)) (k i : Nat) : Rd.at0 (colL G k) i = La.ent G i k := by
  unfold colL La.ent Rd.at0
  rw [List.getD_eq_getElem?_getD, List.getElem?_map, List.getD_eq_getElem?_getD (l := G)]
  cases G[i]? with
  | none => rfl
  | some r => rfl
abbrev colsL (G : List (List Int)) (n : Nat) : List (List Int) := (List.range n).map fun k => colL G k
theorem mk_at (G : List (List Int)) (n : Nat) (hG : ∀ r ∈ G, r.length = n) (v : List Int) (hv : v.length = n) (i : Nat) : Rd.at0 (mkL G v) i = Dt.sm n fun j => La.ent G i j * Rd.at0 v j := by
  by_cases hi : i < G.length
  · have e : Rd.at0 (mkL G v) i = dotL G[i] v := by
      unfold Rd.at0 mkL
      rw [List.getD_eq_getElem?_getD, List.getElem?_map, List.getElem?_eq_getElem hi]
      rfl
    rw [e, dot_sm (hG _ (List.getElem_mem hi)) hv]
    refine Dt.sm_congr fun j _ => ?_
    unfold La.ent
    rw [List.getD_eq_getElem?_getD, List.getElem?_eq_getElem hi]
    rfl
  · rw [La.at0_out (by simp [mkL]; omega), La.sm_none fun j _ => ?_]
    unfold La.ent
    rw [List.getD_eq_getElem?_getD, List.getElem?_eq_none (by omega)]
    show Rd.at0 [] j * _ = 0
    rw [La.at0_out (by simp)]
    omega
theorem list_eq {a b : List Int} (hl : a.length = b.length) (h : ∀ i, i < b.length → Rd.at0 a i = Rd.at0 b i) : a = b :=
  List.ext_getElem hl fun i h1 h2 => by
    have := h i h2
    unfold Rd.at0 at this
    rw [List.getD_eq_getElem?_getD, List.getElem?_eq_getElem h1, List.getD_eq_getElem?_getD, List.getElem?_eq_getElem h2] at this
    exact this
theorem some_mk {G : List (List Int)} {n : Nat} {side x : List Int} (hG : ∀ r ∈ G, r.length = n) (hs : side.length = G.length) (hx : x.length = n) (h : ∀ i, i < G.length → Rd.at0 side i = Dt.sm n fun j => La.ent G i j * Rd.at0 x j) : mkL G x = side :=
  list_eq (by simp [mkL, hs]) fun i hi => by rw [mk_at G n hG x hx, h i (by omega)]
theorem mk_sp {G : List (List Int)} {n : Nat} {side v : List Int} (hG : ∀ r ∈ G, r.length = n) (hv : v.length = n) (h : mkL G v = side) : La.Sp (colsL G n) (Rd.at0 side) := by
  have key : ∀ k, k ≤ n → La.Sp (colsL G n) fun i => Dt.sm k fun j => La.ent G i j * Rd.at0 v j := fun k => by
    induction k with
    | zero => intro _; exact .zero
    | succ k ih =>
      intro hk
      have := La.Sp.add (r := colL G k) (Rd.at0 v k) (ih (by omega)) (List.mem_map.mpr ⟨k, List.mem_range.mpr (by omega), rfl⟩)
      refine cast (congrArg (La.Sp (colsL G n)) (funext fun i => ?_)) this
      rw [col_at, Int.mul_comm]
      rfl
  refine cast (congrArg (La.Sp (colsL G n)) (funext fun i => ?_)) (key n (Nat.le_refl n))
  rw [← h, mk_at G n hG v hv]
theorem bar_sp {G : List (List Int)} {n : Nat} {side y : List Int} {M : Int} (hc : ∀ j, j < n → M ∣ La.dv G.length (Rd.at0 y) fun i => La.ent G i j) (hs : ¬ M ∣ La.dv G.length (Rd.at0 y) (Rd.at0 side)) : ¬ La.Sp (colsL G n) (Rd.at0 side) := fun h => hs (h.lin fun r hr => by
  obtain ⟨j, hj, rfl⟩ := List.mem_map.mp hr
  have := hc j (List.mem_range.mp hj)
  have e : Rd.at0 (colL G j) = fun i => La.ent G i j := funext fun i => col_at G j i
  rw [e]
  exact this)
theorem AnyOk.cases {G : List (List Int)} {n : Nat} {side : List Int} {d : D} (h : AnyOk G n side d) (hG : ∀ r ∈ G, r.length = n) (hs : side.length = G.length) :
    (∃ x : List Int, d = .tup [.str "some", tI x] ∧ x.length = n ∧ mkL G x = side ∧ La.Sp (colsL G n) (Rd.at0 side)) ∨ (∃ (M : Int) (y : List Int), d = .tup [.str "none", .tup [.int M, tI y]] ∧ 2 ≤ M ∧ y.length = G.length ∧ (∀ z ∈ y, 0 ≤ z ∧ z < M) ∧ (∀ j, j < n → M ∣ La.dv G.length (Rd.at0 y) fun i => La.ent G i j) ∧ (¬ M ∣ La.dv G.length (Rd.at0 y) (Rd.at0 side)) ∧ ¬ La.Sp (colsL G n) (Rd.at0 side)) := by
  cases h with
  | some x hx h =>
    have m := some_mk hG hs hx h
    exact .inl ⟨x, rfl, hx, m, mk_sp hG hx m⟩
  | none M y hM hMb hy hb hc hs' => exact .inr ⟨M, y, rfl, hM, hy, hb, hc, hs', bar_sp hc hs'⟩
theorem mk_rev (G : List (List Int)) (v : List Int) : mkL G.reverse v = (mkL G v).reverse := by
  unfold mkL
  rw [List.map_reverse]
end Lw
end
section
namespace Lw
open PySem PySem.Spec PyProof.Rows L2 Wm
theorem so_some : PyData.strOk (Str.ofString "some") = true := by decide +kernel
theorem so_none : PyData.strOk (Str.ofString "none") = true := by decide +kernel
theorem small64 {n : Nat} {rs : List (List Int)} (hr : ∀ r ∈ rs, Rw n r) : ∀ r ∈ rs, ∀ x ∈ r, x.natAbs < 2 ^ 64 := fun r h x hx => by
  have := (hr r h).2 x hx
  have : (1000 : Nat) < 2 ^ 64 := by decide
  omega
theorem lans_some {rs : List (List Int)} {n : Nat} {sd x : List Int} (hr : ∀ r ∈ rs, Rw n r) (hx : x.length = n) (hm : mkL rs x = sd) : f__law_right_answer [.sh (.lst (rs.map tI)), .sh (tI sd), .sh (.int n), .sh (.tup [.str "some", tI x])] = .ok (.sh (.bl true), [.no, .no, .no, .no]) := by
  have s2 : (2 : Nat) ≤ sizeLine := by decide
  have so1 := so_some
  have k0 : lcL ⟨rs.map tI, []⟩ (stN 9) bYes (xCall f__law_dot [.va 9, .va 5]) [9] (rs.map tI) [.sh (.lst (rs.map tI)), .sh (tI sd), .sh (.int n), .sh (.tup [.str "some", tI x]), .sh (.str "some"), .sh (tI x), .no, .no, .no, .no] = .ok (rs.map fun r => D.int (dotL r x), [.sh (.lst (rs.map tI)), .sh (tI sd), .sh (.int n), .sh (.tup [.str "some", tI x]), .sh (.str "some"), .sh (tI x), .no, .no, .no, .no]) := lc_mapL fun r h k => by
    have e := ldot_l r x (small64 hr r h)
    generalize rs.map tI = RS at *
    generalize tI sd = SS at *
    generalize tI x = XX at *
    generalize tI r = RR at *
    simp [e]
  have e2 : (rs.map fun r => D.int (dotL r x)) = sd.map D.int := by rw [← hm]; unfold mkL; rw [List.map_map]; rfl
  rw [e2] at k0
  have q1 := eqDs_ints sd sd
  have q1 : eqDs (sd.map D.int) (sd.map D.int) = true := by rw [q1]; simp
  have o1 := okNs_ints 58 sd
  have o2 := okNs_ints 59 sd
  have hx' : (x.map D.int).length = n := by simpa using hx
  simp only [tI] at *
  generalize rs.map (fun r => D.tup (r.map D.int)) = RS at *
  generalize sd.map D.int = SS at *
  generalize x.map D.int = XX at *
  subst hx'
  simp [f__law_right_answer, g__law_right_answer, s2, str_eq, so1, isB, okD, okN, okNs, c__law_right_answer_0, k0, q1, o1, o2]
theorem dv_dot {a b : List Int} (h : b.length = a.length) : dotL a b = La.dv a.length (Rd.at0 a) (Rd.at0 b) := dot_sm rfl h
theorem lans_none {rs : List (List Int)} {n : Nat} {sd y : List Int} {M : Int} (hr : ∀ r ∈ rs, Rw n r) (hn : n ≤ 100) (hs : sd.length = rs.length) (sb : ∀ x ∈ sd, x.natAbs < 2 ^ 64) (hM : 2 ≤ M) (hy : y.length = rs.length) (hb : ∀ z ∈ y, 0 ≤ z ∧ z < M) (hc : ∀ j, j < n → M ∣ La.dv rs.length (Rd.at0 y) fun i => La.ent rs i j) (hd : ¬ M ∣ La.dv rs.length (Rd.at0 y) (Rd.at0 sd)) : f__law_right_answer [.sh (.lst (rs.map tI)), .sh (tI sd), .sh (.int n), .sh (.tup [.str "none", .tup [.int M, tI y]])] = .ok (.sh (.bl true), [.no, .no, .no, .no]) := by
  have s2 : (2 : Nat) ≤ sizeLine := by decide
  have so1 := so_some
  have so2 := so_none
  have hr1 : rngOk (n : Int) := rgk (by omega)
  have hs1 : n ≤ sizeLine := Lw.sz (by omega)
  have hm : 0 < y.length := by
    rw [hy]
    rcases Nat.eq_zero_or_pos rs.length with q | q
    · rw [q] at hd
      exact absurd (Int.dvd_zero M) hd
    · exact q
  have mn := pMinX_tup y hm
  have mx := pMaxX_tup y hm
  have mb := hb _ (minL_spec y hm).1
  have xb := hb _ (maxL_spec y hm).1
  have M0 : M ≠ 0 := by omega
  have cb : ∀ k, ∀ z ∈ colL rs k, z.natAbs < 2 ^ 64 := fun k z hz => by
    obtain ⟨r, h, rfl⟩ := List.mem_map.mp hz
    by_cases q : k < r.length
    · exact small64 hr r h _ (Rd.at0_mem q)
    · have : at0 r k = 0 := La.at0_out (by omega)
      rw [this]; decide
  have cd : ∀ k, k < n → (dotL y (colL rs k)).fmod M = 0 := fun k hk => by
    rw [dv_dot (by simp [colL, hy]), hy, La.dv_congr (v := fun i => La.ent rs i k) fun i _ => col_at rs k i]
    exact Int.fmod_eq_zero_of_dvd (hc k hk)
  have sdd : (dotL y sd).fmod M ≠ 0 := by
    rw [dv_dot (by rw [hs, hy]), hy]
    exact fun z => hd (Int.dvd_of_fmod_eq_zero z)
  let st (x8 : SD) : List SD := [.sh (.lst (rs.map tI)), .sh (tI sd), .sh (.int n), .sh (.tup [.str "none", .tup [.int M, tI y]]), .sh (.str "none"), .sh (.tup [.int M, tI y]), .sh (.int M), .sh (tI y), x8, .no]
  have inner : ∀ k : Nat, k < n → c__law_right_answer_1 (st (.sh (.int (k : Nat)))) = .ok (.own ((colL rs k).map D.int), st (.sh (.int (k : Nat)))) := fun k hk => by
    have k0 : lcL ⟨rs.map tI, []⟩ (stN 9) bYes (xPrim [.va 9, .va 8] pIx) [9] (rs.map tI) (st (.sh (.int (k : Nat)))) = .ok (rs.map fun r => D.int (at0 r k), st (.sh (.int (k : Nat)))) := lc_mapL fun r h kk => by
      have g := at0_get r k (by rw [(hr r h).1]; exact hk)
      simp only [st, tI] at *
      generalize rs.map (fun r => D.tup (r.map D.int)) = RS at *
      generalize sd.map D.int = SS at *
      generalize y.map D.int = YY at *
      generalize r.map D.int = RR at *
      simp [g]
    have e1 : (colL rs k).map D.int = rs.map fun r => D.int (at0 r k) := by unfold colL; rw [List.map_map]; rfl
    rw [e1]
    simp only [st, tI] at *
    generalize (rs.map fun r => D.int (at0 r k)) = OUT at *
    generalize rs.map (fun r => D.tup (r.map D.int)) = RS at *
    generalize sd.map D.int = SS at *
    generalize y.map D.int = YY at *
    simp [c__law_right_answer_1, k0]
  have key : lcL ⟨(List.range n).map fun (k : Nat) => D.int k, []⟩ (stN 8) (bT (xPrim [.ex (xPrim [.ex (xCall f__law_dot [.va 7, .ex c__law_right_answer_1]), .va 6] pMod), .ex (xC (.int 0))] pNe)) (xVar 8) [8] ((List.range n).map fun (k : Nat) => D.int k) (st .no) = .ok (((List.range n).filter fun _ => false).map fun (k : Nat) => D.int k, st .no) := lc_filterL fun k hk kk => by
    have hk := List.mem_range.mp hk
    have i := inner k hk
    have e := ldot_rl y (colL rs k) (cb k)
    have c := cd k hk
    simp only [st, tI] at *
    generalize (colL rs k).map D.int = CC at *
    generalize rs.map (fun r => D.tup (r.map D.int)) = RS at *
    generalize sd.map D.int = SS at *
    generalize y.map D.int = YY at *
    simp [i, e, M0, c]
  have ef : ((List.range n).filter fun _ => false).map (fun (k : Nat) => D.int k) = [] := by simp
  rw [ef] at key
  have ed := ldot_r y sd sb
  have q0 : ((dotL y sd).fmod M == 0) = false := by simpa using sdd
  have ly : (y.map D.int).length = (rs.map tI).length := by simp [hy]
  have m1 : ¬ M < 2 := by omega
  have m2 : ¬ minL y < 0 := by omega
  have m3 : ¬ M ≤ maxL y := by omega
  simp only [st, tI] at *
  generalize rs.map (fun r => D.tup (r.map D.int)) = RS at *
  generalize sd.map D.int = SS at *
  generalize y.map D.int = YY at *
  simp [f__law_right_answer, g__law_right_answer, s2, str_eq, so1, so2, okD, okN, okNs, b__law_right_answer_0, ly, mn, mx, m1, m2, m3, c__law_right_answer_2, hr1, hs1, key, ed, M0, q0]
end Lw
end
section
namespace Lw
open PySem PySem.Spec PyProof.Rows L2 Wm
inductive An (rs : List (List Int)) (n : Nat) (sd : List Int) : Bool → D → Prop
  | some (x : List Int) (hx : x.length = n) (hm : mkL rs x = sd) (hp : La.Sp (colsL rs n) (Rd.at0 sd)) : An rs n sd true (tI x)
  | none (M : Int) (y : List Int) (hM : 2 ≤ M) (hy : y.length = rs.length) (hb : ∀ z ∈ y, 0 ≤ z ∧ z < M) (hc : ∀ j, j < n → M ∣ La.dv rs.length (Rd.at0 y) fun i => La.ent rs i j) (hd : ¬ M ∣ La.dv rs.length (Rd.at0 y) (Rd.at0 sd)) (hp : ¬ La.Sp (colsL rs n) (Rd.at0 sd)) : An rs n sd false (.tup [.int M, tI y])
def wdS (s : Bool) : Str := if s then Str.ofString "some" else Str.ofString "none"
theorem An.of {rs : List (List Int)} {n : Nat} {sd : List Int} {d : D} (h : AnyOk rs n sd d) (hr : ∀ r ∈ rs, r.length = n) (hs : sd.length = rs.length) : ∃ s t, d = .tup [.str (wdS s), t] ∧ An rs n sd s t := by
  rcases h.cases hr hs with ⟨x, rfl, h1, h2, h3⟩ | ⟨M, y, rfl, h1, h2, h3, h4, h5, h6⟩
  · exact ⟨true, _, rfl, .some x h1 h2 h3⟩
  · exact ⟨false, _, rfl, .none M y h1 h2 h3 h4 h5 h6⟩
theorem An.sp {rs : List (List Int)} {n : Nat} {sd : List Int} {s : Bool} {t : D} (h : An rs n sd s t) : s = true ↔ La.Sp (colsL rs n) (Rd.at0 sd) := by
  cases h with
  | some x hx hm hp => exact ⟨fun _ => hp, fun _ => rfl⟩
  | none M y hM hy hb hc hd hp => exact ⟨fun q => (by cases q), fun q => absurd q hp⟩
theorem An.mk {rs : List (List Int)} {n : Nat} {sd : List Int} {s : Bool} {t : D} (h : An rs n sd s t) (hr : ∀ r ∈ rs, r.length = n) : s = true ↔ ∃ v : List Int, v.length = n ∧ mkL rs v = sd := by
  cases h with
  | some x hx hm hp => exact ⟨fun _ => ⟨x, hx, hm⟩, fun _ => rfl⟩
  | none M y hM hy hb hc hd hp => exact ⟨fun q => (by cases q), fun ⟨v, hv, q⟩ => absurd (mk_sp hr hv q) hp⟩
theorem An.ok {rs : List (List Int)} {n : Nat} {sd : List Int} {s : Bool} {t : D} (h : An rs n sd s t) (k : Nat) : okN (k + 3) t = true := by
  cases h with
  | some x hx hm hp => exact okNs_ints _ x
  | none M y hM hy hb hc hd hp =>
    show okNs (k + 2) [.int M, tI y] = true
    have := okNs_ints (k + 1) y
    simp [okN, okNs, this]
theorem An.eq {rs : List (List Int)} {n : Nat} {sd : List Int} {s : Bool} {t : D} (h : An rs n sd s t) : eqD t t = true := by
  cases h with
  | some x hx hm hp => show eqDs _ _ = true; rw [eqDs_ints]; simp
  | none M y hM hy hb hc hd hp =>
    have : eqDs (y.map D.int) (y.map D.int) = true := by rw [eqDs_ints]; simp
    simp [this]
theorem An.due {rs : List (List Int)} {n : Nat} {sd : List Int} {s : Bool} {t : D} (h : An rs n sd s t) (hr : ∀ r ∈ rs, Rw n r) (hn : n ≤ 100) (hs : sd.length = rs.length) (sb : ∀ x ∈ sd, x.natAbs < 2 ^ 64) : f__law_right_answer [.sh (.lst (rs.map tI)), .sh (tI sd), .sh (.int n), .sh (.tup [.str (wdS s), t])] = .ok (.sh (.bl true), [.no, .no, .no, .no]) := by
  cases h with
  | some x hx hm hp => exact lans_some hr hx hm
  | none M y hM hy hb hc hd hp => exact lans_none hr hn hs sb hM hy hb hc hd
theorem An.chk {rs : List (List Int)} {n : Nat} {sd : List Int} {s : Bool} {t : D} (h : An rs n sd s t) (hr : ∀ r ∈ rs, Rw n r) (hn : n ≤ 100) (hs : sd.length = rs.length) (sb : ∀ x ∈ sd, x.natAbs < 2 ^ 64) : f_check_any_way [.sh (.lst (rs.map tI)), .sh (.tup [.str (wdS s), t]), .sh (tI sd), .sh (.int n)] = .ok (.sh .non, [.no, .no, .no, .no]) := by
  have hl : ∀ r ∈ rs, r.length = n := fun r h => (hr r h).1
  cases h with
  | some x hx hm hp =>
    have e := some_ev false rs sd x n hl hs hx (small64 hr)
    rw [(off_none rs sd x hs.symm).mpr (by rw [hm]; simp)] at e
    exact e
  | none M y hM hy hb hc hd hp =>
    have cb : ∀ k, ∀ z ∈ colL rs k, z.natAbs < 2 ^ 64 := fun k z hz => by
      obtain ⟨r, h, rfl⟩ := List.mem_map.mp hz
      by_cases q : k < r.length
      · exact small64 hr r h _ (Rd.at0_mem q)
      · have : at0 r k = 0 := La.at0_out (by omega)
        rw [this]; decide
    have ba : barAt rs sd n M y = Option.none := by
      unfold barAt
      have e1 : (List.range n).find? (fun k => !((dotL y (colL rs k)).fmod M == 0)) = Option.none := by
        rw [List.find?_eq_none]
        intro k hk
        have hk := List.mem_range.mp hk
        rw [dv_dot (by simp [colL, hy]), hy, La.dv_congr (v := fun i => La.ent rs i k) fun i _ => col_at rs k i]
        simp [Int.fmod_eq_zero_of_dvd (hc k hk)]
      rw [e1]
      have e2 : (dotL y sd).fmod M ≠ 0 := by
        rw [dv_dot (by rw [hs, hy]), hy]
        exact fun z => hd (Int.dvd_of_fmod_eq_zero z)
      simp [e2]
    have e := chkbar_in false rs sd n M y hl (by omega) hM hy (List.all_eq_true.mpr fun z hz => by simpa using hb z hz) cb sb
    rw [ba] at e
    exact ans_none_ok false rs sd n hl hs _ e
theorem wd_eq (a b : Bool) : (wdS a == wdS b) = (a == b) := by
  cases a <;> cases b <;> decide +kernel
theorem wd_so (a : Bool) : PyData.strOk (wdS a) = true := by
  cases a
  · exact so_none
  · exact so_some
theorem ans_ev {rs : List (List Int)} {n : Nat} {sd : List Int} (hr : ∀ r ∈ rs, Rw n r) (hm : rs.length ≤ 4) (hn : n ≤ 5) (hs : sd.length = rs.length) (sb : ∀ x ∈ sd, x.natAbs < 2 ^ 60) : ∃ s t, f_any_way [.sh (.lst (rs.map tI)), .sh (tI sd), .sh (.int n)] = .ok (.sh (.tup [.str (wdS s), t]), [.no, .no, .no]) ∧ An rs n sd s t := by
  obtain ⟨d, e, h⟩ := any_ev false rs n sd hr hm (by omega) hs fun x hx => Nat.lt_of_lt_of_le (sb x hx) (Nat.pow_le_pow_right (by omega) (by omega))
  obtain ⟨s, t, rfl, a⟩ := An.of h (fun r h => (hr r h).1) hs
  exact ⟨s, t, e, a⟩
end Lw
end
section
namespace Lw
open PySem PySem.Spec PyProof.Rows L2 Wm
theorem eqDs_self : ∀ rs : List (List Int), eqDs (rs.map tI) (rs.map tI) = true
  | [] => rfl
  | r :: rs => by
    have e : eqDs (r.map D.int) (r.map D.int) = true := by rw [eqDs_ints]; simp
    simp only [List.map_cons, eqDs_cons, eqDs_self rs]
    simp [e]
theorem nn_non : pNotN [.non, .non] = .ok (.sh (.bl false)) := rfl
theorem nn_str (s : Str) : pNotN [.str s, .non] = .ok (.sh (.bl true)) := rfl
theorem Wld.s64 {rs : List (List Int)} {n : Nat} {sd : List Int} {wd : D} (h : Wld rs n sd wd) : ∀ x ∈ sd, x.natAbs < 2 ^ 64 := fun x hx => Nat.lt_of_lt_of_le (h.sb x hx) (Nat.pow_le_pow_right (by omega) (by omega))
abbrev gsL (w : Wl) (rs : List (List Int)) (n : Nat) (sd : List Int) (wd : D) (s : Bool) (t : D) : List SD := [.byr (wl w), .sh (.lst (rs.map tI)), .sh (.tup [.str (wdS s), t]), .sh (.lst (rs.map tI)), .sh (tI sd), .sh (.int n), .sh wd]
section
variable {rs : List (List Int)} {n : Nat} {sd : List Int} {wd : D} {s : Bool} {t : D} (h : Wld rs n sd wd) (a : An rs n sd s t) (w : Wl)
include h a
theorem r0_ev : b__law_right_0 (gsL w rs n sd wd s t) = .ok (false, gsL w rs n sd wd s t) := by
  have s2 : (2 : Nat) ≤ sizeLine := by decide
  have ok := okNs_rows 58 rs
  have es : eqDs (rs.map tI) (rs.map tI) = true := eqDs_self rs
  simp only [gsL]
  generalize rs.map tI = RS at *
  generalize tI sd = SS at *
  simp [b__law_right_0, isB, ok, es]
theorem r1_ev : b__law_right_1 (gsL w rs n sd wd s t) = .ok (false, gsL w rs n sd wd s t) := by
  have e := a.due h.rw (by have := h.n5; omega) h.sl h.s64
  have so := wd_so s
  have so1 := so_some
  rcases h.wd with rfl | ⟨rfl, v, hv, hsd⟩
  · simp only [gsL]
    generalize rs.map tI = RS at *
    generalize tI sd = SS at *
    simp [b__law_right_1, e, nn_non]
  · have q : s = true := (a.mk fun r hr => (h.rw r hr).1).mpr ⟨v, hv, hsd.symm⟩
    subst q
    simp only [gsL]
    simp only [wdS, if_true] at *
    generalize rs.map tI = RS at *
    generalize tI sd = SS at *
    simp [b__law_right_1, e, str_eq, so1, nn_str]
theorem r2_ev : b__law_right_2 (gsL w rs n sd wd s t) = .ok (false, gsL w rs n sd wd s t) := by
  have ok := okNs_rows 58 rs
  have so := wd_so s
  have so1 := so_some
  have we := wd_eq s true
  by_cases ne : rs = []
  · have nn : eqDs (rs.map tI) [] = true := by rw [ne]; rfl
    simp only [gsL]
    generalize rs.map tI = RS at *
    generalize tI sd = SS at *
    simp [b__law_right_2, ok, nn]
  · have nn : eqDs (rs.map tI) [] = false := by
      cases rs with
      | nil => exact absurd rfl ne
      | cons r q => rfl
    obtain ⟨z, ez, iz⟩ := srest_ev rs n sd h.rw h.n5 h.cnt ne h.sl h.sb
    have az := any_nought z
    have q : nought z = s := by
      have := a.sp
      rw [Bool.eq_iff_iff]
      exact iz.trans this.symm
    rw [q] at az
    have wS : wdS true = Str.ofString "some" := rfl
    rw [← wS] at so1
    have eqw : ∀ (x : Str), (x == Str.ofString "some") = (x == wdS true) := fun x => rfl
    simp only [gsL]
    generalize rs.map tI = RS at *
    generalize tI sd = SS at *
    generalize tI z = ZZ at *
    unfold b__law_right_2
    rw [← wS]
    cases s with
    | false =>
      generalize wdS true = W1 at *
      generalize wdS false = W0 at *
      simp [ok, nn, ez, az, str_eq, so, so1, we]
    | true =>
      generalize wdS true = W1 at *
      simp [ok, nn, ez, az, str_eq, so, so1, we]
theorem r3_ev : b__law_right_3 (gsL w rs n sd wd s t) = .ok (false, gsL w rs n sd wd s t) := by
  have e := a.chk h.rw (by have := h.n5; omega) h.sl h.s64
  simp only [gsL]
  generalize rs.map tI = RS at *
  generalize tI sd = SS at *
  simp [b__law_right_3, e, nn_non]
theorem r4_ev : b__law_right_4 (gsL w rs n sd wd s t) = .ok (false, gsL w rs n sd wd s t) := by
  obtain ⟨s', t', e, a'⟩ := ans_ev (rs := rs.reverse) (n := n) (sd := sd.reverse) (fun r hr => h.rw r (List.mem_reverse.mp hr)) (by simpa using h.cnt) h.n5 (by simpa using h.sl) (fun x hx => h.sb x (List.mem_reverse.mp hx))
  have q : s' = s := by
    rw [Bool.eq_iff_iff, a'.mk (fun r hr => (h.rw r (List.mem_reverse.mp hr)).1), a.mk (fun r hr => (h.rw r hr).1)]
    refine ⟨fun ⟨v, hv, hm⟩ => ⟨v, hv, ?_⟩, fun ⟨v, hv, hm⟩ => ⟨v, hv, ?_⟩⟩
    · rw [mk_rev] at hm
      have := congrArg List.reverse hm
      simpa using this
    · rw [mk_rev, hm]
  subst q
  have so := wd_so s'
  have we := wd_eq s' s'
  have e1 : (rs.map tI).reverse = rs.reverse.map tI := by rw [List.map_reverse]
  have e2 : (sd.map D.int).reverse = sd.reverse.map D.int := by rw [List.map_reverse]
  simp only [tI] at *
  rw [← e1, ← e2] at e
  simp only [gsL, tI]
  generalize rs.map (fun r => D.tup (r.map D.int)) = RS at *
  generalize sd.map D.int = SS at *
  generalize wdS s' = W0 at *
  simp [b__law_right_4, e, str_eq, so, we]
end
theorem right_ev (w : Wl) : ∃ w', f__law_right [.byr (wl w)] = .ok (.sh (.bl true), [.byr (wl w')]) := by
  obtain ⟨rs, n, sd, wd, w1, e1, h⟩ := built_ev w
  obtain ⟨s, t, e2, a⟩ := ans_ev h.rw h.cnt h.n5 h.sl h.sb
  have b0 := r0_ev h a w1
  have b1 := r1_ev h a w1
  have b2 := r2_ev h a w1
  have b3 := r3_ev h a w1
  have b4 := r4_ev h a w1
  have so := wd_so s
  have we := wd_eq s s
  have okt := a.ok 56
  have eqt := a.eq
  refine ⟨w1, ?_⟩
  unfold f__law_right
  rw [bodyF_ap]
  unfold g__law_right
  simp only [List.length_cons, List.length_nil, Nat.zero_add, Nat.reduceSub, Nat.reduceAdd, List.replicate, List.cons_append, List.nil_append]
  rw [seq_nx (ρ' := [.byr (wl w1), .no, .no, .sh (.lst (rs.map tI)), .sh (tI sd), .sh (.int n), .sh wd]) (by
    generalize rs.map tI = RS at *
    generalize tI sd = SS at *
    simp [e1])]
  rw [seq_nx (ρ' := [.byr (wl w1), .own (rs.map tI), .no, .sh (.lst (rs.map tI)), .sh (tI sd), .sh (.int n), .sh wd]) (by
    generalize rs.map tI = RS at *
    generalize tI sd = SS at *
    simp)]
  rw [seq_nx (ρ' := gsL w1 rs n sd wd s t) (by
    simp only [gsL]
    generalize rs.map tI = RS at *
    generalize tI sd = SS at *
    simp [e2])]
  rw [seq_nx (ρ' := gsL w1 rs n sd wd s t) (by rw [sIf_ap, b0]; rfl)]
  rw [seq_nx (ρ' := gsL w1 rs n sd wd s t) (by rw [sIf_ap, b1]; rfl)]
  rw [seq_nx (ρ' := gsL w1 rs n sd wd s t) (by rw [sIf_ap, b2]; rfl)]
  rw [seq_nx (ρ' := gsL w1 rs n sd wd s t) (by rw [sIf_ap, b3]; rfl)]
  rw [seq_nx (ρ' := gsL w1 rs n sd wd s t) (by rw [sIf_ap, b4]; rfl)]
  simp only [gsL]
  generalize rs.map tI = RS at *
  generalize tI sd = SS at *
  generalize wdS s = W0 at *
  simp [e2, str_eq, so, we, okt, eqt, okN, okNs]
end Lw
end
section
namespace Lw
open PySem PySem.Spec PyProof.Rows L2 Wm
theorem cells_law (ns : List Int) : ∀ (ds : List (Int × Nat)) (x1 x2 : SD), (∀ p ∈ ds, p.2 ≤ 100) → ∃ x1' x2', forL (stT [1, 2]) l_law_0 (ds.map fun p => D.tup [.int (p.2 : Nat), .int p.1]) [.sh (.scr ns), x1, x2] = .ok (.nx [.sh (.scr ns), x1', x2'])
  | [], x2, x3, _ => ⟨x2, x3, rfl⟩
  | (c, i) :: ds, x2, x3, h => by
    obtain ⟨x2', x3', e⟩ := cells_law ns ds (.sh (.int (i : Nat))) (.sh (.int c)) fun p hp => h p (List.mem_cons_of_mem _ hp)
    refine ⟨x2', x3', ?_⟩
    have hp : CPow 10 18 := by decide
    have k1 : IntMulOk c (if 1000000000000000000 ≤ c then 1 else 0) := mul_okR (by split <;> decide)
    have k2 : ∀ y, IntMulOk 7919 y := fun y => mul_okL (by decide)
    have hs3 : (3 : Nat) ≤ sizeLine := by decide
    have rv := fun a b => right_ev ⟨a, b, 0⟩
    obtain ⟨W, rv⟩ : ∃ W : Int → Int → Wl, ∀ a b, f__law_right [.byr [.int a, .int b, .int 0]] = .ok (.sh (.bl true), [.byr (wl (W a b))]) := ⟨fun a b => Classical.choose (rv a b), fun a b => Classical.choose_spec (rv a b)⟩
    rw [← e, List.map_cons, forL_cons]
    simp [l_law_0, b_law_0, hp, pMul_int, k1, k2, hs3, rv]
theorem two_ev (a : Int) (ha : a.natAbs ≤ 10) : ∃ s t, f_any_way [.sh (.lst [.tup [.int 2, .int 4]]), .sh (.tup [.int a]), .sh (.int 2)] = .ok (.sh (.tup [.str (wdS s), t]), [.no, .no, .no]) ∧ (s = true ↔ ∃ v : List Int, v.length = 2 ∧ mkL [[2, 4]] v = [a]) := by
  have hr : ∀ r ∈ [[(2 : Int), 4]], Rw 2 r := fun r h => by
    have : r = [2, 4] := by simpa using h
    subst this
    exact ⟨rfl, by intro x hx; simp at hx; omega⟩
  obtain ⟨s, t, e, an⟩ := ans_ev (rs := [[2, 4]]) (n := 2) (sd := [a]) hr (by decide) (by decide) rfl (fun x hx => by
    have : x = a := by simpa using hx
    subst this
    have : (10 : Nat) < 2 ^ 60 := by decide
    omega)
  exact ⟨s, t, e, an.mk fun r h => (hr r h).1⟩
theorem last_none : ∃ t, f_any_way [.sh (.lst [.tup [.int 2, .int 4]]), .sh (.tup [.int 3]), .sh (.int 2)] = .ok (.sh (.tup [.str (wdS false), t]), [.no, .no, .no]) := by
  obtain ⟨s, t, e, i⟩ := two_ev 3 (by decide)
  cases s with
  | false => exact ⟨t, e⟩
  | true =>
    obtain ⟨v, hv, hm⟩ := i.mp rfl
    match v, hv with
    | [x, y], _ =>
      have hm : [2 * x + (4 * y + 0)] = [(3 : Int)] := by simpa [mkL, dotL] using hm
      injection hm with hm
      omega
theorem last_some : ∃ t, f_any_way [.sh (.lst [.tup [.int 2, .int 4]]), .sh (.tup [.int 6]), .sh (.int 2)] = .ok (.sh (.tup [.str (wdS true), t]), [.no, .no, .no]) := by
  obtain ⟨s, t, e, i⟩ := two_ev 6 (by decide)
  have : s = true := i.mpr ⟨[3, 0], rfl, by decide⟩
  subst this
  exact ⟨t, e⟩
theorem law_true (ns : List Int) (hl : ns.length ≤ 63) : ∃ ρ, f_law [.sh (.scr ns)] = .ok (.sh (.bl true), ρ) := by
  have hs1 : (1 : Nat) ≤ sizeLine := by decide
  have hs2 : (2 : Nat) ≤ sizeLine := by decide
  have hs3 : (3 : Nat) ≤ sizeLine := by decide
  have hsn : ns.length + 1 ≤ sizeLine := Lw.sz (by omega)
  have hcut : pSlHi [.lst (ns.map D.int ++ [.int 0]), .int 8] = .ok (.own (((ns ++ [0]).take 8).map D.int)) := by
    rw [slHi_lst _ _ (by omega)]
    simp
  have hen : enumD (((ns ++ [0]).take 8).map D.int) = (((ns ++ [0]).take 8).zipIdx).map (fun (p : Int × Nat) => D.tup [.int (p.2 : Nat), .int p.1]) := enum_map _
  obtain ⟨x2, x3, e⟩ := cells_law ns ((ns ++ [0]).take 8).zipIdx .no .no (fun p hp => by
    have := (List.mem_zipIdx_iff_getElem?.mp hp)
    have := (List.getElem?_eq_some_iff.mp this).1
    simp at this
    omega)
  obtain ⟨t1, e1⟩ := last_none
  obtain ⟨t2, e2⟩ := last_some
  have so0 : PyData.strOk (wdS false) = true := so_none
  have so1 : PyData.strOk (wdS true) = true := so_some
  have w0 : Str.ofString "none" = wdS false := rfl
  have w1 : Str.ofString "some" = wdS true := rfl
  refine ⟨[.no], ?_⟩
  unfold f_law g_law
  rw [w0, w1]
  generalize wdS true = W1 at *
  generalize wdS false = W0 at *
  simp [-List.map_take, hs1, hs2, hs3, hsn, hcut, hen, e, e1, e2, str_eq, so0, so1]
end Lw
end
section
namespace Lw
open PySem PySem.Spec PyProof.Rows L2 Wm
abbrev P : Program := PySem.Challenge.rw_waymoves_k02_whole_any_way_or_a_bar.prog
theorem all_mk {w : World} {K : PySem.W.Frag} {h : Heap} {mg : Str → Option Value} {fa : Addr} (LT : ∀ ns : List Int, ns.length ≤ 63 → ∃ ρ, f_law [.sh (.scr ns)] = .ok (.sh (.bl true), ρ)) (X : K.In h) (G : h.Ns mainGlobals mg) (hfa : mg "law" = some (.ref fa))
    {x0 : Addr} {oc0 kV0 dc0 pm0 cd0 ct0 : Value} {od0 an0 : Option Addr} {sl0 : Array (Option Value)}
    {x1 : Addr} {oc1 kV1 dc1 pm1 cd1 ct1 : Value} {od1 an1 : Option Addr} {sl1 : Array (Option Value)}
    {x2 : Addr} {oc2 kV2 dc2 pm2 cd2 ct2 : Value} {od2 an2 : Option Addr} {sl2 : Array (Option Value)}
    {x3 : Addr} {oc3 kV3 dc3 pm3 cd3 ct3 : Value} {od3 an3 : Option Addr} {sl3 : Array (Option Value)}
    {x4 : Addr} {oc4 kV4 dc4 pm4 cd4 ct4 : Value} {od4 an4 : Option Addr} {sl4 : Array (Option Value)}
    {x5 : Addr} {oc5 kV5 dc5 pm5 cd5 ct5 : Value} {od5 an5 : Option Addr} {sl5 : Array (Option Value)}
    {x6 : Addr} {oc6 kV6 dc6 pm6 cd6 ct6 : Value} {od6 an6 : Option Addr} {sl6 : Array (Option Value)}
    {x7 : Addr} {oc7 kV7 dc7 pm7 cd7 ct7 : Value} {od7 an7 : Option Addr} {sl7 : Array (Option Value)}
    {x8 : Addr} {oc8 kV8 dc8 pm8 cd8 ct8 : Value} {od8 an8 : Option Addr} {sl8 : Array (Option Value)}
    {x9 Dk9 : Addr} {oc9  dc9 pm9 cd9 ct9 : Value} {od9 an9 : Option Addr} {sl9 : Array (Option Value)}
    {t9_many : Tok}
    {x10 : Addr} {oc10 kV10 dc10 pm10 cd10 ct10 : Value} {od10 an10 : Option Addr} {sl10 : Array (Option Value)}
    {x11 : Addr} {oc11 kV11 dc11 pm11 cd11 ct11 : Value} {od11 an11 : Option Addr} {sl11 : Array (Option Value)}
    {x12 : Addr} {oc12 kV12 dc12 pm12 cd12 ct12 : Value} {od12 an12 : Option Addr} {sl12 : Array (Option Value)}
    {x13 : Addr} {oc13 kV13 dc13 pm13 cd13 ct13 : Value} {od13 an13 : Option Addr} {sl13 : Array (Option Value)}
    {x14 : Addr} {oc14 kV14 dc14 pm14 cd14 ct14 : Value} {od14 an14 : Option Addr} {sl14 : Array (Option Value)}
    {x15 : Addr} {oc15 kV15 dc15 pm15 cd15 ct15 : Value} {od15 an15 : Option Addr} {sl15 : Array (Option Value)}
    {x16 : Addr} {oc16 kV16 dc16 pm16 cd16 ct16 : Value} {od16 an16 : Option Addr} {sl16 : Array (Option Value)}
    {x17 : Addr} {oc17 kV17 dc17 pm17 cd17 ct17 : Value} {od17 an17 : Option Addr} {sl17 : Array (Option Value)}
    {x18 : Addr} {oc18 kV18 dc18 pm18 cd18 ct18 : Value} {od18 an18 : Option Addr} {sl18 : Array (Option Value)}
    {x19 : Addr} {oc19 kV19 dc19 pm19 cd19 ct19 : Value} {od19 an19 : Option Addr} {sl19 : Array (Option Value)}
    {x20 : Addr} {oc20 kV20 dc20 pm20 cd20 ct20 : Value} {od20 an20 : Option Addr} {sl20 : Array (Option Value)}
    {x21 : Addr} {oc21 kV21 dc21 pm21 cd21 ct21 : Value} {od21 an21 : Option Addr} {sl21 : Array (Option Value)}
    {x22 : Addr} {oc22 kV22 dc22 pm22 cd22 ct22 : Value} {od22 an22 : Option Addr} {sl22 : Array (Option Value)}
    {x23 : Addr} {oc23 kV23 dc23 pm23 cd23 ct23 : Value} {od23 an23 : Option Addr} {sl23 : Array (Option Value)}
    {x24 : Addr} {oc24 kV24 dc24 pm24  ct24 : Value} {od24 an24 : Option Addr} {sl24 : Array (Option Value)}
    {cc24 pp24 : Addr} {odc24 : Option Addr} {vsc24 : Array Value} {slc24 : Array (Option Value)}
    {x25 : Addr} {oc25 kV25 dc25 pm25 cd25 ct25 : Value} {od25 an25 : Option Addr} {sl25 : Array (Option Value)}
    {x26 : Addr} {oc26 kV26 dc26 pm26 cd26 ct26 : Value} {od26 an26 : Option Addr} {sl26 : Array (Option Value)}
    {CW : Addr}
    {C0 fI0 NN0 : Addr} {nm0 qq0 : Str} {bs0 sub0 : List Value} {sn0 : List Str} {ab0 : Bool} {col0 : Option Bool} {dd0 : Option Addr} {ma0 mb0 mc0 md0 me0 : Option Value} {ioc0 ikV0 idc0 ipm0 icd0 ict0 : Value} {iod0 ian0 : Option Addr} {isl0 : Array (Option Value)}
    {C1 fI1 NN1 : Addr} {nm1 qq1 : Str} {bs1 sub1 : List Value} {sn1 : List Str} {ab1 : Bool} {col1 : Option Bool} {dd1 : Option Addr} {ma1 mb1 mc1 md1 me1 : Option Value} {ioc1 ikV1 idc1 ipm1 icd1 ict1 : Value} {iod1 ian1 : Option Addr} {isl1 : Array (Option Value)}
    (a0 : PySem.W.nsIn K mainGlobals "_law_draw" = some (some (.ref x0)))
    (l0 : K.lookup x0 = some ⟨oc0, od0, .func (PySem.W.fnOf "_law_draw" "_law_draw" (defArgs s__law_draw) (defBody s__law_draw) (defScope s__law_draw) .none kV0 dc0 pm0 an0 cd0 ct0), sl0⟩)
    (c0 : PySem.W.codeIn K cd0 "_law_draw" = true)
    (k0 : PySem.W.keepIn K (.ref x0) = true)
    (a1 : PySem.W.nsIn K mainGlobals "_law_added" = some (some (.ref x1)))
    (l1 : K.lookup x1 = some ⟨oc1, od1, .func (PySem.W.fnOf "_law_added" "_law_added" (defArgs s__law_added) (defBody s__law_added) (defScope s__law_added) .none kV1 dc1 pm1 an1 cd1 ct1), sl1⟩)
    (c1 : PySem.W.codeIn K cd1 "_law_added" = true)
    (k1 : PySem.W.keepIn K (.ref x1) = true)
    (a2 : PySem.W.nsIn K mainGlobals "_law_dot" = some (some (.ref x2)))
    (l2 : K.lookup x2 = some ⟨oc2, od2, .func (PySem.W.fnOf "_law_dot" "_law_dot" (defArgs s__law_dot) (defBody s__law_dot) (defScope s__law_dot) .none kV2 dc2 pm2 an2 cd2 ct2), sl2⟩)
    (c2 : PySem.W.codeIn K cd2 "_law_dot" = true)
    (k2 : PySem.W.keepIn K (.ref x2) = true)
    (a3 : PySem.W.nsIn K mainGlobals "_law_built" = some (some (.ref x3)))
    (l3 : K.lookup x3 = some ⟨oc3, od3, .func (PySem.W.fnOf "_law_built" "_law_built" (defArgs s__law_built) (defBody s__law_built) (defScope s__law_built) .none kV3 dc3 pm3 an3 cd3 ct3), sl3⟩)
    (c3 : PySem.W.codeIn K cd3 "_law_built" = true)
    (k3 : PySem.W.keepIn K (.ref x3) = true)
    (a4 : PySem.W.nsIn K mainGlobals "is_whole" = some (some (.ref x4)))
    (l4 : K.lookup x4 = some ⟨oc4, od4, .func (PySem.W.fnOf "is_whole" "is_whole" (defArgs s_is_whole) (defBody s_is_whole) (defScope s_is_whole) .none kV4 dc4 pm4 an4 cd4 ct4), sl4⟩)
    (c4 : PySem.W.codeIn K cd4 "is_whole" = true)
    (k4 : PySem.W.keepIn K (.ref x4) = true)
    (a5 : PySem.W.nsIn K mainGlobals "is_row" = some (some (.ref x5)))
    (l5 : K.lookup x5 = some ⟨oc5, od5, .func (PySem.W.fnOf "is_row" "is_row" (defArgs s_is_row) (defBody s_is_row) (defScope s_is_row) .none kV5 dc5 pm5 an5 cd5 ct5), sl5⟩)
    (c5 : PySem.W.codeIn K cd5 "is_row" = true)
    (k5 : PySem.W.keepIn K (.ref x5) = true)
    (a6 : PySem.W.nsIn K mainGlobals "check_rows" = some (some (.ref x6)))
    (l6 : K.lookup x6 = some ⟨oc6, od6, .func (PySem.W.fnOf "check_rows" "check_rows" (defArgs s_check_rows) (defBody s_check_rows) (defScope s_check_rows) .none kV6 dc6 pm6 an6 cd6 ct6), sl6⟩)
    (c6 : PySem.W.codeIn K cd6 "check_rows" = true)
    (k6 : PySem.W.keepIn K (.ref x6) = true)
    (a7 : PySem.W.nsIn K mainGlobals "check_row" = some (some (.ref x7)))
    (l7 : K.lookup x7 = some ⟨oc7, od7, .func (PySem.W.fnOf "check_row" "check_row" (defArgs s_check_row) (defBody s_check_row) (defScope s_check_row) .none kV7 dc7 pm7 an7 cd7 ct7), sl7⟩)
    (c7 : PySem.W.codeIn K cd7 "check_row" = true)
    (k7 : PySem.W.keepIn K (.ref x7) = true)
    (a8 : PySem.W.nsIn K mainGlobals "check_side" = some (some (.ref x8)))
    (l8 : K.lookup x8 = some ⟨oc8, od8, .func (PySem.W.fnOf "check_side" "check_side" (defArgs s_check_side) (defBody s_check_side) (defScope s_check_side) .none kV8 dc8 pm8 an8 cd8 ct8), sl8⟩)
    (c8 : PySem.W.codeIn K cd8 "check_side" = true)
    (k8 : PySem.W.keepIn K (.ref x8) = true)
    (a9 : PySem.W.nsIn K mainGlobals "added" = some (some (.ref x9)))
    (l9 : K.lookup x9 = some ⟨oc9, od9, .func (PySem.W.fnOf "added" "added" (defArgs s_added) (defBody s_added) (defScope s_added) .none (.ref Dk9) dc9 pm9 an9 cd9 ct9), sl9⟩)
    (c9 : PySem.W.codeIn K cd9 "added" = true)
    (k9 : PySem.W.keepIn K (.ref x9) = true)
    (d9_many : PySem.W.nsIn K Dk9 "many" = some (some (.int 1 t9_many)))
    (a10 : PySem.W.nsIn K mainGlobals "reduced" = some (some (.ref x10)))
    (l10 : K.lookup x10 = some ⟨oc10, od10, .func (PySem.W.fnOf "reduced" "reduced" (defArgs s_reduced) (defBody s_reduced) (defScope s_reduced) .none kV10 dc10 pm10 an10 cd10 ct10), sl10⟩)
    (c10 : PySem.W.codeIn K cd10 "reduced" = true)
    (k10 : PySem.W.keepIn K (.ref x10) = true)
    (a11 : PySem.W.nsIn K mainGlobals "unit" = some (some (.ref x11)))
    (l11 : K.lookup x11 = some ⟨oc11, od11, .func (PySem.W.fnOf "unit" "unit" (defArgs s_unit) (defBody s_unit) (defScope s_unit) .none kV11 dc11 pm11 an11 cd11 ct11), sl11⟩)
    (c11 : PySem.W.codeIn K cd11 "unit" = true)
    (k11 : PySem.W.keepIn K (.ref x11) = true)
    (a12 : PySem.W.nsIn K mainGlobals "flipped" = some (some (.ref x12)))
    (l12 : K.lookup x12 = some ⟨oc12, od12, .func (PySem.W.fnOf "flipped" "flipped" (defArgs s_flipped) (defBody s_flipped) (defScope s_flipped) .none kV12 dc12 pm12 an12 cd12 ct12), sl12⟩)
    (c12 : PySem.W.codeIn K cd12 "flipped" = true)
    (k12 : PySem.W.keepIn K (.ref x12) = true)
    (a13 : PySem.W.nsIn K mainGlobals "turned" = some (some (.ref x13)))
    (l13 : K.lookup x13 = some ⟨oc13, od13, .func (PySem.W.fnOf "turned" "turned" (defArgs s_turned) (defBody s_turned) (defScope s_turned) .none kV13 dc13 pm13 an13 cd13 ct13), sl13⟩)
    (c13 : PySem.W.codeIn K cd13 "turned" = true)
    (k13 : PySem.W.keepIn K (.ref x13) = true)
    (a14 : PySem.W.nsIn K mainGlobals "stairs_of" = some (some (.ref x14)))
    (l14 : K.lookup x14 = some ⟨oc14, od14, .func (PySem.W.fnOf "stairs_of" "stairs_of" (defArgs s_stairs_of) (defBody s_stairs_of) (defScope s_stairs_of) .none kV14 dc14 pm14 an14 cd14 ct14), sl14⟩)
    (c14 : PySem.W.codeIn K cd14 "stairs_of" = true)
    (k14 : PySem.W.keepIn K (.ref x14) = true)
    (a15 : PySem.W.nsIn K mainGlobals "gone_down" = some (some (.ref x15)))
    (l15 : K.lookup x15 = some ⟨oc15, od15, .func (PySem.W.fnOf "gone_down" "gone_down" (defArgs s_gone_down) (defBody s_gone_down) (defScope s_gone_down) .none kV15 dc15 pm15 an15 cd15 ct15), sl15⟩)
    (c15 : PySem.W.codeIn K cd15 "gone_down" = true)
    (k15 : PySem.W.keepIn K (.ref x15) = true)
    (a16 : PySem.W.nsIn K mainGlobals "dot" = some (some (.ref x16)))
    (l16 : K.lookup x16 = some ⟨oc16, od16, .func (PySem.W.fnOf "dot" "dot" (defArgs s_dot) (defBody s_dot) (defScope s_dot) .none kV16 dc16 pm16 an16 cd16 ct16), sl16⟩)
    (c16 : PySem.W.codeIn K cd16 "dot" = true)
    (k16 : PySem.W.keepIn K (.ref x16) = true)
    (a17 : PySem.W.nsIn K mainGlobals "bar_of" = some (some (.ref x17)))
    (l17 : K.lookup x17 = some ⟨oc17, od17, .func (PySem.W.fnOf "bar_of" "bar_of" (defArgs s_bar_of) (defBody s_bar_of) (defScope s_bar_of) .none kV17 dc17 pm17 an17 cd17 ct17), sl17⟩)
    (c17 : PySem.W.codeIn K cd17 "bar_of" = true)
    (k17 : PySem.W.keepIn K (.ref x17) = true)
    (a18 : PySem.W.nsIn K mainGlobals "any_way" = some (some (.ref x18)))
    (l18 : K.lookup x18 = some ⟨oc18, od18, .func (PySem.W.fnOf "any_way" "any_way" (defArgs s_any_way) (defBody s_any_way) (defScope s_any_way) .none kV18 dc18 pm18 an18 cd18 ct18), sl18⟩)
    (c18 : PySem.W.codeIn K cd18 "any_way" = true)
    (k18 : PySem.W.keepIn K (.ref x18) = true)
    (a19 : PySem.W.nsIn K mainGlobals "is_bar" = some (some (.ref x19)))
    (l19 : K.lookup x19 = some ⟨oc19, od19, .func (PySem.W.fnOf "is_bar" "is_bar" (defArgs s_is_bar) (defBody s_is_bar) (defScope s_is_bar) .none kV19 dc19 pm19 an19 cd19 ct19), sl19⟩)
    (c19 : PySem.W.codeIn K cd19 "is_bar" = true)
    (k19 : PySem.W.keepIn K (.ref x19) = true)
    (a20 : PySem.W.nsIn K mainGlobals "check_bar" = some (some (.ref x20)))
    (l20 : K.lookup x20 = some ⟨oc20, od20, .func (PySem.W.fnOf "check_bar" "check_bar" (defArgs s_check_bar) (defBody s_check_bar) (defScope s_check_bar) .none kV20 dc20 pm20 an20 cd20 ct20), sl20⟩)
    (c20 : PySem.W.codeIn K cd20 "check_bar" = true)
    (k20 : PySem.W.keepIn K (.ref x20) = true)
    (a21 : PySem.W.nsIn K mainGlobals "meets" = some (some (.ref x21)))
    (l21 : K.lookup x21 = some ⟨oc21, od21, .func (PySem.W.fnOf "meets" "meets" (defArgs s_meets) (defBody s_meets) (defScope s_meets) .none kV21 dc21 pm21 an21 cd21 ct21), sl21⟩)
    (c21 : PySem.W.codeIn K cd21 "meets" = true)
    (k21 : PySem.W.keepIn K (.ref x21) = true)
    (a22 : PySem.W.nsIn K mainGlobals "check_any_way" = some (some (.ref x22)))
    (l22 : K.lookup x22 = some ⟨oc22, od22, .func (PySem.W.fnOf "check_any_way" "check_any_way" (defArgs s_check_any_way) (defBody s_check_any_way) (defScope s_check_any_way) .none kV22 dc22 pm22 an22 cd22 ct22), sl22⟩)
    (c22 : PySem.W.codeIn K cd22 "check_any_way" = true)
    (k22 : PySem.W.keepIn K (.ref x22) = true)
    (a23 : PySem.W.nsIn K mainGlobals "_law_right_answer" = some (some (.ref x23)))
    (l23 : K.lookup x23 = some ⟨oc23, od23, .func (PySem.W.fnOf "_law_right_answer" "_law_right_answer" (defArgs s__law_right_answer) (defBody s__law_right_answer) (defScope s__law_right_answer) .none kV23 dc23 pm23 an23 cd23 ct23), sl23⟩)
    (c23 : PySem.W.codeIn K cd23 "_law_right_answer" = true)
    (k23 : PySem.W.keepIn K (.ref x23) = true)
    (a24 : PySem.W.nsIn K mainGlobals "_law_sides_rest" = some (some (.ref x24)))
    (l24 : K.lookup x24 = some ⟨oc24, od24, .func (PySem.W.fnOf "_law_sides_rest" "_law_sides_rest" (defArgs s__law_sides_rest) (defBody s__law_sides_rest) (defScope s__law_sides_rest) .none kV24 dc24 pm24 an24 (.ref cc24) ct24), sl24⟩)
    (c24 : PySem.W.codeIn K (.ref cc24) "_law_sides_rest" = true)
    (k24 : PySem.W.keepIn K (.ref x24) = true)
    (a25 : PySem.W.nsIn K mainGlobals "_law_right" = some (some (.ref x25)))
    (l25 : K.lookup x25 = some ⟨oc25, od25, .func (PySem.W.fnOf "_law_right" "_law_right" (defArgs s__law_right) (defBody s__law_right) (defScope s__law_right) .none kV25 dc25 pm25 an25 cd25 ct25), sl25⟩)
    (c25 : PySem.W.codeIn K cd25 "_law_right" = true)
    (k25 : PySem.W.keepIn K (.ref x25) = true)
    (a26 : PySem.W.nsIn K mainGlobals "law" = some (some (.ref x26)))
    (l26 : K.lookup x26 = some ⟨oc26, od26, .func (PySem.W.fnOf "law" "law" (defArgs s_law) (defBody s_law) (defScope s_law) .none kV26 dc26 pm26 an26 cd26 ct26), sl26⟩)
    (c26 : PySem.W.codeIn K cd26 "law" = true)
    (k26 : PySem.W.keepIn K (.ref x26) = true)
    (aW : PySem.W.nsIn K mainGlobals "WayError" = some (some (.ref CW)))
    (gaW : PySem.W.specialIn K (.ref CW) "__getattribute__" = some (some (.builtin "type.__getattribute__")))
    (rdW : PySem.W.readsIn K CW (.type "type") = true)
    (vVW : PySem.W.findCls K (.ref CW) (.type "type") "__init__" = some (.val (.builtin "ValueError.__init__")))
    (aC0 : PySem.W.nsIn K mainGlobals "NoPaper" = some (some (.ref C0)))
    (xL0 : K.lookup C0 = some (excClassObj nm0 qq0 C0 NN0 bs0 [.ref CW, .type "ValueError", .type "Exception", .type "BaseException", .type "object"] true sn0 sub0 ab0 col0 dd0 ma0 mb0 mc0 md0 me0 "ValueError.__new__"))
    (sa0 : PySem.W.findIn K (.ref C0) "__setattr__" = some (some (.builtin "object.__setattr__")))
    (ga0 : PySem.W.findIn K (.ref C0) "__getattribute__" = some (some (.builtin "BaseException.__getattribute__")))
    (gg0 : PySem.W.findIn K (.ref C0) "__getattr__" = some none)
    (nf0_where : PySem.W.findIn K (.ref C0) "where" = some none)
    (nf0_at : PySem.W.findIn K (.ref C0) "at" = some none)
    (ii0 : PySem.W.findIn K (.ref C0) "__init__" = some (some (.ref fI0)))
    (ti0 : PySem.W.typeIn K (.ref fI0) = some (.type "function"))
    (li0 : K.lookup fI0 = some ⟨ioc0, iod0, .func (PySem.W.fnOf "__init__" "NoPaper.__init__" (defArgs s_NoPaper_init) (defBody s_NoPaper_init) (defScope s_NoPaper_init) .none ikV0 idc0 ipm0 ian0 icd0 ict0), isl0⟩)
    (ci0 : PySem.W.codeIn K icd0 "NoPaper.__init__" = true)
    (ki0 : PySem.W.keepIn K (.ref fI0) = true)
    (kC0 : PySem.W.keepIn K (.ref C0) = true)
    (eC0 : PySem.W.subIn K (.ref C0) (.type "BaseException") = some true)
    (tC0 : PySem.W.typeIn K (.ref C0) = some (.type "type"))
    (hC0 : PySem.W.hasDictIn K C0 = true)
    (iC0 : PySem.W.isClsIn K C0 = true)
    (aC1 : PySem.W.nsIn K mainGlobals "NoRow" = some (some (.ref C1)))
    (xL1 : K.lookup C1 = some (excClassObj nm1 qq1 C1 NN1 bs1 [.ref CW, .type "ValueError", .type "Exception", .type "BaseException", .type "object"] true sn1 sub1 ab1 col1 dd1 ma1 mb1 mc1 md1 me1 "ValueError.__new__"))
    (sa1 : PySem.W.findIn K (.ref C1) "__setattr__" = some (some (.builtin "object.__setattr__")))
    (ga1 : PySem.W.findIn K (.ref C1) "__getattribute__" = some (some (.builtin "BaseException.__getattribute__")))
    (gg1 : PySem.W.findIn K (.ref C1) "__getattr__" = some none)
    (nf1_at : PySem.W.findIn K (.ref C1) "at" = some none)
    (ii1 : PySem.W.findIn K (.ref C1) "__init__" = some (some (.ref fI1)))
    (ti1 : PySem.W.typeIn K (.ref fI1) = some (.type "function"))
    (li1 : K.lookup fI1 = some ⟨ioc1, iod1, .func (PySem.W.fnOf "__init__" "NoRow.__init__" (defArgs s_NoRow_init) (defBody s_NoRow_init) (defScope s_NoRow_init) .none ikV1 idc1 ipm1 ian1 icd1 ict1), isl1⟩)
    (ci1 : PySem.W.codeIn K icd1 "NoRow.__init__" = true)
    (ki1 : PySem.W.keepIn K (.ref fI1) = true)
    (kC1 : PySem.W.keepIn K (.ref C1) = true)
    (eC1 : PySem.W.subIn K (.ref C1) (.type "BaseException") = some true)
    (tC1 : PySem.W.typeIn K (.ref C1) = some (.type "type"))
    (hC1 : PySem.W.hasDictIn K C1 = true)
    (iC1 : PySem.W.isClsIn K C1 = true)
    (lc24 : K.lookup cc24 = some ⟨.type "code", odc24, .fields vsc24, slc24⟩)
    (p24 : vsc24[11]? = some (.ref pp24))
    (hd24 : PySem.W.codeHdIn K cc24 pp24 = true)
    (nt24 : K.lookup pp24 = none)
    (tt24 : h.get? pp24 = some { cls := .none, data := .fields #[] })
    (z_abs : PySem.W.nsIn K mainGlobals "abs" = some none)
    (z_all : PySem.W.nsIn K mainGlobals "all" = some none)
    (z_any : PySem.W.nsIn K mainGlobals "any" = some none)
    (z_bool : PySem.W.nsIn K mainGlobals "bool" = some none)
    (z_enumerate : PySem.W.nsIn K mainGlobals "enumerate" = some none)
    (z_int : PySem.W.nsIn K mainGlobals "int" = some none)
    (z_isinstance : PySem.W.nsIn K mainGlobals "isinstance" = some none)
    (z_len : PySem.W.nsIn K mainGlobals "len" = some none)
    (z_list : PySem.W.nsIn K mainGlobals "list" = some none)
    (z_max : PySem.W.nsIn K mainGlobals "max" = some none)
    (z_min : PySem.W.nsIn K mainGlobals "min" = some none)
    (z_range : PySem.W.nsIn K mainGlobals "range" = some none)
    (z_reversed : PySem.W.nsIn K mainGlobals "reversed" = some none)
    (z_sorted : PySem.W.nsIn K mainGlobals "sorted" = some none)
    (z_sum : PySem.W.nsIn K mainGlobals "sum" = some none)
    (z_tuple : PySem.W.nsIn K mainGlobals "tuple" = some none)
    (z_zip : PySem.W.nsIn K mainGlobals "zip" = some none) :
    LamX.LawAtS PySem.Challenge.rw_waymoves_k02_whole_any_way_or_a_bar w K (L2.CX P w) 7 63 "_law_script" mg fa h := by
  have e := hfa.symm.trans (PySem.W.mg_of X G a26)
  cases e
  exact ⟨_, [(cc24, pp24)], spF (gk K (clOf [("NoPaper", C0), ("NoRow", C1)] ⟨[(pp24, (envOfC "_law_sides_rest" (defScope s__law_sides_rest) 0 0 (.ref cc24)).qual ++ "<lambda>")], [], []⟩)) 1 f_law, by
      intro p hp
      simp only [List.mem_cons, List.not_mem_nil, or_false] at hp
      rcases hp with rfl
      · exact tt24, by
      intro p hp
      simp only [List.mem_cons, List.not_mem_nil, or_false] at hp
      rcases hp with rfl
      · exact nt24, by
      intro p hp
      simp only [List.mem_cons, List.not_mem_nil, or_false] at hp
      rcases hp with rfl
      · exact PySem.W.codeHd_of_K X hd24, fun s v => .of_eq rfl,
    fun H a ns hl _ hH hS => spT_sp hl rfl rfl (by
      intro p hp
      simp only [clOf, List.mem_cons, List.not_mem_nil, or_false] at hp
      rcases hp with rfl
      · exact hH (cc24, pp24) (by simp only [List.mem_cons, true_or, or_true])) hS (LT ns hl),
    fun base _ _ hTB => ok_law (cl := clOf [("NoPaper", C0), ("NoRow", C1)] ⟨[(pp24, (envOfC "_law_sides_rest" (defScope s__law_sides_rest) 0 0 (.ref cc24)).qual ++ "<lambda>")], [], []⟩) ⟨_, _, fun_mk (st := s__law_draw) l0 c0 k0, PySem.W.mg_of X G a0,
    (fun_mk (st := s__law_draw) l0 c0 k0).binds fun _ _ _ _ _ _ us hl => match us, hl with | [_, _], _ => rfl,
    _, _, fun_mk (st := s__law_added) l1 c1 k1, PySem.W.mg_of X G a1,
    (fun_mk (st := s__law_added) l1 c1 k1).binds fun _ _ _ _ _ _ us hl => match us, hl with | [_, _, _], _ => rfl,
    _, _, fun_mk (st := s__law_dot) l2 c2 k2, PySem.W.mg_of X G a2,
    (fun_mk (st := s__law_dot) l2 c2 k2).binds fun _ _ _ _ _ _ us hl => match us, hl with | [_, _], _ => rfl,
    _, _, fun_mk (st := s__law_built) l3 c3 k3, PySem.W.mg_of X G a3,
    (fun_mk (st := s__law_built) l3 c3 k3).binds fun _ _ _ _ _ _ us hl => match us, hl with | [_], _ => rfl,
    _, _, fun_mk (st := s_is_whole) l4 c4 k4, PySem.W.mg_of X G a4,
    (fun_mk (st := s_is_whole) l4 c4 k4).binds fun _ _ _ _ _ _ us hl => match us, hl with | [_], _ => rfl,
    _, _, fun_mk (st := s_is_row) l5 c5 k5, PySem.W.mg_of X G a5,
    (fun_mk (st := s_is_row) l5 c5 k5).binds fun _ _ _ _ _ _ us hl => match us, hl with | [_, _], _ => rfl,
    _, _, fun_mk (st := s_check_rows) l6 c6 k6, PySem.W.mg_of X G a6,
    (fun_mk (st := s_check_rows) l6 c6 k6).binds fun _ _ _ _ _ _ us hl => match us, hl with | [_, _], _ => rfl,
    _, _, fun_mk (st := s_check_row) l7 c7 k7, PySem.W.mg_of X G a7,
    (fun_mk (st := s_check_row) l7 c7 k7).binds fun _ _ _ _ _ _ us hl => match us, hl with | [_, _, _], _ => rfl,
    _, _, fun_mk (st := s_check_side) l8 c8 k8, PySem.W.mg_of X G a8,
    (fun_mk (st := s_check_side) l8 c8 k8).binds fun _ _ _ _ _ _ us hl => match us, hl with | [_, _, _], _ => rfl,
    _, _, fun_mk (st := s_added) l9 c9 k9, PySem.W.mg_of X G a9,
    _, _, fun_mk (st := s_reduced) l10 c10 k10, PySem.W.mg_of X G a10,
    (fun_mk (st := s_reduced) l10 c10 k10).binds fun _ _ _ _ _ _ us hl => match us, hl with | [_, _], _ => rfl,
    _, _, fun_mk (st := s_unit) l11 c11 k11, PySem.W.mg_of X G a11,
    (fun_mk (st := s_unit) l11 c11 k11).binds fun _ _ _ _ _ _ us hl => match us, hl with | [_, _], _ => rfl,
    _, _, fun_mk (st := s_flipped) l12 c12 k12, PySem.W.mg_of X G a12,
    _, _, fun_mk (st := s_turned) l13 c13 k13, PySem.W.mg_of X G a13,
    (fun_mk (st := s_turned) l13 c13 k13).binds fun _ _ _ _ _ _ us hl => match us, hl with | [_], _ => rfl,
    _, _, fun_mk (st := s_stairs_of) l14 c14 k14, PySem.W.mg_of X G a14,
    (fun_mk (st := s_stairs_of) l14 c14 k14).binds fun _ _ _ _ _ _ us hl => match us, hl with | [_, _], _ => rfl,
    _, _, fun_mk (st := s_gone_down) l15 c15 k15, PySem.W.mg_of X G a15,
    (fun_mk (st := s_gone_down) l15 c15 k15).binds fun _ _ _ _ _ _ us hl => match us, hl with | [_, _, _], _ => rfl,
    _, _, fun_mk (st := s_dot) l16 c16 k16, PySem.W.mg_of X G a16,
    (fun_mk (st := s_dot) l16 c16 k16).binds fun _ _ _ _ _ _ us hl => match us, hl with | [_, _], _ => rfl,
    _, _, fun_mk (st := s_bar_of) l17 c17 k17, PySem.W.mg_of X G a17,
    (fun_mk (st := s_bar_of) l17 c17 k17).binds fun _ _ _ _ _ _ us hl => match us, hl with | [_, _, _], _ => rfl,
    _, _, fun_mk (st := s_any_way) l18 c18 k18, PySem.W.mg_of X G a18,
    _, _, fun_mk (st := s_is_bar) l19 c19 k19, PySem.W.mg_of X G a19,
    (fun_mk (st := s_is_bar) l19 c19 k19).binds fun _ _ _ _ _ _ us hl => match us, hl with | [_, _], _ => rfl,
    _, _, fun_mk (st := s_check_bar) l20 c20 k20, PySem.W.mg_of X G a20,
    (fun_mk (st := s_check_bar) l20 c20 k20).binds fun _ _ _ _ _ _ us hl => match us, hl with | [_, _, _, _], _ => rfl,
    _, _, fun_mk (st := s_meets) l21 c21 k21, PySem.W.mg_of X G a21,
    (fun_mk (st := s_meets) l21 c21 k21).binds fun _ _ _ _ _ _ us hl => match us, hl with | [_, _, _], _ => rfl,
    _, _, fun_mk (st := s_check_any_way) l22 c22 k22, PySem.W.mg_of X G a22,
    _, _, fun_mk (st := s__law_right_answer) l23 c23 k23, PySem.W.mg_of X G a23,
    (fun_mk (st := s__law_right_answer) l23 c23 k23).binds fun _ _ _ _ _ _ us hl => match us, hl with | [_, _, _, _], _ => rfl,
    _, _, fun_mk (st := s__law_sides_rest) l24 c24 k24, PySem.W.mg_of X G a24,
    (fun_mk (st := s__law_sides_rest) l24 c24 k24).binds fun _ _ _ _ _ _ us hl => match us, hl with | [_, _], _ => rfl,
    _, _, fun_mk (st := s__law_right) l25 c25 k25, PySem.W.mg_of X G a25,
    (fun_mk (st := s__law_right) l25 c25 k25).binds fun _ _ _ _ _ _ us hl => match us, hl with | [_], _ => rfl,
    _, _, fun_mk (st := s_law) l26 c26 k26, PySem.W.mg_of X G a26,
    (fun_mk (st := s_law) l26 c26 k26).binds fun _ _ _ _ _ _ us hl => match us, hl with | [_], _ => rfl,
    kbs_mk (sel := [.arg 0, .arg 1, .arg 2]) [.inl 0, .inl 1, .inl 2] 0 [] ⟨rfl, ⟨rfl, ⟨rfl, trivial⟩⟩⟩ (fun q hq => by cases hq) (fun us ws h1 h2 => match us, ws, h1, h2 with | [u0, u1], [w0], _, _ => rfl),
    kbs_mk (sel := [.arg 0, .arg 1]) [.inl 0, .inl 1] 0 [] ⟨rfl, ⟨rfl, trivial⟩⟩ (fun q hq => by cases hq) (fun us ws h1 h2 => match us, ws, h1, h2 with | [u0], [w0], _, _ => rfl),
    kbs_mk (sel := [.arg 0, .arg 1, .arg 2]) [.inl 0, .inl 1, .inl 2] 0 [] ⟨rfl, ⟨rfl, ⟨rfl, trivial⟩⟩⟩ (fun q hq => by cases hq) (fun us ws h1 h2 => match us, ws, h1, h2 with | [u0], [w0, w1], _, _ => rfl),
    kbs_mk (sel := [.arg 0, .arg 1, .arg 2, .arg 3]) [.inl 0, .inl 1, .inl 2, .inl 3] 0 [] ⟨rfl, ⟨rfl, ⟨rfl, ⟨rfl, trivial⟩⟩⟩⟩ (fun q hq => by cases hq) (fun us ws h1 h2 => match us, ws, h1, h2 with | [u0, u1], [w0, w1], _, _ => rfl),
    ⟨CW, .type "type", PySem.W.mg_of X G aW, gaW, rdW, vVW⟩,
    ⟨fI0, _, PySem.W.mg_of X G aC0, ⟨⟨_, _, _, _, _, _, _, _, _, _, _, _, _, _, _, xL0, rfl⟩, sa0, eC0, tC0, kC0⟩, fun f hf => by
      simp only [List.mem_cons, List.not_mem_nil, or_false] at hf
      rcases hf with rfl | rfl
      · exact nf0_where
      · exact nf0_at, ii0, ti0, fun_mk (st := s_NoPaper_init) li0 ci0 ki0, ⟨ga0, gg0, eC0, hC0⟩⟩,
    kbs_mk (sel := [.arg 0, .arg 1, .arg 2]) [.inl 0, .inl 1, .inl 2] 0 [] ⟨rfl, ⟨rfl, ⟨rfl, trivial⟩⟩⟩ (fun q hq => by cases hq) (fun us ws h1 h2 => match us, ws, h1, h2 with | [u0, u1], [w0], _, _ => rfl),
    ⟨fI1, _, PySem.W.mg_of X G aC1, ⟨⟨_, _, _, _, _, _, _, _, _, _, _, _, _, _, _, xL1, rfl⟩, sa1, eC1, tC1, kC1⟩, fun f hf => by
      simp only [List.mem_cons, List.not_mem_nil, or_false] at hf
      rcases hf with rfl
      · exact nf1_at, ii1, ti1, fun_mk (st := s_NoRow_init) li1 ci1 ki1, ⟨ga1, gg1, eC1, hC1⟩⟩,
    (fun_mk (st := s_NoRow_init) li1 ci1 ki1).binds fun _ _ _ _ _ _ us hl => match us, hl with | [_, _], _ => rfl,
    trivial,
    fun _ => rfl,
    cc24, pp24, funC_mk (st := s__law_sides_rest) l24 c24, hTB (cc24, pp24) (by simp only [List.mem_cons, true_or, or_true]), by simp only [clOf, List.mem_cons, true_or, or_true], by
      intro p hp he
      simp only [clOf, List.mem_cons, List.not_mem_nil, or_false] at hp
      rcases hp with rfl
      · rfl,
    PySem.W.mg_none_of X G z_abs,
    PySem.W.mg_none_of X G z_all,
    PySem.W.mg_none_of X G z_any,
    PySem.W.mg_none_of X G z_bool,
    PySem.W.mg_none_of X G z_enumerate,
    PySem.W.mg_none_of X G z_int,
    PySem.W.mg_none_of X G z_isinstance,
    PySem.W.mg_none_of X G z_len,
    PySem.W.mg_none_of X G z_list,
    PySem.W.mg_none_of X G z_max,
    PySem.W.mg_none_of X G z_min,
    PySem.W.mg_none_of X G z_range,
    PySem.W.mg_none_of X G z_reversed,
    PySem.W.mg_none_of X G z_sorted,
    PySem.W.mg_none_of X G z_sum,
    PySem.W.mg_none_of X G z_tuple,
    PySem.W.mg_none_of X G z_zip⟩⟩
end Lw
open PySem PySem.W PyProof.Rows
set_option maxHeartbeats 0 in
theorem PySem.Challenge.cw_waymoves_k02_whole_any_way_or_a_bar_holds : PySem.Challenge.rw_waymoves_k02_whole_any_way_or_a_bar.Holds := by
  w_on; o_law; k_head; (case hw => w_witness2)
  k_fill
  refine LamX.walk_ofTs (l := PySem.Challenge.rw_waymoves_k02_whole_any_way_or_a_bar) (n := 63) (k := 7) (x := "_law_script") (CX := fun w => L2.CX (PySem.Challenge.rw_waymoves_k02_whole_any_way_or_a_bar).prog w) rfl (by decide) rfl ⟨rfl, by decide, by decide⟩ (fun w h Y => PySem.W.km_in_of Y) ?F (fun _ H s e s' h => Wm.law_cx H s e s' h)
  case F =>
    intro w mg fa h Y KX G hmg
    refine' Lw.all_mk Lw.law_true KX G hmg ?a0 ?l0 ?c0 ?k0 ?a1 ?l1 ?c1 ?k1 ?a2 ?l2 ?c2 ?k2 ?a3 ?l3 ?c3 ?k3 ?a4 ?l4 ?c4 ?k4 ?a5 ?l5 ?c5 ?k5 ?a6 ?l6 ?c6 ?k6 ?a7 ?l7 ?c7 ?k7 ?a8 ?l8 ?c8 ?k8 ?a9 ?l9 ?c9 ?k9 ?d9_many ?a10 ?l10 ?c10 ?k10 ?a11 ?l11 ?c11 ?k11 ?a12 ?l12 ?c12 ?k12 ?a13 ?l13 ?c13 ?k13 ?a14 ?l14 ?c14 ?k14 ?a15 ?l15 ?c15 ?k15 ?a16 ?l16 ?c16 ?k16 ?a17 ?l17 ?c17 ?k17 ?a18 ?l18 ?c18 ?k18 ?a19 ?l19 ?c19 ?k19 ?a20 ?l20 ?c20 ?k20 ?a21 ?l21 ?c21 ?k21 ?a22 ?l22 ?c22 ?k22 ?a23 ?l23 ?c23 ?k23 ?a24 ?l24 ?c24 ?k24 ?a25 ?l25 ?c25 ?k25 ?a26 ?l26 ?c26 ?k26 ?aW ?gaW ?rdW ?vVW ?aC0 ?xL0 ?sa0 ?ga0 ?gg0 ?nf0_where ?nf0_at ?ii0 ?ti0 ?li0 ?ci0 ?ki0 ?kC0 ?eC0 ?tC0 ?hC0 ?iC0 ?aC1 ?xL1 ?sa1 ?ga1 ?gg1 ?nf1_at ?ii1 ?ti1 ?li1 ?ci1 ?ki1 ?kC1 ?eC1 ?tC1 ?hC1 ?iC1 ?lc24 ?p24 ?hd24 ?nt24 ?tt24 ?z_abs ?z_all ?z_any ?z_bool ?z_enumerate ?z_int ?z_isinstance ?z_len ?z_list ?z_max ?z_min ?z_range ?z_reversed ?z_sorted ?z_sum ?z_tuple ?z_zip
    (case a0 => k_is); (case l0 => k_is); (case c0 => k_is); (case k0 => k_is); (case a1 => k_is); (case l1 => k_is); (case c1 => k_is); (case k1 => k_is); (case a2 => k_is); (case l2 => k_is); (case c2 => k_is); (case k2 => k_is); (case a3 => k_is); (case l3 => k_is); (case c3 => k_is); (case k3 => k_is); (case a4 => k_is); (case l4 => k_is); (case c4 => k_is); (case k4 => k_is); (case a5 => k_is); (case l5 => k_is); (case c5 => k_is); (case k5 => k_is); (case a6 => k_is); (case l6 => k_is); (case c6 => k_is); (case k6 => k_is); (case a7 => k_is); (case l7 => k_is); (case c7 => k_is); (case k7 => k_is); (case a8 => k_is); (case l8 => k_is); (case c8 => k_is); (case k8 => k_is); (case a9 => k_is); (case l9 => k_is); (case c9 => k_is); (case k9 => k_is); (case d9_many => k_is); (case a10 => k_is); (case l10 => k_is); (case c10 => k_is); (case k10 => k_is); (case a11 => k_is); (case l11 => k_is); (case c11 => k_is); (case k11 => k_is); (case a12 => k_is); (case l12 => k_is); (case c12 => k_is); (case k12 => k_is); (case a13 => k_is); (case l13 => k_is); (case c13 => k_is); (case k13 => k_is); (case a14 => k_is); (case l14 => k_is); (case c14 => k_is); (case k14 => k_is); (case a15 => k_is); (case l15 => k_is); (case c15 => k_is); (case k15 => k_is); (case a16 => k_is); (case l16 => k_is); (case c16 => k_is); (case k16 => k_is); (case a17 => k_is); (case l17 => k_is); (case c17 => k_is); (case k17 => k_is); (case a18 => k_is); (case l18 => k_is); (case c18 => k_is); (case k18 => k_is); (case a19 => k_is); (case l19 => k_is); (case c19 => k_is); (case k19 => k_is); (case a20 => k_is); (case l20 => k_is); (case c20 => k_is); (case k20 => k_is); (case a21 => k_is); (case l21 => k_is); (case c21 => k_is); (case k21 => k_is); (case a22 => k_is); (case l22 => k_is); (case c22 => k_is); (case k22 => k_is); (case a23 => k_is); (case l23 => k_is); (case c23 => k_is); (case k23 => k_is); (case a24 => k_is); (case l24 => k_is); (case c24 => k_is); (case k24 => k_is); (case a25 => k_is); (case l25 => k_is); (case c25 => k_is); (case k25 => k_is); (case a26 => k_is); (case l26 => k_is); (case c26 => k_is); (case k26 => k_is); (case aW => k_is); (case gaW => k_is); (case rdW => k_is); (case vVW => k_is); (case aC0 => k_is); (case xL0 => k_is); (case sa0 => k_is); (case ga0 => k_is); (case gg0 => k_is); (case nf0_where => k_is); (case nf0_at => k_is); (case ii0 => k_is); (case ti0 => k_is); (case li0 => k_is); (case ci0 => k_is); (case ki0 => k_is); (case kC0 => k_is); (case eC0 => k_is); (case tC0 => k_is); (case hC0 => k_is); (case iC0 => k_is); (case aC1 => k_is); (case xL1 => k_is); (case sa1 => k_is); (case ga1 => k_is); (case gg1 => k_is); (case nf1_at => k_is); (case ii1 => k_is); (case ti1 => k_is); (case li1 => k_is); (case ci1 => k_is); (case ki1 => k_is); (case kC1 => k_is); (case eC1 => k_is); (case tC1 => k_is); (case hC1 => k_is); (case iC1 => k_is); (case lc24 => k_is); (case p24 => rfl); (case hd24 => kernel_rfl); (case nt24 => kernel_rfl); (case tt24 => exact PySem.W.km_tabs_of Y _ (by decide)); (case z_abs => k_is); (case z_all => k_is); (case z_any => k_is); (case z_bool => k_is); (case z_enumerate => k_is); (case z_int => k_is); (case z_isinstance => k_is); (case z_len => k_is); (case z_list => k_is); (case z_max => k_is); (case z_min => k_is); (case z_range => k_is); (case z_reversed => k_is); (case z_sorted => k_is); (case z_sum => k_is); (case z_tuple => k_is); (case z_zip => k_is)
end
