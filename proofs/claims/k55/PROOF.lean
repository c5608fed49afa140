import PyProof.Rows.All
import Wide.All
import OpenK.AllK
import Wide.FinOn
import HandS.ForMost
import HandS.Wide
import HandS.Zip
import HandS.TupAny
import HandS.TupMul
import HandS.Exc
import PyProof.ListMulRoad
import PyProof.FactsAll.tuple_2
import HandS.TupLe
import HandS.Deep
import HandS.Style
import PyProof.Draws
import KE.GoesMore
import KE.GoesZip
import PyProof.EnumMake
import HandS.IsInst
import HandS.FltList
import HandS.WideBits
import HandS.ExcInit
import HandS.TryOnly
import HandS.ExcField
import KE.KExcIs
import HandS.NoneIn
import HandS.Conv
import HandS.NamedTupSort
import KE.KTupSum
import HandS.TupSets
import KE.KDictCopyH
import PyProof.Rows.ReprOcc
import PyProof.ReprText
import PySem.Challenge.RW_freshparts_k55_which_kind_stands
set_option Elab.async false
set_option linter.all false
set_option maxRecDepth 100000
set_option exponentiation.threshold 10000
section
set_option maxHeartbeats 4000000
/-! Dn: what a def computes over plain data, and rules that say that its body does. Values are trees of data; a list that only one local name holds may grow. -/
namespace Dn
open PySem PySem.Spec L2

/-- the state of the one drawing feed -/
structure Feed where
  cells : List Int
  spot : Int
  left : Int
  turn : Int

inductive R (α : Type) where
  | no : R α
  | ok (a : α) (f : Feed) : R α
  | ex (c : Str) (vs : List (Str × PyData)) (f : Feed) : R α

def R.bind {α β : Type} (r : R α) (k : α → Feed → R β) : R β := match r with
  | .no => .no
  | .ok a f => k a f
  | .ex c vs f => .ex c vs f

/-- a dict that grows: its keys are whole numbers, or tuples of these -/
inductive Dk where
  | I (kvs : List (Int × PyData))
  | T (kvs : List (List Int × PyData))
inductive Slot where
  | emp
  | dat (d : PyData)
  | own (ds : List PyData)
  | feed
  | scr (ns : List Int)
  | dct (k : Dk)
  | key (ks : List Int)
inductive RV where
  | dat (d : PyData)
  | own (ds : List PyData)
  | lent (i : Nat) (ds : List PyData)
  | feed
def RV.peek : RV → Option PyData
  | .dat d => some d
  | .own ds => some (.list ds)
  | .lent _ ds => some (.list ds)
  | .feed => none
def RV.data : RV → Option PyData
  | .dat d => some d
  | .own ds => some (.list ds)
  | _ => none
abbrev Rho := List Slot
abbrev Ex := Rho → Feed → R RV
inductive Ctl where
  | nx (p : Rho)
  | rt (v : RV)
  | bk (p : Rho)
  | ct (p : Rho)
abbrev Sm := Rho → Feed → R Ctl

/-! ### data in the heap; an exception that is held is a dict whose first key is none, with its class's name -/
def ExH (a C : Addr) (od : Option Addr) : HO := .ext fun h => ∃ oe vs, h.get? a = some oe ∧ Zc (.ref C) od oe ∧ oe.data = .fields vs
def errNm (K : PySem.W.Frag) (C : Addr) : Option Str := (PySem.W.clsIn K C).map (·.name)
def XdH (H : Hp) (od : Option Addr) (xs : List (Str × V)) : Prop := (od = none ∧ xs = []) ∨ ∃ d, od = some d ∧ H d = some (.xd xs)
def fldD (xs : List (Str × V)) (ds : List PyData) : List (PyData × PyData) := List.zipWith (fun x d => (.str x.1, d)) xs ds
def keyD : Key → PyData
  | .inl i => .int i
  | .inr x => .str x
mutual
inductive DR (K : PySem.W.Frag) (H : Hp) : V → PyData → Prop
  | non : DR K H .non .none
  | bl (b : Bool) : DR K H (.bl b) (.bool b)
  | int (i : Int) : DR K H (.int i) (.int i)
  | str (x : Str) : DR K H (.str x) (.str x)
  | lst {a : Addr} {xs : List V} {ds : List PyData} : H a = some (.lst xs) → DRs K H xs ds → DR K H (.ref a) (.list ds)
  | tup {a : Addr} {xs : List V} {ds : List PyData} : SqT K H a xs → DRs K H xs ds → DR K H (.ref a) (.tuple ds)
  | dic {a : Addr} {xs : List (Key × V)} {ks : List (PyData × PyData)} : H a = some (.dK xs) → ks.map (·.1) = xs.map (fun x => keyD x.1) → DRs K H (xs.map (·.2)) (ks.map (·.2)) → DR K H (.ref a) (.dict ks)
  | exc {a C : Addr} {od : Option Addr} {c : Str} {xs : List (Str × V)} {ds : List PyData} : H a = some (ExH a C od) → errNm K C = some c → XdH H od xs → DRs K H (xs.map (·.2)) ds → DR K H (.ref a) (.dict ((.none, .str c) :: fldD xs ds))
inductive DRs (K : PySem.W.Frag) (H : Hp) : List V → List PyData → Prop
  | nil : DRs K H [] []
  | cons {v : V} {vs : List V} {d : PyData} {ds : List PyData} : DR K H v d → DRs K H vs ds → DRs K H (v :: vs) (d :: ds)
end
def Le (H G : Hp) : Prop := ∀ a o, H a = some o → G a = some o
theorem Le.refl (H : Hp) : Le H H := fun _ _ h => h
theorem Le.trans {H G F : Hp} (a : Le H G) (b : Le G F) : Le H F := fun x o h => b x o (a x o h)
theorem XdH.mono {H G : Hp} (l : Le H G) {od : Option Addr} {xs : List (Str × V)} (h : XdH H od xs) : XdH G od xs := by
  rcases h with ⟨e1, e2⟩ | ⟨d, e1, e2⟩
  · exact .inl ⟨e1, e2⟩
  · exact .inr ⟨d, e1, l _ _ e2⟩
theorem Le.sqL {K : PySem.W.Frag} {H G : Hp} {a : Addr} {xs : List V} (l : Le H G) (h : SqL K H a xs) : SqL K G a xs := by
  rcases h with (h | ⟨o, h⟩) | h
  · exact .inl (.inl (l _ _ h))
  · exact .inl (.inr ⟨o, l _ _ h⟩)
  · exact .inr h
theorem Le.sqT {K : PySem.W.Frag} {H G : Hp} {a : Addr} {xs : List V} (l : Le H G) (h : SqT K H a xs) : SqT K G a xs := by
  rcases h with (h | ⟨o, h⟩) | h
  · exact .inl (.inl (l _ _ h))
  · exact .inl (.inr ⟨o, l _ _ h⟩)
  · exact .inr h
mutual
theorem DR.mono {K : PySem.W.Frag} {H G : Hp} (l : Le H G) : ∀ {v : V} {d : PyData}, DR K H v d → DR K G v d
  | _, _, .non => .non
  | _, _, .bl b => .bl b
  | _, _, .int i => .int i
  | _, _, .str x => .str x
  | _, _, .lst h r => .lst (l _ _ h) (DRs.mono l r)
  | _, _, .tup h r => .tup (l.sqT h) (DRs.mono l r)
  | _, _, .dic h e r => .dic (l _ _ h) e (DRs.mono l r)
  | _, _, .exc h1 h2 h3 h4 => .exc (l _ _ h1) h2 (h3.mono l) (DRs.mono l h4)
theorem DRs.mono {K : PySem.W.Frag} {H G : Hp} (l : Le H G) : ∀ {vs : List V} {ds : List PyData}, DRs K H vs ds → DRs K G vs ds
  | _, _, .nil => .nil
  | _, _, .cons h r => .cons (DR.mono l h) (DRs.mono l r)
end
section
variable {K : PySem.W.Frag} {H : Hp}
theorem DRs.length : ∀ {vs : List V} {ds : List PyData}, DRs K H vs ds → vs.length = ds.length
  | _, _, .nil => rfl
  | _, _, .cons _ r => congrArg (· + 1) r.length
theorem DRs.get : ∀ {vs : List V} {ds : List PyData} {i : Nat} {d : PyData}, DRs K H vs ds → ds[i]? = some d → ∃ v, vs[i]? = some v ∧ DR K H v d
  | _, _, _, _, .nil, e => by simp at e
  | _, _, 0, d, .cons h _, e => by
    simp at e
    subst e
    exact ⟨_, rfl, h⟩
  | _, _, i + 1, d, .cons _ r, e => by
    obtain ⟨v, h1, h2⟩ := DRs.get (i := i) (d := d) r (by simpa using e)
    exact ⟨v, by simpa using h1, h2⟩
theorem DRs.append : ∀ {vs ws : List V} {ds es : List PyData}, DRs K H vs ds → DRs K H ws es → DRs K H (vs ++ ws) (ds ++ es)
  | _, _, _, _, .nil, s => s
  | _, _, _, _, .cons h r, s => .cons h (DRs.append r s)
theorem DRs.snoc {vs : List V} {v : V} {ds : List PyData} {d : PyData} (r : DRs K H vs ds) (h : DR K H v d) : DRs K H (vs ++ [v]) (ds ++ [d]) := r.append (.cons h .nil)
theorem DRs.drop : ∀ {vs : List V} {ds : List PyData} (n : Nat), DRs K H vs ds → DRs K H (vs.drop n) (ds.drop n)
  | _, _, 0, r => r
  | _, _, _ + 1, .nil => .nil
  | _, _, n + 1, .cons _ r => DRs.drop n r
theorem DRs.take : ∀ {vs : List V} {ds : List PyData} (n : Nat), DRs K H vs ds → DRs K H (vs.take n) (ds.take n)
  | _, _, 0, _ => .nil
  | _, _, _ + 1, .nil => .nil
  | _, _, n + 1, .cons h r => .cons h (DRs.take n r)
theorem DRs.set : ∀ {vs : List V} {ds : List PyData} {v : V} {d : PyData} (n : Nat), DRs K H vs ds → DR K H v d → DRs K H (vs.set n v) (ds.set n d)
  | _, _, _, _, _, .nil, _ => .nil
  | _, _, _, _, 0, .cons _ r, h => .cons h r
  | _, _, _, _, n + 1, .cons g r, h => .cons g (DRs.set n r h)
theorem DRs.rep {vs : List V} {ds : List PyData} (r : DRs K H vs ds) : ∀ n : Nat, DRs K H (List.replicate n vs).flatten (List.replicate n ds).flatten
  | 0 => .nil
  | n + 1 => by
    rw [List.replicate_succ, List.replicate_succ, List.flatten_cons, List.flatten_cons]
    exact r.append (r.rep n)
theorem DRs.ints : ∀ ns : List Int, DRs K H (ns.map V.int) (ns.map PyData.int)
  | [] => .nil
  | n :: r => .cons (.int n) (DRs.ints r)
theorem DRs.rev : ∀ {vs : List V} {ds : List PyData}, DRs K H vs ds → DRs K H vs.reverse ds.reverse
  | _, _, .nil => .nil
  | _, _, .cons h r => by
    rw [List.reverse_cons, List.reverse_cons]
    exact (DRs.rev r).snoc h
end

/-! ### the state -/
structure Gh where
  fa : Addr
  ca : Addr
  H0 : Hp
  HF0 : Hp
def feedO (g : Gh) (f : Feed) : HO := .dK [(Sum.inr "cells", .ref g.ca), (Sum.inr "at", .int f.spot), (Sum.inr "left", .int f.left), (Sum.inr "turn", .int f.turn)]
structure FeedAt (g : Gh) (H HF : Hp) (f : Feed) : Prop where
  d : H g.fa = some (feedO g f)
  nf : HF g.fa = none
  c : HF g.ca = some (.lst (f.cells.map V.int))
/-- no tuple -/
def ntu : HO → Bool
  | .tup _ => false
  | _ => true
/-- something that is there and no tuple -/
def Mo (H : Hp) (a : Addr) : Prop := ∃ o, H a = some o ∧ ntu o = true
theorem mo {H : Hp} {a : Addr} {o : HO} (e : H a = some o) (h : ntu o = true := by rfl) : Mo H a := ⟨o, e, h⟩
theorem Mo.some {H : Hp} {a : Addr} (h : Mo H a) : H a ≠ none := by
  obtain ⟨o, e, _⟩ := h
  rw [e]
  exact Option.some_ne_none _
structure Step (g : Gh) (H HF G GF : Hp) : Prop where
  ext : ∀ a o, a ≠ g.fa → H a = some o → G a = some o
  le : Le HF GF
  new : ∀ a, Mo H a → HF a = none → GF a = none
  sub : Le GF G
theorem Step.refl {g : Gh} {H HF : Hp} (s : Le HF H) : Step g H HF H HF := ⟨fun _ _ _ h => h, Le.refl _, fun _ _ h => h, s⟩
theorem FeedAt.ne {g : Gh} {H HF : Hp} {f : Feed} (h : FeedAt g H HF f) : H g.fa ≠ none := by
  rw [h.d]
  exact Option.some_ne_none _
theorem Step.live {g : Gh} {H HF G GF : Hp} {f : Feed} (s : Step g H HF G GF) (h : FeedAt g G GF f) {a : Addr} (e : H a ≠ none) : G a ≠ none := by
  by_cases q : a = g.fa
  · rw [q]
    exact h.ne
  · cases r : H a with
    | none => exact absurd r e
    | some o =>
      rw [s.ext a o q r]
      exact Option.some_ne_none _
theorem Step.liveM {g : Gh} {H HF G GF : Hp} {f : Feed} (s : Step g H HF G GF) (h : FeedAt g G GF f) {a : Addr} (e : Mo H a) : Mo G a := by
  by_cases q : a = g.fa
  · rw [q]
    exact mo h.d
  · obtain ⟨o, e1, e2⟩ := e
    exact ⟨o, s.ext a o q e1, e2⟩
theorem Step.dead {g : Gh} {H HF G GF : Hp} {f : Feed} (s : Step g H HF G GF) (h : FeedAt g G GF f) {a : Addr} (e : G a = none) : H a = none := by
  cases r : H a with
  | none => rfl
  | some o => exact absurd e (s.live h (by rw [r]; exact Option.some_ne_none _))
theorem Step.trans {g : Gh} {H HF G GF I IF : Hp} {f : Feed} (a : Step g H HF G GF) (h : FeedAt g G GF f) (b : Step g G GF I IF) : Step g H HF I IF :=
  ⟨fun x o q e => b.ext x o q (a.ext x o q e), a.le.trans b.le, fun x e q => b.new x (a.liveM h e) (a.new x e q), b.sub⟩

/-- a sequence or a datum that may be read now -/
def Top (K : PySem.W.Frag) (g : Gh) (H HF : Hp) (v : V) (d : PyData) : Prop :=
  DR K HF v d ∨ ∃ p vs ds, v = .ref p ∧ d = .list ds ∧ p ≠ g.fa ∧ H p = some (.lst vs) ∧ DRs K HF vs ds
theorem Top.step {K : PySem.W.Frag} {g : Gh} {H HF G GF : Hp} {v : V} {d : PyData} (t : Top K g H HF v d) (s : Step g H HF G GF) : Top K g G GF v d := by
  rcases t with h | ⟨p, vs, ds, e1, e2, e3, e4, e5⟩
  · exact .inl (h.mono s.le)
  · exact .inr ⟨p, vs, ds, e1, e2, e3, s.ext _ _ e3 e4, e5.mono s.le⟩

/-- a growing dict at an address -/
def DkAt (K : PySem.W.Frag) (H HF : Hp) (p : Addr) : Dk → Prop
  | .I kvs => ∃ xs : List (Key × V), H p = some (.dK xs) ∧ Paired (fun x q => x.1 = Sum.inl q.1 ∧ DR K HF x.2 q.2) xs kvs
  | .T kvs => ∃ xs : List (List Key × V), H p = some (.dT xs) ∧ Paired (fun x q => x.1 = q.1.map Sum.inl ∧ DR K HF x.2 q.2) xs kvs
theorem paired_imp {α β : Type} {F G : α → β → Prop} (h : ∀ a b, F a b → G a b) : ∀ {as : List α} {bs : List β}, Paired F as bs → Paired G as bs
  | _, _, .nil => .nil
  | _, _, .cons x r => .cons (h _ _ x) (paired_imp h r)
theorem DkAt.mono {K : PySem.W.Frag} {H HF G GF : Hp} {p : Addr} {k : Dk} (h : DkAt K H HF p k) (e : ∀ o, H p = some o → G p = some o) (l : Le HF GF) : DkAt K G GF p k := by
  cases k with
  | I kvs =>
    obtain ⟨xs, h1, h2⟩ := h
    exact ⟨xs, e _ h1, paired_imp (fun _ _ z => ⟨z.1, z.2.mono l⟩) h2⟩
  | T kvs =>
    obtain ⟨xs, h1, h2⟩ := h
    exact ⟨xs, e _ h1, paired_imp (fun _ _ z => ⟨z.1, z.2.mono l⟩) h2⟩
theorem DkAt.ne {K : PySem.W.Frag} {g : Gh} {H HF HF2 : Hp} {f : Feed} {p : Addr} {k : Dk} (h : DkAt K H HF p k) (r : FeedAt g H HF2 f) : p ≠ g.fa := fun q => by
  subst q
  cases k with
  | I kvs =>
    obtain ⟨xs, h1, h2⟩ := h
    have z := r.d.symm.trans h1
    unfold feedO at z
    injection z with z
    injection z with z
    subst z
    cases h2 with
    | cons a b => cases a.1
  | T kvs =>
    obtain ⟨xs, h1, h2⟩ := h
    have z := r.d.symm.trans h1
    unfold feedO at z
    cases z
theorem DkAt.nl {K : PySem.W.Frag} {H HF : Hp} {p : Addr} {k : Dk} (h : DkAt K H HF p k) {vs : List V} : H p ≠ some (.lst vs) := fun e => by
  cases k with
  | I kvs =>
    obtain ⟨xs, h1, h2⟩ := h
    rw [e] at h1
    cases h1
  | T kvs =>
    obtain ⟨xs, h1, h2⟩ := h
    rw [e] at h1
    cases h1
theorem DkAt.mo {K : PySem.W.Frag} {H HF : Hp} {p : Addr} {k : Dk} (h : DkAt K H HF p k) : Mo H p := by
  cases k with
  | I kvs =>
    obtain ⟨xs, h1, h2⟩ := h
    exact Dn.mo h1
  | T kvs =>
    obtain ⟨xs, h1, h2⟩ := h
    exact Dn.mo h1
theorem DkAt.some {K : PySem.W.Frag} {H HF : Hp} {p : Addr} {k : Dk} (h : DkAt K H HF p k) : H p ≠ none := fun e => by
  cases k with
  | I kvs =>
    obtain ⟨xs, h1, h2⟩ := h
    rw [e] at h1
    cases h1
  | T kvs =>
    obtain ⟨xs, h1, h2⟩ := h
    rw [e] at h1
    cases h1
def SlotOk (K : PySem.W.Frag) (g : Gh) (H HF : Hp) (x : Option (Option V)) : Slot → Prop
  | .emp => True
  | .dat d => ∃ v, x = some (some v) ∧ DR K HF v d
  | .own ds => ∃ p vs, x = some (some (.ref p)) ∧ g.H0 p = none ∧ HF p = none ∧ H p = some (.lst vs) ∧ DRs K HF vs ds
  | .feed => x = some (some (.ref g.fa))
  | .scr ns => ∃ a, x = some (some (.ref a)) ∧ SqL K HF a (ns.map V.int)
  | .dct k => ∃ p, x = some (some (.ref p)) ∧ g.H0 p = none ∧ HF p = none ∧ DkAt K H HF p k
  | .key ks => ∃ a, x = some (some (.ref a)) ∧ HF a = some (.tup (ks.map V.int))
structure Rel (K : PySem.W.Frag) (g : Gh) (σ : St) (H HF : Hp) (ρ : Rho) (f : Feed) : Prop where
  sub : Le HF H
  feed : FeedAt g H HF f
  ext : ∀ a o, a ≠ g.fa → g.H0 a = some o → H a = some o
  le : Le g.HF0 HF
  new : ∀ a, Mo g.H0 a → g.HF0 a = none → HF a = none
  len : σ.length = ρ.length
  slot : ∀ (i : Nat) (s : Slot), ρ[i]? = some s → SlotOk K g H HF σ[i]? s
  sep : ∀ (i j : Nat) (ds es : List PyData), ρ[i]? = some (.own ds) → ρ[j]? = some (.own es) → σ[i]? = σ[j]? → i = j
  sepD : ∀ (i j : Nat) (k l : Dk), ρ[i]? = some (.dct k) → ρ[j]? = some (.dct l) → σ[i]? = σ[j]? → i = j
theorem ne_fa {g : Gh} {H HF : Hp} {f : Feed} {p : Addr} {vs : List V} (h : FeedAt g H HF f) (e : H p = some (.lst vs)) : p ≠ g.fa := fun q => by
  rw [q, h.d] at e
  cases e
theorem Rel.step {K : PySem.W.Frag} {g : Gh} {σ : St} {H HF G GF : Hp} {ρ : Rho} {f f1 : Feed} (r : Rel K g σ H HF ρ f) (s : Step g H HF G GF) (h : FeedAt g G GF f1) : Rel K g σ G GF ρ f1 where
  sub := s.sub
  feed := h
  ext := fun a o q e => s.ext a o q (r.ext a o q e)
  le := r.le.trans s.le
  new := fun a e q => s.new a (by
    by_cases z : a = g.fa
    · rw [z]
      exact mo r.feed.d
    · obtain ⟨o, e1, e2⟩ := e
      exact ⟨o, r.ext a o z e1, e2⟩) (r.new a e q)
  len := r.len
  slot := fun i x e => by
    have z := r.slot i x e
    cases x with
    | emp => trivial
    | dat d =>
      obtain ⟨v, z1, z2⟩ := z
      exact ⟨v, z1, z2.mono s.le⟩
    | own ds =>
      obtain ⟨p, vs, z1, z2, z3, z4, z5⟩ := z
      exact ⟨p, vs, z1, z2, s.new p (mo z4) z3, s.ext p _ (ne_fa r.feed z4) z4, z5.mono s.le⟩
    | feed => exact z
    | scr ns =>
      obtain ⟨a, z1, z2⟩ := z
      exact ⟨a, z1, s.le.sqL z2⟩
    | dct k =>
      obtain ⟨p, z1, z2, z3, z4⟩ := z
      exact ⟨p, z1, z2, s.new p z4.mo z3, z4.mono (fun o => s.ext p o (z4.ne r.feed)) s.le⟩
    | key ks =>
      obtain ⟨a, z1, z2⟩ := z
      exact ⟨a, z1, s.le _ _ z2⟩
  sep := r.sep
  sepD := r.sepD

/-- a value that an expression gave: σ, H the state ahead of it -/
def RR (K : PySem.W.Frag) (g : Gh) (σ : St) (H G GF : Hp) (v : V) : RV → Prop
  | .dat d => DR K GF v d
  | .own ds => ∃ p vs, v = .ref p ∧ H p = none ∧ GF p = none ∧ G p = some (.lst vs) ∧ DRs K GF vs ds
  | .lent i ds => ∃ p vs, v = .ref p ∧ σ[i]? = some (some v) ∧ g.H0 p = none ∧ GF p = none ∧ G p = some (.lst vs) ∧ DRs K GF vs ds
  | .feed => v = .ref g.fa
section
variable {K : PySem.W.Frag} {g : Gh} {σ : St} {H HF G GF I IF : Hp} {v : V} {rv : RV} {f : Feed} {d : PyData}
theorem RR.step (r : RR K g σ H G GF v rv) (h : FeedAt g G GF f) (s : Step g G GF I IF) : RR K g σ H I IF v rv := by
  cases rv with
  | dat d => exact DR.mono s.le r
  | own ds =>
    obtain ⟨p, vs, e1, e2, e3, e4, e5⟩ := r
    exact ⟨p, vs, e1, e2, s.new p (mo e4) e3, s.ext p _ (ne_fa h e4) e4, e5.mono s.le⟩
  | lent i ds =>
    obtain ⟨p, vs, e1, e2, e0, e3, e4, e5⟩ := r
    exact ⟨p, vs, e1, e2, e0, s.new p (mo e4) e3, s.ext p _ (ne_fa h e4) e4, e5.mono s.le⟩
  | feed => exact r
theorem RR.back (r : RR K g σ G I IF v rv) (h : FeedAt g G GF f) (s : Step g H HF G GF) : RR K g σ H I IF v rv := by
  cases rv with
  | dat d => exact r
  | own ds =>
    obtain ⟨p, vs, e1, e2, e3⟩ := r
    exact ⟨p, vs, e1, s.dead h e2, e3⟩
  | lent i ds => exact r
  | feed => exact r
theorem RR.top (r : RR K g σ H G GF v rv) (h : FeedAt g G GF f) (e : rv.peek = some d) : Top K g G GF v d := by
  cases rv with
  | dat c =>
    cases e
    exact .inl r
  | own ds =>
    cases e
    obtain ⟨p, vs, e1, e2, e3, e4, e5⟩ := r
    exact .inr ⟨p, vs, ds, e1, rfl, ne_fa h e4, e4, e5⟩
  | lent i ds =>
    cases e
    obtain ⟨p, vs, e1, e2, e0, e3, e4, e5⟩ := r
    exact .inr ⟨p, vs, ds, e1, rfl, ne_fa h e4, e4, e5⟩
  | feed => cases e
/-- a new list may be told as a datum from here on -/
theorem RR.frz (r : RR K g σ H G GF v rv) (h : FeedAt g G GF f) (s : Step g H HF G GF) (e : rv.data = some d) : ∃ IF, Step g H HF G IF ∧ FeedAt g G IF f ∧ DR K IF v d := by
  cases rv with
  | dat c =>
    cases e
    exact ⟨GF, s, h, r⟩
  | own ds =>
    cases e
    obtain ⟨p, vs, e1, e2, e3, e4, e5⟩ := r
    subst e1
    have np : g.fa ≠ p := fun q => ne_fa h e4 q.symm
    have l1 : Le GF (upd GF p (.lst vs)) := fun a o q => by
      rw [upd_ne (ne_of_none q e3)]
      exact q
    refine ⟨upd GF p (.lst vs), ⟨s.ext, s.le.trans l1, fun a x y => ?_, fun a o q => ?_⟩, ⟨h.d, ?_, ?_⟩, .lst upd_same (e5.mono l1)⟩
    · rw [upd_ne (fun z => x.some (by rw [z]; exact e2))]
      exact s.new a x y
    · by_cases z : a = p
      · subst z
        rw [upd_same] at q
        rw [e4]
        exact q
      · rw [upd_ne z] at q
        exact s.sub a o q
    · rw [upd_ne np]
      exact h.nf
    · rw [upd_ne (ne_of_none h.c e3)]
      exact h.c
  | lent i ds => cases e
  | feed => cases e
end

/-! ### readings by data -/
def Xd (K : PySem.W.Frag) (H HF : Hp) (od : Option Addr) (vs : List (Str × PyData)) : Prop := ∃ xs, XdH HF od xs ∧ xs.map (·.1) = vs.map (·.1) ∧ DRs K HF (xs.map (·.2)) (vs.map (·.2))
/-- what is wanted of an outcome -/
def ROk {α : Type} (K : PySem.W.Frag) (mg : Str → Option Value) (g : Gh) (H HF : Hp) (E : XK) (r : R α) (P : α → Feed → Prop) : Prop := match r with
  | .no => False
  | .ok a f => P a f
  | .ex c vs f => ∀ (C : Addr) (od : Option Addr) (G GF : Hp), mg c = some (.ref C) → Step g H HF G GF → FeedAt g G GF f → Xd K G GF od vs → E (.ref C) od G
def Fin (K : PySem.W.Frag) (g : Gh) (σ : St) (H HF : Hp) (Q : VK) (rv : RV) (f : Feed) : Prop := ∀ v G GF, Step g H HF G GF → FeedAt g G GF f → RR K g σ H G GF v rv → Q v G
abbrev Wish := St → XK
def tD (K : PySem.W.Frag) (mg : Str → Option Value) (W : Wish) (e : Ex) : TE := fun σ H Q => ∃ g HF ρ f, Rel K g σ H HF ρ f ∧ ROk K mg g H HF (W σ) (e ρ f) (Fin K g σ H HF Q)
section
variable {K : PySem.W.Frag} {mg : Str → Option Value} {W : Wish} {g : Gh} {σ : St} {H HF G GF : Hp} {ρ : Rho} {f f1 : Feed} {e e2 : Ex} {Q : VK} {E : XK}
theorem ROk.mono {α : Type} {r : R α} {P P2 : α → Feed → Prop} (h : ROk K mg g H HF E r P) (i : ∀ a f, P a f → P2 a f) : ROk K mg g H HF E r P2 := by
  cases r with
  | no => exact h
  | ok a f => exact i a f h
  | ex c vs f => exact h
theorem ROk.later {α : Type} {r : R α} {P : α → Feed → Prop} (h : ROk K mg g H HF E r P) (hf : FeedAt g G GF f) (s : Step g H HF G GF) : ROk K mg g G GF E r P := by
  cases r with
  | no => exact h
  | ok a f => exact h
  | ex c vs f => exact fun C od I IF q s2 h2 x => h C od I IF q (s.trans hf s2) h2 x
theorem ROk.of_bind {α β : Type} {r : R α} {k : α → Feed → R β} {P : β → Feed → Prop} (h : ROk K mg g H HF E (r.bind k) P) : ROk K mg g H HF E r fun a f => ROk K mg g H HF E (k a f) P := by
  cases r with
  | no => exact h
  | ok a f => exact h
  | ex c vs f => exact h
/-- an expression, then the rest -/
theorem tD_bind {β : Type} {k : RV → Feed → R β} {P : β → Feed → Prop} (r : Rel K g σ H HF ρ f) (h : ROk K mg g H HF (W σ) ((e ρ f).bind k) P)
    (c : ∀ rv f1 v G GF, Rel K g σ G GF ρ f1 → Step g H HF G GF → RR K g σ H G GF v rv → ROk K mg g G GF (W σ) (k rv f1) P → Q v G) : tD K mg W e σ H Q :=
  ⟨g, HF, ρ, f, r, h.of_bind.mono fun rv f1 q v G GF s hf rr => c rv f1 v G GF (r.step s hf) s rr (q.later hf s)⟩
def pk {β : Type} (r : R RV) (k : PyData → Feed → R β) : R β := r.bind fun rv f => match rv.peek with
  | some d => k d f
  | none => .no
def dt {β : Type} (r : R RV) (k : PyData → Feed → R β) : R β := r.bind fun rv f => match rv.data with
  | some d => k d f
  | none => .no
/-- .. read -/
theorem tD_pk {β : Type} {k : PyData → Feed → R β} {P : β → Feed → Prop} (r : Rel K g σ H HF ρ f) (h : ROk K mg g H HF (W σ) (pk (e ρ f) k) P)
    (c : ∀ d f1 v G GF, Rel K g σ G GF ρ f1 → Step g H HF G GF → Top K g G GF v d → ROk K mg g G GF (W σ) (k d f1) P → Q v G) : tD K mg W e σ H Q :=
  tD_bind r h fun rv f1 v G GF r1 s rr q => by
    cases z : rv.peek with
    | none =>
      simp only [z] at q
      exact q.elim
    | some d =>
      simp only [z] at q
      exact c d f1 v G GF r1 s (rr.top r1.feed z) q
/-- .. told as a datum -/
theorem tD_dt {β : Type} {k : PyData → Feed → R β} {P : β → Feed → Prop} (r : Rel K g σ H HF ρ f) (h : ROk K mg g H HF (W σ) (dt (e ρ f) k) P)
    (c : ∀ d f1 v G GF, Rel K g σ G GF ρ f1 → Step g H HF G GF → DR K GF v d → ROk K mg g G GF (W σ) (k d f1) P → Q v G) : tD K mg W e σ H Q :=
  ⟨g, HF, ρ, f, r, (ROk.of_bind h).mono fun rv f1 q v G GF s hf rr => by
    cases z : rv.data with
    | none =>
      simp only [z] at q
      exact (show False from q).elim
    | some d =>
      simp only [z] at q
      obtain ⟨IF, s2, h2, dr⟩ := rr.frz hf s z
      exact c d f1 v G IF (r.step s2 h2) s2 dr (q.later h2 s2)⟩
theorem pe_mono {X : Cx} {e : Expr} {t t2 : TE} (h : PE X e t) (i : ∀ σ H Q, t2 σ H Q → t σ H Q) : PE X e t2 := ⟨fun pins s σ H Q I q => h.run pins s σ H Q I (i σ H Q q)⟩
end
abbrev DE (X : Cx) (W : Wish) (e : Expr) (x : Ex) : Prop := PE X e (tD X.K X.mg W x)

/-! ### constants, names -/
def cC (d : PyData) : Ex := fun _ f => .ok (.dat d) f
def cVar (i : Nat) : Ex := fun ρ f => match ρ[i]? with
  | some (.dat d) => .ok (.dat d) f
  | some (.own ds) => .ok (.lent i ds) f
  | some .feed => .ok .feed f
  | some (.key ks) => .ok (.dat (.tuple (ks.map .int))) f
  | _ => .no
section
variable {X : Cx} {W : Wish}
theorem de_const {e : Expr} {v : V} {d : PyData} (h : PE X e (tC v)) (r : ∀ HF, DR X.K HF v d) : DE X W e (cC d) := pe_mono h fun σ H Q ⟨g, HF, ρ, f, rel, q⟩ =>
  (show Fin X.K g σ H HF Q (.dat d) f from q) v H HF (Step.refl rel.sub) rel.feed (r HF)
theorem de_int {i j pos} : DE X W (.Constant (.int i) j pos) (cC (.int i)) := de_const pe_int fun _ => .int i
theorem de_bl {b j pos} : DE X W (.Constant (.bool b) j pos) (cC (.bool b)) := de_const pe_bl fun _ => .bl b
theorem de_non {j pos} : DE X W (.Constant .none j pos) (cC .none) := de_const pe_non fun _ => .non
theorem de_str {x j pos} : DE X W (.Constant (.str x) j pos) (cC (.str x)) := de_const pe_str fun _ => .str x
theorem de_var {e : Expr} {i : Nat} (h : PE X e (tVar i)) : DE X W e (cVar i) := pe_mono h fun σ H Q ⟨g, HF, ρ, f, rel, q⟩ => by
  unfold cVar at q
  cases z : ρ[i]? with
  | none =>
    simp only [z] at q
    exact (show False from q).elim
  | some s =>
    have k := rel.slot i s z
    cases s with
    | emp =>
      simp only [z] at q
      exact (show False from q).elim
    | dat d =>
      simp only [z] at q
      obtain ⟨v, k1, k2⟩ := k
      exact ⟨v, k1, (show Fin X.K g σ H HF Q (.dat d) f from q) v H HF (Step.refl rel.sub) rel.feed k2⟩
    | own ds =>
      simp only [z] at q
      obtain ⟨p, vs, k1, k2, k3, k4, k5⟩ := k
      exact ⟨.ref p, k1, (show Fin X.K g σ H HF Q (.lent i ds) f from q) (.ref p) H HF (Step.refl rel.sub) rel.feed ⟨p, vs, rfl, k1, k2, k3, k4, k5⟩⟩
    | feed =>
      simp only [z] at q
      exact ⟨.ref g.fa, k, (show Fin X.K g σ H HF Q .feed f from q) (.ref g.fa) H HF (Step.refl rel.sub) rel.feed rfl⟩
    | scr ns =>
      simp only [z] at q
      exact (show False from q).elim
    | dct k =>
      simp only [z] at q
      exact (show False from q).elim
    | key ks =>
      simp only [z] at q
      obtain ⟨a, k1, k2⟩ := k
      exact ⟨.ref a, k1, (show Fin X.K g σ H HF Q (.dat (.tuple (ks.map .int))) f from q) (.ref a) H HF (Step.refl rel.sub) rel.feed (.tup (.inl (.inl k2)) (DRs.ints ks))⟩
end
end Dn

end
section
set_option maxHeartbeats 4000000
/-! tuple * k for k below two -/
namespace Dn
open PySem PySem.Spec L2
open PySem.AutoSeq1 (wpAny_loadPart')
open PyProof.Rows (IsTup)

theorem tup_mul_one (l : Addr) (its : Array Value) (n : Nat) (dd : Option Addr) (sl : Array (Option Value)) (x : Int) (u : Tok)
    (c0 : (decide (x < -(2 ^ 63)) || decide (x ≥ 2 ^ 63)) = false) (c1 : (its.isEmpty || x == 1) = true) :
    Meets (Builtin.«tuple.__mul__» ⟨[.ref l, .int x u], []⟩) (fun _ R s =>
      s.heap.get? l = some { cls := .type "tuple", dict := dd, data := .seq its n, slots := sl } ∧ R (.ok (.ret (.ref l))) s) :=
  .of_wp fun prog w A R s h => by
    obtain ⟨hp, g, d, tk, os⟩ := s
    obtain ⟨hl, h⟩ := h
    have f1 := AutoSeq1.idx_int
    wp_walk using wpAny_loadPart' hl
    repeat (first
      | (refine wpAny_ite_false (decide_eq_false (by rw [c0]; exact Bool.false_ne_true)) ?_; wp_walk using wpAny_loadPart' hl)
      | (refine wpAny_ite_true (decide_eq_true (by rw [c1])) ?_; wp_walk using wpAny_loadPart' hl))
    exact ⟨_, rfl, h⟩
theorem tup_mul_none (l : Addr) (its : Array Value) (n : Nat) (dd : Option Addr) (sl : Array (Option Value)) (x : Int) (u : Tok)
    (c0 : (decide (x < -(2 ^ 63)) || decide (x ≥ 2 ^ 63)) = false) (c1 : (its.isEmpty || x == 1) = false) (c2 : (decide (x ≤ 0) || its.isEmpty) = true) :
    Meets (Builtin.«tuple.__mul__» ⟨[.ref l, .int x u], []⟩) (fun _ R s =>
      s.heap.get? l = some { cls := .type "tuple", dict := dd, data := .seq its n, slots := sl } ∧
        R (.ok (.ret (.ref s.heap.objs.size))) { s with heap := s.heap.push { cls := .type "tuple", data := .seq #[] }, toks := s.toks }) :=
  .of_wp fun prog w A R s h => by
    obtain ⟨hp, g, d, tk, os⟩ := s
    obtain ⟨hl, h⟩ := h
    have f1 := AutoSeq1.idx_int
    wp_walk using wpAny_loadPart' hl
    repeat (first
      | (refine wpAny_ite_false (decide_eq_false (by rw [c0]; exact Bool.false_ne_true)) ?_; wp_walk using wpAny_loadPart' hl)
      | (refine wpAny_ite_false (decide_eq_false (by rw [c1]; exact Bool.false_ne_true)) ?_; wp_walk using wpAny_loadPart' hl)
      | (refine wpAny_ite_true (decide_eq_true (by rw [c2])) ?_; wp_walk using wpAny_loadPart' hl))
    exact ⟨_, rfl, h⟩
def rRep1 (K : PySem.W.Frag) : R2 := fun x y H Q => ∃ l k xs, x = .ref l ∧ y = .int k ∧ SqT K H l xs ∧ -(2 ^ 60) ≤ k ∧ k ≤ 2 ^ 60 ∧ (xs = [] ∨ k ≤ 1) ∧
  ((xs = [] ∨ k = 1) → Q (.ref l) H) ∧ (xs ≠ [] → k ≤ 0 → ∀ p, H p = none → Q (.ref p) (upd H p (.tup [])))
theorem op_rep1 {X : Cx} : OpR X (binaryOp .Mult) (rRep1 X.K) := by
  intro pins s σ H x y v u Q I rx ry h
  obtain ⟨l, k, xs, rfl, rfl, hT, h1, h2, h3, q1, q2⟩ := h
  cases rx
  obtain ⟨t, rfl⟩ := ry
  obtain ⟨its, r, ⟨⟨cls, dd, data, sl⟩, ho, hc, n, hd⟩, hs⟩ := I.tuple hT
  simp only at hc hd
  subst hc hd
  have c0 : (decide (k < -(2 ^ 63)) || decide (k ≥ 2 ^ 63)) = false := by
    rw [decide_eq_false (by omega), decide_eq_false (by omega)] <;> rfl
  have emp : its.toArray.isEmpty = true ↔ xs = [] := by
    constructor
    · intro e
      cases its with
      | nil => cases r; rfl
      | cons a b => simp at e
    · intro e
      subst e
      cases r
      rfl
  by_cases c : xs = [] ∨ k = 1
  · have c1 : (its.toArray.isEmpty || k == 1) = true := by
      rcases c with c | c
      · rw [emp.mpr c]; rfl
      · rw [c]; simp
    refine wpAny_binaryOp_repeat_ref (T := "tuple") (U := "int") (by decide) ⟨_, ho, rfl⟩ (fun s' => typeIs_int s' k t) noFill_tuple_mul F.fills_int_mul F.slot_int_rmul repeat_tuple F.slot_int_index.lookup
      (call_meets F.slot_int_rmul (typeIs_int s k t) F.entry_int_rmul (F.args_int_rmul_2 _ _) (int_rmul_tuple k t l its.toArray n dd sl)
        ⟨ho, rfl, ⟨_, ho, rfl⟩, call_meets F.slot_tuple_mul ⟨_, ho, rfl⟩ F.entry_tuple_mul (F.args_tuple_mul_2 _ _) (tup_mul_one l its.toArray n dd sl k t c0 c1) ⟨ho, ?_⟩⟩)
    exact ⟨.ref l, H, I, rfl, q1 c⟩
  · have nx : xs ≠ [] := fun e => c (.inl e)
    have nk : k ≠ 1 := fun e => c (.inr e)
    have ie : its.toArray.isEmpty = false := by
      cases z : its.toArray.isEmpty with
      | false => rfl
      | true => exact absurd (emp.mp z) nx
    have c1 : (its.toArray.isEmpty || k == 1) = false := by
      rw [ie, Bool.false_or]
      exact beq_eq_false_iff_ne.mpr nk
    have c2 : (decide (k ≤ 0) || its.toArray.isEmpty) = true := by
      rw [decide_eq_true (show k ≤ 0 by rcases h3 with h3 | h3; exact absurd h3 nx; omega)]; rfl
    refine wpAny_binaryOp_repeat_ref (T := "tuple") (U := "int") (by decide) ⟨_, ho, rfl⟩ (fun s' => typeIs_int s' k t) noFill_tuple_mul F.fills_int_mul F.slot_int_rmul repeat_tuple F.slot_int_index.lookup
      (call_meets F.slot_int_rmul (typeIs_int s k t) F.entry_int_rmul (F.args_int_rmul_2 _ _) (int_rmul_tuple k t l its.toArray n dd sl)
        ⟨ho, rfl, ⟨_, ho, rfl⟩, call_meets F.slot_tuple_mul ⟨_, ho, rfl⟩ F.entry_tuple_mul (F.args_tuple_mul_2 _ _) (tup_mul_none l its.toArray n dd sl k t c0 c1 c2) ⟨ho, ?_⟩⟩)
    refine ⟨.ref s.heap.objs.size, _, I.laid (t' := s.toks) (o := .tup []) (fun b ob q => Heap.get?_push_of_some _ q) (Nat.le_refl _) ?_, rfl, q2 nx (by rcases h3 with h3 | h3; exact absurd h3 nx; omega) _ (I.hok.fresh (Nat.le_refl _))⟩
    exact ⟨Nat.zero_le _, _, .nil, IsTup.new _ _⟩
end Dn

end
section
set_option maxHeartbeats 4000000
/-! operations on data -/
namespace Dn
open PySem PySem.Spec L2
abbrev Op2 := PyData → PyData → Option RV
abbrev Op1 := PyData → Option RV
def give (o : Option RV) (f : Feed) : R RV := match o with
  | some rv => .ok rv f
  | none => .no
def cBin (o : Op2) (a b : Ex) : Ex := fun ρ f => pk (a ρ f) fun x f1 => pk (b ρ f1) fun y f2 => give (o x y) f2
def cUn (o : Op1) (a : Ex) : Ex := fun ρ f => pk (a ρ f) fun x f1 => give (o x) f1
/-- what an operation's reading needs -/
structure At (K : PySem.W.Frag) (g : Gh) (H HF : Hp) (f : Feed) : Prop where
  sub : Le HF H
  feed : FeedAt g H HF f
def Ends1 (K : PySem.W.Frag) (g : Gh) (H HF : Hp) (f : Feed) (rv : RV) (Q : VK) : Prop := ∀ v G GF, Step g H HF G GF → FeedAt g G GF f → RR K g [] H G GF v rv → Q v G
def BinOk (K : PySem.W.Frag) (r : R2) (o : Op2) : Prop := ∀ g H HF f x y d e rv, At K g H HF f → Top K g H HF x d → Top K g H HF y e → o d e = some rv → ∀ Q, Ends1 K g H HF f rv Q → r x y H Q
def UnOk (K : PySem.W.Frag) (r : V → Hp → VK → Prop) (o : Op1) : Prop := ∀ g H HF f x d rv, At K g H HF f → Top K g H HF x d → o d = some rv → ∀ Q, Ends1 K g H HF f rv Q → r x H Q
theorem RR.any {K : PySem.W.Frag} {g : Gh} {σ : St} {H G GF : Hp} {v : V} {rv : RV} (r : RR K g [] H G GF v rv) : RR K g σ H G GF v rv := by
  cases rv with
  | dat d => exact r
  | own ds => exact r
  | lent i ds =>
    obtain ⟨p, vs, e1, e2, e3⟩ := r
    simp at e2
  | feed => exact r
section
variable {X : Cx} {W : Wish} {K : PySem.W.Frag} {mg : Str → Option Value} {fa fb : Ex} {r r2 : R2} {o o2 : Op2}
theorem give_end {g : Gh} {σ : St} {H HF G GF : Hp} {f : Feed} {E : XK} {Q : VK} {x : Option RV} (rel : FeedAt g G GF f) (st : Step g H HF G GF)
    (q : ROk K mg g G GF E (give x f) (Fin K g σ H HF Q)) : ∃ rv, x = some rv ∧ Ends1 K g G GF f rv Q := by
  cases x with
  | none => exact (show False from q).elim
  | some rv => exact ⟨rv, rfl, fun v I IF s h rr => (show Fin K g σ H HF Q rv f from q) v I IF (st.trans rel s) h (rr.any.back rel st)⟩
theorem bin_read (hb : BinOk K r o) {σ : St} {H : Hp} {Q : VK} (h : tD K mg W (cBin o fa fb) σ H Q) : tOp r (tD K mg W fa) (tD K mg W fb) σ H Q := by
  obtain ⟨g, HF, ρ, f, rel, q⟩ := h
  refine tD_pk rel q fun d f1 x G GF r1 s1 t1 q1 => tD_pk r1 q1 fun e f2 y I IF r2 s2 t2 q2 => ?_
  obtain ⟨rv, z, k⟩ := give_end r2.feed (s1.trans r1.feed s2) q2
  exact hb g I IF f2 x y d e rv ⟨r2.sub, r2.feed⟩ (t1.step s2) t2 z Q k
theorem un_read {r : V → Hp → VK → Prop} {o : Op1} (hb : UnOk K r o) {σ : St} {H : Hp} {Q : VK} (h : tD K mg W (cUn o fa) σ H Q) : tUn r (tD K mg W fa) σ H Q := by
  obtain ⟨g, HF, ρ, f, rel, q⟩ := h
  refine tD_pk rel q fun d f1 x G GF r1 s1 t1 q1 => ?_
  obtain ⟨rv, z, k⟩ := give_end r1.feed s1 q1
  exact hb g G GF f1 x d rv ⟨r1.sub, r1.feed⟩ t1 z Q k
theorem BinOk.or (h : BinOk K r o) (h2 : BinOk K r2 o2) : BinOk K (fun x y H Q => r x y H Q ∨ r2 x y H Q) fun d e => (o d e).or (o2 d e) := fun g H HF f x y d e rv a t u z Q k => by
  replace z : (o d e).or (o2 d e) = some rv := z
  cases q : o d e with
  | some w =>
    rw [q] at z
    exact .inl (h g H HF f x y d e rv a t u (q.trans z) Q k)
  | none =>
    rw [q] at z
    exact .inr (h2 g H HF f x y d e rv a t u z Q k)
theorem de_bin {op : Operator} {a b : Expr} {pos : Pos} (ho : OpR X (binaryOp op) r) (hb : BinOk X.K r o) (ha : DE X W a fa) (hc : DE X W b fb) : DE X W (.BinOp a op b pos) (cBin o fa fb) :=
  pe_mono (pe_op ho ha hc) fun _ _ _ h => bin_read hb h
theorem de_un {op : UnaryOp} {a : Expr} {pos : Pos} {r : V → Hp → VK → Prop} {o : Op1} (ho : UnR X (unaryOp op) r) (hb : UnOk X.K r o) (ha : DE X W a fa) : DE X W (.UnaryOp op a pos) (cUn o fa) :=
  pe_mono (pe_un ho ha) fun _ _ _ h => un_read hb h
theorem de_cmp {op : CmpOp} {a b : Expr} {pos : Pos} (ho : OpR X (compareOp op) r) (hb : BinOk X.K r o) (ha : DE X W a fa) (hc : DE X W b fb) (hm : behindInMarks op b = false) : DE X W (.Compare a [op] [b] pos) (cBin o fa fb) :=
  pe_mono (pe_cmpR ho ha hc hm) fun _ _ _ h => bin_read hb h
end
/-! ### what reads as what -/
section
variable {K : PySem.W.Frag} {g : Gh} {H HF : Hp} {v : V}
theorem Top.int {i : Int} (t : Top K g H HF v (.int i)) : v = .int i := by
  rcases t with h | ⟨p, vs, ds, e1, e2, e3⟩
  · cases h; rfl
  · cases e2
theorem Top.bl {b : Bool} (t : Top K g H HF v (.bool b)) : v = .bl b := by
  rcases t with h | ⟨p, vs, ds, e1, e2, e3⟩
  · cases h; rfl
  · cases e2
theorem Top.str {x : Str} (t : Top K g H HF v (.str x)) : v = .str x := by
  rcases t with h | ⟨p, vs, ds, e1, e2, e3⟩
  · cases h; rfl
  · cases e2
theorem Top.non (t : Top K g H HF v .none) : v = .non := by
  rcases t with h | ⟨p, vs, ds, e1, e2, e3⟩
  · cases h; rfl
  · cases e2
theorem Top.lst {ds : List PyData} (t : Top K g H HF v (.list ds)) (l : Le HF H) : ∃ p vs, v = .ref p ∧ H p = some (.lst vs) ∧ DRs K HF vs ds := by
  rcases t with h | ⟨p, vs, es, e1, e2, e3, e4, e5⟩
  · cases h with
    | lst h r => exact ⟨_, _, rfl, l _ _ h, r⟩
  · cases e2
    exact ⟨p, vs, e1, e4, e5⟩
theorem Top.tup {ds : List PyData} (t : Top K g H HF v (.tuple ds)) : ∃ p vs, v = .ref p ∧ SqT K HF p vs ∧ DRs K HF vs ds := by
  rcases t with h | ⟨p, vs, es, e1, e2, e3⟩
  · cases h with
    | tup h r => exact ⟨_, _, rfl, h, r⟩
  · cases e2
end
/-! ### ends -/
section
variable {K : PySem.W.Frag} {g : Gh} {H HF : Hp} {f : Feed} {Q : VK}
theorem Ends1.now {v : V} {d : PyData} (a : At K g H HF f) (k : Ends1 K g H HF f (.dat d) Q) (r : DR K HF v d) : Q v H := k v H HF (Step.refl a.sub) a.feed r
theorem new_ne {p a : Addr} {o : HO} (hp : H p = none) (e : H a = some o) : a ≠ p := ne_of_none e hp
/-- a new tuple -/
theorem Ends1.newT {vs : List V} {ds : List PyData} (a : At K g H HF f) (k : Ends1 K g H HF f (.dat (.tuple ds)) Q) (r : DRs K HF vs ds) (p : Addr) (hp : H p = none) : Q (.ref p) (upd H p (.tup vs)) := by
  have hf : HF p = none := by
    cases z : HF p with
    | none => rfl
    | some o => rw [a.sub _ _ z] at hp; cases hp
  have l : Le HF (upd HF p (.tup vs)) := fun b o e => by
    rw [upd_ne (ne_of_none e hf)]
    exact e
  refine k (.ref p) (upd H p (.tup vs)) (upd HF p (.tup vs)) ⟨fun b o _ e => ?_, l, fun b x y => ?_, fun b o e => ?_⟩ ⟨?_, ?_, ?_⟩ (.tup (.inl (.inl upd_same)) (r.mono l))
  · rw [upd_ne (ne_of_none e hp)]
    exact e
  · rw [upd_ne (fun z => x.some (by rw [z]; exact hp))]
    exact y
  · by_cases z : b = p
    · subst z
      rw [upd_same] at e ⊢
      exact e
    · rw [upd_ne z] at e ⊢
      exact a.sub _ _ e
  · rw [upd_ne (ne_of_none a.feed.d hp)]
    exact a.feed.d
  · rw [upd_ne (ne_of_none a.feed.d hp)]
    exact a.feed.nf
  · exact l _ _ a.feed.c
/-- a new list -/
theorem Ends1.newL {vs : List V} {ds : List PyData} (a : At K g H HF f) (k : Ends1 K g H HF f (.own ds) Q) (r : DRs K HF vs ds) (p : Addr) (hp : H p = none) : Q (.ref p) (upd H p (.lst vs)) := by
  have hf : HF p = none := by
    cases z : HF p with
    | none => rfl
    | some o => rw [a.sub _ _ z] at hp; cases hp
  refine k (.ref p) (upd H p (.lst vs)) HF ⟨fun b o _ e => ?_, Le.refl _, fun b x y => y, fun b o e => ?_⟩ ⟨?_, a.feed.nf, a.feed.c⟩ ⟨p, vs, rfl, hp, hf, upd_same, r⟩
  · rw [upd_ne (ne_of_none e hp)]
    exact e
  · rw [upd_ne (ne_of_none e hf)]
    exact a.sub _ _ e
  · rw [upd_ne (ne_of_none a.feed.d hp)]
    exact a.feed.d
end
/-! ### whole numbers -/
def intsOp (c : Int → Int → Bool) (h : Int → Int → PyData) : Op2
  | .int i, .int j => if c i j then some (.dat (h i j)) else none
  | _, _ => none
def toV : PyData → V
  | .int i => .int i
  | .bool b => .bl b
  | .str x => .str x
  | _ => .non
theorem intsOp_ok {K : PySem.W.Frag} {C : Int → Int → Prop} {c : Int → Int → Bool} {h : Int → Int → Int} (hc : ∀ i j, c i j = true → C i j) : BinOk K (rI C fun i j => .int (h i j)) (intsOp c fun i j => .int (h i j)) :=
  fun g H HF f x y d e rv a t u z Q k => by
    cases d <;> cases e <;> try cases z
    rename_i i j
    unfold intsOp at z
    cases q : c i j with
    | false =>
      simp only [q] at z
      exact absurd z (by simp)
    | true =>
      simp only [q, if_true] at z
      cases z
      exact ⟨i, j, t.int, u.int, hc i j q, k.now a (.int _)⟩
theorem intsB_ok {K : PySem.W.Frag} {h : Int → Int → Bool} : BinOk K (rI0 fun i j => .bl (h i j)) (intsOp (fun _ _ => true) fun i j => .bool (h i j)) :=
  fun g H HF f x y d e rv a t u z Q k => by
    cases d <;> cases e <;> try cases z
    rename_i i j
    exact ⟨i, j, t.int, u.int, k.now a (.bl _)⟩
theorem intsI_ok {K : PySem.W.Frag} {h : Int → Int → Int} : BinOk K (rI0 fun i j => .int (h i j)) (intsOp (fun _ _ => true) fun i j => .int (h i j)) :=
  fun g H HF f x y d e rv a t u z Q k => by
    cases d <;> cases e <;> try cases z
    rename_i i j
    exact ⟨i, j, t.int, u.int, k.now a (.int _)⟩
def mulC (i j : Int) : Bool := decide (i.natAbs.log2 + j.natAbs.log2 < 1000000)
def divC (_ j : Int) : Bool := decide (0 < j) && decide (j.natAbs.log2 < 9000)
def modC (_ j : Int) : Bool := decide (0 < j)
def powC (i j : Int) : Bool := decide (0 ≤ j) && decide (j ≤ 1000000) && decide (i.natAbs < 2 ^ 64)
def oSub : Op2 := intsOp (fun _ _ => true) fun i j => .int (i - j)
def oDiv : Op2 := intsOp divC fun i j => .int (i / j)
def oMod : Op2 := intsOp modC fun i j => .int (i % j)
def oPow : Op2 := intsOp powC fun i j => .int (i ^ j.toNat)
/-- + -/
def catL : Op2
  | .list xs, .list ys => if xs.length + ys.length ≤ 100000 then some (.own (xs ++ ys)) else none
  | _, _ => none
def catT : Op2
  | .tuple xs, .tuple ys => if xs.length + ys.length ≤ 100000 then some (.dat (.tuple (xs ++ ys))) else none
  | _, _ => none
def catS : Op2
  | .str xs, .str ys => if xs.length + ys.length ≤ 100000 then some (.dat (.str (xs ++ ys))) else none
  | _, _ => none
def oAdd : Op2 := fun d e => (intsOp (fun _ _ => true) (fun i j => .int (i + j)) d e).or ((catL d e).or ((catT d e).or (catS d e)))
theorem ite_some {c : Prop} [Decidable c] {a b : RV} (h : (if c then some a else none) = some b) : c ∧ a = b := by
  by_cases q : c
  · rw [if_pos q] at h
    exact ⟨q, Option.some.inj h⟩
  · rw [if_neg q] at h
    cases h
theorem line5 {n : Nat} (h : n ≤ 100000) : n ≤ sizeLine := Nat.le_trans h (by decide)
theorem catL_ok {K : PySem.W.Frag} : BinOk K rCat catL := fun g H HF f x y d e rv a t u z Q k => by
  cases d <;> cases e <;> try cases z
  rename_i xs ys
  · obtain ⟨hl, rfl⟩ := ite_some (show (if _ then some _ else none) = some rv from z)
    obtain ⟨p, vs, rfl, hp, rp⟩ := t.lst a.sub
    obtain ⟨q, ws, rfl, hq, rq⟩ := u.lst a.sub
    exact ⟨p, q, vs, ws, rfl, rfl, hp, hq, by rw [rp.length, rq.length]; exact line5 hl, fun n hn => k.newL a (rp.append rq) n hn⟩
theorem catT_ok {K : PySem.W.Frag} : BinOk K (rCatA K) catT := fun g H HF f x y d e rv a t u z Q k => by
  cases d <;> cases e <;> try cases z
  rename_i xs ys
  · obtain ⟨hl, rfl⟩ := ite_some (show (if _ then some _ else none) = some rv from z)
    obtain ⟨p, vs, rfl, hp, rp⟩ := t.tup
    obtain ⟨q, ws, rfl, hq, rq⟩ := u.tup
    refine ⟨p, q, vs, ws, rfl, rfl, a.sub.sqT hp, a.sub.sqT hq, by rw [rp.length, rq.length]; exact line5 hl, fun e1 => ?_, fun _ e1 => ?_, fun _ _ n hn => k.newT a (rp.append rq) n hn⟩
    · subst e1
      cases rp
      exact k.now a (.tup hq rq)
    · subst e1
      cases rq
      rw [List.append_nil] at k
      exact k.now a (.tup hp rp)
theorem catS_ok {K : PySem.W.Frag} : BinOk K (fun x y H Q => ∃ i j, x = .str i ∧ y = .str j ∧ i.length + j.length ≤ sizeLine ∧ Q (.str (i ++ j)) H) catS := fun g H HF f x y d e rv a t u z Q k => by
  cases d <;> cases e <;> try cases z
  rename_i xs ys
  · obtain ⟨hl, rfl⟩ := ite_some (show (if _ then some _ else none) = some rv from z)
    exact ⟨xs, ys, t.str, u.str, line5 hl, k.now a (.str _)⟩
/-- * -/
def repL : Op2
  | .list xs, .int k => if -1000 ≤ k ∧ k ≤ 1000 ∧ xs.length ≤ 1000 then some (.own (List.replicate k.toNat xs).flatten) else none
  | _, _ => none
def repT : Op2
  | .tuple xs, .int k => if -1000 ≤ k ∧ k ≤ 1000 ∧ xs.length ≤ 1000 then some (.dat (.tuple (List.replicate k.toNat xs).flatten)) else none
  | _, _ => none
def oMul : Op2 := fun d e => (intsOp mulC (fun i j => .int (i * j)) d e).or ((repL d e).or (repT d e))
theorem repL_ok {K : PySem.W.Frag} : BinOk K rRep repL := fun g H HF f x y d e rv a t u z Q k => by
  cases d <;> cases e <;> try cases z
  rename_i xs i
  · obtain ⟨hl, rfl⟩ := ite_some (show (if _ then some _ else none) = some rv from z)
    obtain ⟨p, vs, rfl, hp, rp⟩ := t.lst a.sub
    have hz : vs.length * i.toNat ≤ 1000 * 1000 := Nat.mul_le_mul (by rw [rp.length]; exact hl.2.2) (by omega)
    exact ⟨p, i, vs, rfl, u.int, hp, by omega, by omega, Nat.le_trans hz (by decide), fun n hn => k.newL a (rp.rep i.toNat) n hn⟩
def rRepA (K : PySem.W.Frag) : R2 := fun x y H Q => rRep1 K x y H Q ∨ rRepT K x y H Q
theorem op_repA {X : Cx} : OpR X (binaryOp .Mult) (rRepA X.K) := op_rep1.or op_repT
theorem repT_ok {K : PySem.W.Frag} : BinOk K (rRepA K) repT := fun g H HF f x y d e rv a t u z Q k => by
  cases d <;> cases e <;> try cases z
  rename_i xs i
  · obtain ⟨hl, rfl⟩ := ite_some (show (if _ then some _ else none) = some rv from z)
    obtain ⟨p, vs, rfl, hp, rp⟩ := t.tup
    have hv := rp.length
    have e0 : ∀ n : Nat, (List.replicate n ([] : List PyData)).flatten = [] := fun n => by
      induction n with
      | zero => rfl
      | succ n ih => rw [List.replicate_succ, List.flatten_cons, ih]; rfl
    by_cases c : vs = [] ∨ i ≤ 1
    · refine .inl ⟨p, i, vs, rfl, u.int, a.sub.sqT hp, by omega, by omega, c, fun h => ?_, fun h1 h2 n hn => ?_⟩
      · rcases h with h | h
        · subst h
          cases rp
          rw [e0] at k
          exact k.now a (.tup hp .nil)
        · subst h
          have e1 : (List.replicate (1 : Int).toNat xs).flatten = xs := by
            show (List.replicate 1 xs).flatten = xs
            simp
          rw [e1] at k
          exact k.now a (.tup hp rp)
      · have e2 : i.toNat = 0 := by omega
        rw [e2] at k
        exact k.newT a .nil n hn
    · have hx : vs ≠ [] := fun q => c (.inl q)
      have hi : ¬ i ≤ 1 := fun q => c (.inr q)
      exact .inr ⟨p, i, vs, rfl, u.int, a.sub.sqT hp, hx, by omega, by omega, by rw [hv]; exact hl.2.2, fun n hn => k.newT a (rp.rep i.toNat) n hn⟩
end Dn

end
section
set_option maxHeartbeats 4000000
/-! comparisons, calls of what is built in, places, slices, displays -/
namespace Dn
open PySem PySem.Spec L2
mutual
theorem DR.dp {K : PySem.W.Frag} {H : Hp} : ∀ {v : V} {d : PyData}, DR K H v d → d.canLay0 = true → Dp K H v d
  | _, _, .non, _ => .non
  | _, _, .bl b, _ => .bl b
  | _, _, .int i, _ => .int i
  | _, _, .str x, _ => .str x
  | _, _, .lst h r, c => .lst (.inl (.inl h)) (DRs.dp r (by simpa [PyData.canLay0] using c))
  | _, _, .tup h r, c => .tup h (DRs.dp r (by simpa [PyData.canLay0] using c))
  | _, _, .dic _ _ _, c => by simp [PyData.canLay0] at c
  | _, _, .exc _ _ _ _, c => by simp [PyData.canLay0] at c
theorem DRs.dp {K : PySem.W.Frag} {H : Hp} : ∀ {vs : List V} {ds : List PyData}, DRs K H vs ds → PyData.canLayAll0 ds = true → DpAll K H vs ds
  | _, _, .nil, _ => .nil
  | _, _, .cons h r, c => by
    have c2 := Bool.and_eq_true_iff.mp (show (PyData.canLay0 _ && PyData.canLayAll0 _) = true from c)
    exact .cons (DR.dp h c2.1) (DRs.dp r c2.2)
end
theorem Top.dp {K : PySem.W.Frag} {g : Gh} {H HF : Hp} {v : V} {d : PyData} (t : Top K g H HF v d) (l : Le HF H) (c : SeqAt.shaped d = true) : Dp K H v d := by
  have c0 := SeqAt.canLay_of_shaped c
  rcases t with h | ⟨p, vs, ds, rfl, rfl, _, h4, h5⟩
  · exact (h.mono l).dp c0
  · exact .lst (.inl (.inl h4)) ((h5.mono l).dp (by simpa [PyData.canLay0] using c0))
def eqD : Op2 := fun d e => if SeqAt.shaped d && SeqAt.shaped e then some (.dat (.bool (PyData.eqv d e))) else none
def neD : Op2 := fun d e => if SeqAt.shaped d && SeqAt.shaped e then some (.dat (.bool (!PyData.eqv d e))) else none
section
variable {K : PySem.W.Frag}
theorem eqD_ok : BinOk K (rEqD K) eqD := fun g H HF f x y d e rv a t u z Q k => by
  obtain ⟨c, rfl⟩ := ite_some z
  obtain ⟨c1, c2⟩ := Bool.and_eq_true_iff.mp c
  exact ⟨d, e, t.dp a.sub c1, u.dp a.sub c2, c1, c2, k.now a (.bl _)⟩
theorem neD_ok : BinOk K (rNeD K) neD := fun g H HF f x y d e rv a t u z Q k => by
  obtain ⟨c, rfl⟩ := ite_some z
  obtain ⟨c1, c2⟩ := Bool.and_eq_true_iff.mp c
  exact ⟨d, e, t.dp a.sub c1, u.dp a.sub c2, c1, c2, k.now a (.bl _)⟩
end
/-- texts of any signs -/
def eqS : Op2
  | .str i, .str j => some (.dat (.bool (decide (i = j))))
  | _, _ => none
def neS : Op2
  | .str i, .str j => some (.dat (.bool (!decide (i = j))))
  | _, _ => none
theorem dec_strV {i j : Str} : decide (V.str i = V.str j) = decide (i = j) := by
  rw [Bool.eq_iff_iff]
  simp
theorem eqS_ok {K : PySem.W.Frag} : BinOk K rEq eqS := fun g H HF f x y d e rv a t u z Q k => by
  cases d <;> cases e <;> try cases z
  rw [t.str, u.str]
  refine ⟨rfl, ?_⟩
  rw [dec_strV]
  exact k.now a (.bl _)
theorem neS_ok {K : PySem.W.Frag} : BinOk K rNe neS := fun g H HF f x y d e rv a t u z Q k => by
  cases d <;> cases e <;> try cases z
  rw [t.str, u.str]
  refine ⟨rfl, ?_⟩
  rw [dec_strV]
  exact k.now a (.bl _)
def oEq : Op2 := fun d e => (eqS d e).or (eqD d e)
def oNe : Op2 := fun d e => (neS d e).or (neD d e)
theorem oEq_ok {K : PySem.W.Frag} : BinOk K (fun x y H Q => rEq x y H Q ∨ rEqD K x y H Q) oEq := eqS_ok.or eqD_ok
theorem oNe_ok {K : PySem.W.Frag} : BinOk K (fun x y H Q => rNe x y H Q ∨ rNeD K x y H Q) oNe := neS_ok.or neD_ok
def cmpI (h : Int → Int → Bool) : Op2 := intsOp (fun _ _ => true) fun i j => .bool (h i j)
def oLt : Op2 := cmpI fun i j => decide (i < j)
def oLe : Op2 := cmpI fun i j => decide (i ≤ j)
def oGt : Op2 := cmpI fun i j => decide (j < i)
def oGe : Op2 := cmpI fun i j => decide (j ≤ i)
def intsOf : List PyData → Option (List Int)
  | [] => some []
  | .int i :: r => (intsOf r).map (i :: ·)
  | _ :: _ => none
def leN (ns ms : List Int) : Bool := Ob.lexAt (fun j => decide (ns.getD j 0 = ms.getD j 0)) (fun j => decide (ns.getD j 0 ≤ ms.getD j 0)) (decide (ns.length ≤ ms.length)) 0 (min ns.length ms.length)
def leT : Op2
  | .tuple xs, .tuple ys => match intsOf xs, intsOf ys with
    | some ns, some ms => some (.dat (.bool (leN ns ms)))
    | _, _ => none
  | _, _ => none
def oLeA : Op2 := fun d e => (oLe d e).or (leT d e)
theorem intsOf_some : ∀ {ds : List PyData} {ns : List Int}, intsOf ds = some ns → ds = ns.map PyData.int
  | [], ns, h => by cases h; rfl
  | d :: r, ns, h => by
    cases d <;> try cases h
    rename_i i
    cases q : intsOf r with
    | none =>
      simp only [intsOf, q] at h
      cases h
    | some ms =>
      simp only [intsOf, q] at h
      cases h
      rw [List.map_cons, ← intsOf_some q]
theorem DRs.toInts {K : PySem.W.Frag} {H : Hp} : ∀ {ns : List Int} {vs : List V}, DRs K H vs (ns.map PyData.int) → vs = ns.map V.int
  | [], _, .nil => rfl
  | n :: r, _, .cons h t => by
    cases h
    rw [List.map_cons, ← DRs.toInts t]
theorem leT_ok {K : PySem.W.Frag} : BinOk K (rLeT K) leT := fun g H HF f x y d e rv a t u z Q k => by
  cases d <;> cases e <;> try cases z
  rename_i xs ys
  unfold leT at z
  cases q1 : intsOf xs with
  | none =>
    simp only [q1] at z
    cases z
  | some ns =>
    cases q2 : intsOf ys with
    | none =>
      simp only [q1, q2] at z
      cases z
    | some ms =>
      simp only [q1, q2] at z
      cases z
      have e1 := intsOf_some q1
      have e2 := intsOf_some q2
      subst e1
      subst e2
      obtain ⟨p, vs, rfl, hp, rp⟩ := t.tup
      obtain ⟨q, ws, rfl, hq, rq⟩ := u.tup
      have v1 := rp.toInts
      have v2 := rq.toInts
      subst v1
      subst v2
      exact ⟨p, q, ns, ms, rfl, rfl, a.sub.sqT hp, a.sub.sqT hq, k.now a (.bl _)⟩
/-! in -/
def flatD : PyData → Bool
  | .none => true
  | .bool _ => true
  | .int _ => true
  | .str _ => true
  | _ => false
theorem flat_v {K : PySem.W.Frag} {H : Hp} {v : V} {d : PyData} (r : DR K H v d) (h : flatD d = true) : flatV v = true := by
  cases r <;> first | rfl | cases h
theorem flat_vs {K : PySem.W.Frag} {H : Hp} : ∀ {vs : List V} {ds : List PyData}, DRs K H vs ds → ds.all flatD = true → vs.all flatV = true
  | _, _, .nil, _ => rfl
  | _, _, .cons h r, c => by
    rw [List.all_cons, Bool.and_eq_true] at c ⊢
    exact ⟨flat_v h c.1, flat_vs r c.2⟩
theorem flat_eq {K : PySem.W.Frag} {H : Hp} {v w : V} {d e : PyData} (r : DR K H v d) (s : DR K H w e) (h : flatD d = true) (h2 : flatD e = true) : eqV v w = PyData.eqv d e := by
  cases r <;> cases s <;> first
    | exact absurd h (by decide)
    | exact absurd h2 (by decide)
    | exact absurd h Bool.false_ne_true
    | exact absurd h2 Bool.false_ne_true
    | rfl
    | simp only [eqV, PyData.eqv]
theorem flat_any {K : PySem.W.Frag} {H : Hp} {w : V} {e : PyData} (s : DR K H w e) (h2 : flatD e = true) : ∀ {vs : List V} {ds : List PyData}, DRs K H vs ds → ds.all flatD = true → inV w vs = ds.any fun y => PyData.eqv y e
  | _, _, .nil, _ => rfl
  | _, _, .cons h r, c => by
    rw [List.all_cons, Bool.and_eq_true] at c
    have ih := flat_any s h2 r c.2
    unfold inV at ih ⊢
    rw [List.any_cons, List.any_cons, ih, flat_eq h s c.1 h2]
def seqOf : PyData → Option (List PyData)
  | .list xs => some xs
  | .tuple xs => some xs
  | _ => none
def oInF (neg : Bool) : Op2 := fun d e => match seqOf e with
  | some ys => if flatD d && ys.all flatD then some (.dat (.bool (if neg then !(ys.any fun y => PyData.eqv y d) else ys.any fun y => PyData.eqv y d))) else none
  | none => none
theorem Top.seq {K : PySem.W.Frag} {g : Gh} {H HF : Hp} {v : V} {e : PyData} {ds : List PyData} (t : Top K g H HF v e) (l : Le HF H) (h : seqOf e = some ds) : ∃ p vs, v = .ref p ∧ (SqL K H p vs ∨ SqT K H p vs) ∧ DRs K HF vs ds := by
  cases e <;> try cases h
  · obtain ⟨p, vs, e1, e2, e3⟩ := t.lst l
    exact ⟨p, vs, e1, .inl (.inl (.inl e2)), e3⟩
  · obtain ⟨p, vs, e1, e2, e3⟩ := t.tup
    exact ⟨p, vs, e1, .inr (l.sqT e2), e3⟩
theorem Top.flat {K : PySem.W.Frag} {g : Gh} {H HF : Hp} {v : V} {d : PyData} (t : Top K g H HF v d) (h : flatD d = true) : DR K HF v d := by
  rcases t with t | ⟨p, vs, ds, e1, e2, _⟩
  · exact t
  · subst e2
    cases h
theorem oInF_ok {K : PySem.W.Frag} {neg : Bool} : BinOk K (rIn K neg) (oInF neg) := fun g H HF f x y d e rv a t u z Q k => by
  unfold oInF at z
  cases q : seqOf e with
  | none =>
    simp only [q] at z
    cases z
  | some ys =>
    simp only [q] at z
    obtain ⟨c, rfl⟩ := ite_some z
    obtain ⟨c1, c2⟩ := Bool.and_eq_true_iff.mp c
    obtain ⟨p, vs, rfl, hp, rp⟩ := u.seq a.sub q
    have td := t.flat c1
    refine ⟨p, vs, rfl, hp, flat_v td c1, flat_vs rp c2, ?_⟩
    rw [flat_any td c1 rp c2]
    exact k.now a (.bl _)
/-! is -/
def isNone : PyData → Bool
  | .none => true
  | _ => false
def oIsN (neg : Bool) : Op2 := fun d e => match e with
  | .none => some (.dat (.bool (if neg then !isNone d else isNone d)))
  | _ => none
theorem isN_ok {K : PySem.W.Frag} : BinOk K (fun x y H Q => y = .non ∧ Q (.bl (decide (x = .non))) H) (oIsN false) := fun g H HF f x y d e rv a t u z Q k => by
  cases e <;> try cases z
  refine ⟨u.non, ?_⟩
  have h : decide (x = V.non) = isNone d := by
    rcases t with t | ⟨p, vs, ds, e1, e2, _⟩
    · cases t <;> rfl
    · subst e1; subst e2; rfl
  rw [h]
  exact k.now a (.bl _)
theorem notN_ok {K : PySem.W.Frag} : BinOk K (fun x y H Q => y = .non ∧ Q (.bl (!decide (x = .non))) H) (oIsN true) := fun g H HF f x y d e rv a t u z Q k => by
  cases e <;> try cases z
  refine ⟨u.non, ?_⟩
  have h : (!decide (x = V.non)) = !isNone d := by
    rcases t with t | ⟨p, vs, ds, e1, e2, _⟩
    · cases t <;> rfl
    · subst e1; subst e2; rfl
  rw [h]
  exact k.now a (.bl _)
def oIsB (neg : Bool) : Op2
  | .bool a, .bool b => some (.dat (.bool (if neg then !decide (a = b) else decide (a = b))))
  | _, _ => none
theorem isB_ok {K : PySem.W.Frag} : BinOk K rIsB (oIsB false) := fun g H HF f x y d e rv a t u z Q k => by
  cases d <;> cases e <;> try cases z
  exact ⟨_, _, t.bl, u.bl, k.now a (.bl _)⟩
theorem notB_ok {K : PySem.W.Frag} : BinOk K rNotB (oIsB true) := fun g H HF f x y d e rv a t u z Q k => by
  cases d <;> cases e <;> try cases z
  exact ⟨_, _, t.bl, u.bl, k.now a (.bl _)⟩
/-! one-place operations -/
def oNeg : Op1
  | .int i => some (.dat (.int (-i)))
  | _ => none
theorem oNeg_ok {K : PySem.W.Frag} : UnOk K (rU fun i => .int (-i)) oNeg := fun g H HF f x d rv a t z Q k => by
  cases d <;> try cases z
  exact ⟨_, t.int, k.now a (.int _)⟩
def oAbs : Op1
  | .int i => some (.dat (.int (if i < 0 then -i else i)))
  | _ => none
def oInt : Op1
  | .int i => some (.dat (.int i))
  | .bool b => some (.dat (.int (if b then 1 else 0)))
  | _ => none
def oLen : Op1 := fun d => (seqOf d).map fun ys => .dat (.int ys.length)
def oTuple : Op1 := fun d => (seqOf d).map fun ys => .dat (.tuple ys)
def oList : Op1 := fun d => (seqOf d).map fun ys => .own ys
def oMax : Op2 := intsOp (fun _ _ => true) fun i j => .int (if j > i then j else i)
def oMin : Op2 := intsOp (fun _ _ => true) fun i j => .int (if j < i then j else i)
def oSum : Op1 := fun d => match d with
  | .list xs => (intsOf xs).map fun ns => .dat (.int ns.sum)
  | _ => none
section
variable {X : Cx} {W : Wish} {fa fb : Ex} {id : String} {r : List V → Hp → VK → Prop} {x : Str} {p pos : Pos} {e e2 : Expr}
theorem de_call1 {o : Op1} (hc : CallR X (.builtin id) r) (hb : UnOk X.K (fun v H Q => r [v] H Q) o) (hg : Gl X x) (hm : X.mg x = none) (hv : bootBuiltins x = some (.builtin id)) (ha : DE X W e fa)
    (hn : x ≠ "__name__" := by decide) (hdb : (x == ("__debug__" : Str)) = false := by decide) (he : starEach [e] X.env = (false, eval e X.env) :: starEach [] X.env := by rfl) : DE X W (.Call (.Name x p) [e] [] pos) (cUn o fa) :=
  pe_mono (pe_callB hc hg hm hv (pa_cons ha pa_nil he) hn hdb he rfl) fun _ _ _ h => un_read (r := fun v H Q => r [v] H Q) hb h
theorem de_call2 {o : Op2} (hc : CallR X (.builtin id) r) (hb : BinOk X.K (fun v w H Q => r [v, w] H Q) o) (hg : Gl X x) (hm : X.mg x = none) (hv : bootBuiltins x = some (.builtin id)) (ha : DE X W e fa) (hd : DE X W e2 fb)
    (hn : x ≠ "__name__" := by decide) (hdb : (x == ("__debug__" : Str)) = false := by decide) (he : starEach [e, e2] X.env = (false, eval e X.env) :: starEach [e2] X.env := by rfl)
    (he2 : starEach [e2] X.env = (false, eval e2 X.env) :: starEach [] X.env := by rfl) (hpl : (backTo pos (starEach [e2] X.env)).any (·.1) = false := by rfl) : DE X W (.Call (.Name x p) [e, e2] [] pos) (cBin o fa fb) :=
  pe_mono (pe_callB hc hg hm hv (pa_cons ha (pa_cons hd pa_nil he2) he) hn hdb he hpl) fun _ _ _ h => bin_read (r := fun v w H Q => r [v, w] H Q) hb h
theorem de_callTy1 {o : Op1} {T : String} (hc : CallR X (.type T) r) (hb : UnOk X.K (fun v H Q => r [v] H Q) o) (hg : Gl X x) (hm : X.mg x = none) (hv : bootBuiltins x = some (.type T)) (ha : DE X W e fa)
    (hn : x ≠ "__name__" := by decide) (hdb : (x == ("__debug__" : Str)) = false := by decide) (he : starEach [e] X.env = (false, eval e X.env) :: starEach [] X.env := by rfl) : DE X W (.Call (.Name x p) [e] [] pos) (cUn o fa) :=
  pe_mono (pe_callTy hc hg hm hv (pa_cons ha pa_nil he) hn hdb he rfl) fun _ _ _ h => un_read (r := fun v H Q => r [v] H Q) hb h
end
section
variable {K : PySem.W.Frag}
theorem oAbs_ok : UnOk K (fun v H Q => ∃ i, [v] = [V.int i] ∧ Q (.int (if i < 0 then -i else i)) H) oAbs := fun g H HF f x d rv a t z Q k => by
  cases d <;> try cases z
  have h := t.int
  subst h
  exact ⟨_, rfl, k.now a (.int _)⟩
theorem oInt_ok : UnOk K (fun v H Q => (∃ i, [v] = [V.int i] ∧ Q (.int i) H) ∨ ∃ b, [v] = [V.bl b] ∧ Q (.int (if b then 1 else 0)) H) oInt := fun g H HF f x d rv a t z Q k => by
  cases d <;> try cases z
  · have h := t.bl
    subst h
    exact .inr ⟨_, rfl, k.now a (.int _)⟩
  · have h := t.int
    subst h
    exact .inl ⟨_, rfl, k.now a (.int _)⟩
theorem oLen_ok : UnOk K (fun v H Q => ∃ p ys, [v] = [V.ref p] ∧ (SqL K H p ys ∨ SqT K H p ys) ∧ Q (.int ys.length) H) oLen := fun g H HF f x d rv a t z Q k => by
  unfold oLen at z
  cases q : seqOf d with
  | none => rw [q] at z; cases z
  | some ys =>
    rw [q] at z
    cases z
    obtain ⟨p, vs, rfl, hp, rp⟩ := t.seq a.sub q
    refine ⟨p, vs, rfl, hp, ?_⟩
    rw [rp.length]
    exact k.now a (.int _)
theorem oTuple_ok : UnOk K (fun v H Q => ∃ p ys, [v] = [V.ref p] ∧ ((SqL K H p ys ∧ ∀ l, H l = none → Q (.ref l) (upd H l (.tup ys))) ∨ (SqT K H p ys ∧ Q (.ref p) H))) oTuple := fun g H HF f x d rv a t z Q k => by
  cases d <;> try cases z
  · obtain ⟨p, vs, rfl, hp, rp⟩ := t.lst a.sub
    exact ⟨p, vs, rfl, .inl ⟨.inl (.inl hp), fun l hl => k.newT a rp l hl⟩⟩
  · obtain ⟨p, vs, rfl, hp, rp⟩ := t.tup
    exact ⟨p, vs, rfl, .inr ⟨a.sub.sqT hp, k.now a (.tup hp rp)⟩⟩
theorem oList_ok : UnOk K (fun v H Q => ∃ p ys, [v] = [V.ref p] ∧ (SqL K H p ys ∨ SqT K H p ys) ∧ ∀ l, H l = none → Q (.ref l) (upd H l (.lst ys))) oList := fun g H HF f x d rv a t z Q k => by
  unfold oList at z
  cases q : seqOf d with
  | none => rw [q] at z; cases z
  | some ys =>
    rw [q] at z
    cases z
    obtain ⟨p, vs, rfl, hp, rp⟩ := t.seq a.sub q
    exact ⟨p, vs, rfl, hp, fun l hl => k.newL a rp l hl⟩
theorem oMax_ok : BinOk K (fun v w H Q => ∃ i j, [v, w] = [V.int i, V.int j] ∧ Q (.int (if j > i then j else i)) H) oMax := fun g H HF f x y d e rv a t u z Q k => by
  cases d <;> cases e <;> try cases z
  have h := t.int
  have h2 := u.int
  subst h
  subst h2
  exact ⟨_, _, rfl, k.now a (.int _)⟩
theorem oMin_ok : BinOk K (fun v w H Q => ∃ i j, [v, w] = [V.int i, V.int j] ∧ Q (.int (if j < i then j else i)) H) oMin := fun g H HF f x y d e rv a t u z Q k => by
  cases d <;> cases e <;> try cases z
  have h := t.int
  have h2 := u.int
  subst h
  subst h2
  exact ⟨_, _, rfl, k.now a (.int _)⟩
theorem oSum_ok : UnOk K (fun v H Q => rSum K [v] H Q) oSum := fun g H HF f x d rv a t z Q k => by
  cases d <;> try cases z
  rename_i xs
  unfold oSum at z
  cases q : intsOf xs with
  | none => simp only [q] at z; cases z
  | some ns =>
    simp only [q] at z
    cases z
    have e1 := intsOf_some q
    subst e1
    obtain ⟨p, vs, rfl, hp, rp⟩ := t.lst a.sub
    have v1 := rp.toInts
    subst v1
    exact ⟨p, ns, rfl, .inl (.inl hp), k.now a (.int _)⟩
end
/-! ### places, slices -/
theorem at_get {K : PySem.W.Frag} {H : Hp} {vs : List V} {ds : List PyData} {i : Int} {d : PyData} (r : DRs K H vs ds) (h : atI ds i = some d) : ∃ v, atI vs i = some v ∧ DR K H v d := by
  unfold atI at h ⊢
  rw [r.length]
  cases q : ixN ds.length i with
  | none => rw [q] at h; cases h
  | some j =>
    rw [q] at h
    exact r.get h
def oIx : Op2
  | .list xs, .int i => (atI xs i).map .dat
  | .tuple xs, .int i => (atI xs i).map .dat
  | .str x, .int i => if x.length ≤ 100000 then (atI x.cps.toList i).map fun c => .dat (.str ⟨#[c]⟩) else none
  | _, _ => none
theorem map_dat {o : Option PyData} {rv : RV} (h : o.map RV.dat = some rv) : ∃ d, o = some d ∧ rv = .dat d := by
  cases o with
  | none => cases h
  | some d => exact ⟨d, rfl, (Option.some.inj h).symm⟩
theorem oIx_ok {K : PySem.W.Frag} : BinOk K (rIx K) oIx := fun g H HF f x y d e rv a t u z Q k => by
  cases d <;> cases e <;> try cases z
  · rename_i s i
    have h := t.str
    have h2 := u.int
    subst h
    subst h2
    unfold oIx at z
    simp only at z
    split at z
    · rename_i hl
      cases q : atI s.cps.toList i with
      | none => rw [q] at z; cases z
      | some c =>
        rw [q] at z
        cases z
        exact .inr (.inr ⟨s, i, c, rfl, rfl, line5 hl, q, k.now a (.str _)⟩)
    · cases z
  · rename_i xs i
    obtain ⟨d, q, rfl⟩ := map_dat z
    obtain ⟨p, vs, rfl, hp, rp⟩ := t.lst a.sub
    obtain ⟨v, q2, rv⟩ := at_get rp q
    exact .inl ⟨p, vs, i, v, rfl, u.int, .inl (.inl hp), q2, k.now a rv⟩
  · rename_i xs i
    obtain ⟨d, q, rfl⟩ := map_dat z
    obtain ⟨p, vs, rfl, hp, rp⟩ := t.tup
    obtain ⟨v, q2, rv⟩ := at_get rp q
    exact .inr (.inl ⟨p, vs, i, v, rfl, u.int, a.sub.sqT hp, q2, k.now a rv⟩)
theorem de_ix {X : Cx} {W : Wish} {a b : Expr} {pos : Pos} {fa fb : Ex} (ha : DE X W a fa) (hb : DE X W b fb) (hs : PlainIx b) : DE X W (.Subscript a b pos) (cBin oIx fa fb) :=
  pe_mono (pe_ix ix_seq ha hb hs) fun _ _ _ h => bin_read oIx_ok h
def cutD (ds : List PyData) (lo hi : Option Int) : List PyData := (ds.drop (HT.sIx ds.length 0 lo)).take (HT.sIx ds.length ds.length hi - HT.sIx ds.length 0 lo)
theorem cut_rel {K : PySem.W.Frag} {H : Hp} {vs : List V} {ds : List PyData} (r : DRs K H vs ds) (lo hi : Option Int) : DRs K H (cutV vs lo hi) (cutD ds lo hi) := by
  unfold cutV cutD
  rw [r.length]
  exact (r.drop _).take _
def oSl (lo hi : Option Int) : Op1
  | .list xs => some (.own (cutD xs lo hi))
  | .tuple xs => some (.dat (.tuple (cutD xs lo hi)))
  | _ => none
theorem cut_whole {ds : List PyData} {lo hi : Option Int} (h : HT.sIx ds.length 0 lo = 0 ∧ HT.sIx ds.length ds.length hi = ds.length) : cutD ds lo hi = ds := by
  unfold cutD
  rw [h.1, h.2]
  simp
def partX : Option Ex → Rho → Feed → (Option Int → Feed → R RV) → R RV
  | none, _, f, k => k none f
  | some e, ρ, f, k => pk (e ρ f) fun d f1 => match d with
    | .int i => k (some i) f1
    | _ => .no
def cSl (a : Ex) (lo hi : Option Ex) : Ex := fun ρ f => pk (a ρ f) fun x f1 => partX lo ρ f1 fun i f2 => partX hi ρ f2 fun j f3 => give (oSl i j x) f3
def partT (K : PySem.W.Frag) (mg : Str → Option Value) (W : Wish) : Option Ex → TO
  | none => tNoPart
  | some e => tPart (tD K mg W e)
section
variable {K : PySem.W.Frag} {mg : Str → Option Value} {W : Wish} {g : Gh} {σ : St} {H HF : Hp} {ρ : Rho} {f : Feed}
theorem part_read {o : Option Ex} {k : Option Int → Feed → R RV} {P : RV → Feed → Prop} {Q : Option Int → Hp → Prop} (r : Rel K g σ H HF ρ f) (h : ROk K mg g H HF (W σ) (partX o ρ f k) P)
    (c : ∀ i f1 G GF, Rel K g σ G GF ρ f1 → Step g H HF G GF → ROk K mg g G GF (W σ) (k i f1) P → Q i G) : partT K mg W o σ H Q := by
  cases o with
  | none => exact c none f H HF r (Step.refl r.sub) h
  | some e =>
    refine tD_pk r h fun d f1 v G GF r1 s t q => ?_
    cases d <;> try exact (show False from q).elim
    rename_i i
    exact ⟨i, t.int, c (some i) f1 G GF r1 s q⟩
theorem sl_read {fa : Ex} {lo hi : Option Ex} {Q : VK} (h : tD K mg W (cSl fa lo hi) σ H Q) : tSl (fun x lo hi H Q => rSlL K x lo hi H Q ∨ rSlA K x lo hi H Q) (tD K mg W fa) (partT K mg W lo) (partT K mg W hi) σ H Q := by
  obtain ⟨g, HF, ρ, f, rel, q⟩ := h
  refine tD_pk rel q fun d f1 x G GF r1 s1 t1 q1 => part_read r1 q1 fun i f2 I IF r2 s2 q2 => part_read r2 q2 fun j f3 J JF r3 s3 q3 => ?_
  obtain ⟨rv, z, k⟩ := give_end r3.feed (s1.trans r1.feed (s2.trans r2.feed s3)) q3
  have t3 := t1.step (s2.trans r2.feed s3)
  have a : At K g J JF f3 := ⟨r3.sub, r3.feed⟩
  cases d <;> try cases z
  · rename_i xs
    obtain ⟨p, vs, rfl, hp, rp⟩ := t3.lst a.sub
    exact .inl ⟨p, vs, rfl, .inl (.inl hp), fun l hl => k.newL a (cut_rel rp _ _) l hl⟩
  · rename_i xs
    obtain ⟨p, vs, rfl, hp, rp⟩ := t3.tup
    refine .inr ⟨p, vs, rfl, a.sub.sqT hp, fun hw => ?_, fun _ l hl => k.newT a (cut_rel rp _ _) l hl⟩
    rw [rp.length] at hw
    rw [cut_whole hw] at k
    exact k.now a (.tup hp rp)
end
theorem de_slice {X : Cx} {W : Wish} {e : Expr} {fa : Ex} {lo hi : Option Expr} {xl xh : Option Ex} {p2 pos : Pos} (he : DE X W e fa) (hl : PO X lo (partT X.K X.mg W xl)) (hh : PO X hi (partT X.K X.mg W xh)) :
    DE X W (.Subscript e (.Slice lo hi none p2) pos) (cSl fa xl xh) := pe_mono (pe_slice (sl_list.or sl_tupA) he hl hh) fun _ _ _ h => sl_read h
theorem do_none {X : Cx} {W : Wish} : PO X none (partT X.K X.mg W none) := po_none
theorem do_some {X : Cx} {W : Wish} {e : Expr} {x : Ex} (h : DE X W e x) : PO X (some e) (partT X.K X.mg W (some x)) := po_some h
/-! ### displays -/
def cArgs : List Ex → Rho → Feed → R (List PyData)
  | [], _, f => .ok [] f
  | x :: xs, ρ, f => dt (x ρ f) fun d f1 => (cArgs xs ρ f1).bind fun ds f2 => .ok (d :: ds) f2
def argT (K : PySem.W.Frag) (mg : Str → Option Value) (W : Wish) : List Ex → TA
  | [] => tNil
  | x :: xs => tCons (tD K mg W x) (argT K mg W xs)
section
variable {K : PySem.W.Frag} {mg : Str → Option Value} {W : Wish}
theorem bind_bind {α β γ : Type} (r : R α) (k : α → Feed → R β) (l : β → Feed → R γ) : (r.bind k).bind l = r.bind fun a f => (k a f).bind l := by cases r <;> rfl
theorem dt_bind {β γ : Type} (r : R RV) (k : PyData → Feed → R β) (l : β → Feed → R γ) : (dt r k).bind l = dt r fun d f => (k d f).bind l := by
  cases r with
  | no => rfl
  | ex c v f => rfl
  | ok a f =>
    unfold dt R.bind
    simp only
    cases a.data <;> rfl
theorem pk_bind {β γ : Type} (r : R RV) (k : PyData → Feed → R β) (l : β → Feed → R γ) : (pk r k).bind l = pk r fun d f => (k d f).bind l := by
  cases r with
  | no => rfl
  | ex c v f => rfl
  | ok a f =>
    unfold pk R.bind
    simp only
    cases a.peek <;> rfl
theorem args_read {β : Type} {P : β → Feed → Prop} : ∀ (xs : List Ex) {k : List PyData → Feed → R β} {g : Gh} {σ : St} {H HF : Hp} {ρ : Rho} {f : Feed} {Q : List V → Hp → Prop}, Rel K g σ H HF ρ f →
    ROk K mg g H HF (W σ) ((cArgs xs ρ f).bind k) P → (∀ ds f1 vs G GF, Rel K g σ G GF ρ f1 → Step g H HF G GF → DRs K GF vs ds → ROk K mg g G GF (W σ) (k ds f1) P → Q vs G) → argT K mg W xs σ H Q
  | [], k, g, σ, H, HF, ρ, f, Q, r, h, c => c [] f [] H HF r (Step.refl r.sub) .nil h
  | x :: xs, k, g, σ, H, HF, ρ, f, Q, r, h, c => by
    have h2 : ROk K mg g H HF (W σ) (dt (x ρ f) fun d f1 => ((cArgs xs ρ f1).bind fun ds f2 => .ok (d :: ds) f2).bind k) P := by
      rw [← dt_bind]
      exact h
    refine tD_dt r h2 fun d f1 v G GF r1 s1 dr q1 => ?_
    have q2 : ROk K mg g G GF (W σ) ((cArgs xs ρ f1).bind fun ds f2 => k (d :: ds) f2) P := by
      rw [bind_bind] at q1
      exact q1
    exact args_read xs r1 q2 fun ds f2 vs I IF r2 s2 drs q3 => c (d :: ds) f2 (v :: vs) I IF r2 (s1.trans r1.feed s2) (.cons (dr.mono s2.le) drs) q3
end
def cTup (xs : List Ex) : Ex := fun ρ f => (cArgs xs ρ f).bind fun ds f1 => if ds.length ≤ 100000 then .ok (.dat (.tuple ds)) f1 else .no
def cLst (xs : List Ex) : Ex := fun ρ f => (cArgs xs ρ f).bind fun ds f1 => if ds.length ≤ 100000 then .ok (.own ds) f1 else .no
section
variable {X : Cx} {W : Wish} {es : List Expr} {xs : List Ex} {pos : Pos}
abbrev DA (X : Cx) (W : Wish) (es : List Expr) (xs : List Ex) : Prop := PA X es (argT X.K X.mg W xs)
theorem da_nil : DA X W [] [] := pa_nil
theorem da_cons {e : Expr} {x : Ex} (h : DE X W e x) (r : DA X W es xs) (hs : starEach (e :: es) X.env = (false, eval e X.env) :: starEach es X.env := by rfl) : DA X W (e :: es) (x :: xs) := pa_cons h r hs
theorem de_tup {x1} (h : DA X W es xs) : DE X W (.Tuple es x1 pos) (cTup xs) := pe_mono (pe_tup h) fun σ H Q ⟨g, HF, ρ, f, rel, q⟩ =>
  args_read xs rel q fun ds f1 vs G GF r1 s1 drs q1 => by
    by_cases c : ds.length ≤ 100000
    · rw [if_pos c] at q1
      obtain ⟨rv, z, k⟩ := give_end (x := some (.dat (.tuple ds))) r1.feed s1 q1
      cases z
      exact ⟨by rw [drs.length]; exact line5 c, fun p hp => k.newT ⟨r1.sub, r1.feed⟩ drs p hp⟩
    · rw [if_neg c] at q1
      exact (show False from q1).elim
theorem de_lst (h : DA X W es xs) : DE X W (.List es pos) (cLst xs) := pe_mono (pe_lst h) fun σ H Q ⟨g, HF, ρ, f, rel, q⟩ =>
  args_read xs rel q fun ds f1 vs G GF r1 s1 drs q1 => by
    by_cases c : ds.length ≤ 100000
    · rw [if_pos c] at q1
      obtain ⟨rv, z, k⟩ := give_end (x := some (.own ds)) r1.feed s1 q1
      cases z
      exact ⟨by rw [drs.length]; exact line5 c, fun p hp => k.newL ⟨r1.sub, r1.feed⟩ drs p hp⟩
    · rw [if_neg c] at q1
      exact (show False from q1).elim
end
end Dn

end
section
set_option maxHeartbeats 4000000
/-! tests, statements -/
namespace Dn
open PySem PySem.Spec L2
abbrev Tx := Rho → Feed → R Bool
def tDT (K : PySem.W.Frag) (mg : Str → Option Value) (W : Wish) (t : Tx) : TT := fun σ H Q => ∃ g HF ρ f, Rel K g σ H HF ρ f ∧ ROk K mg g H HF (W σ) (t ρ f) fun b f1 => ∀ G GF, Step g H HF G GF → FeedAt g G GF f1 → Q b G
abbrev DT (X : Cx) (W : Wish) (e : Expr) (t : Tx) : Prop := PT X e (tDT X.K X.mg W t)
def cT (e : Ex) : Tx := fun ρ f => pk (e ρ f) fun d f1 => match d with
  | .bool b => .ok b f1
  | _ => .no
def tAndX (t u : Tx) : Tx := fun ρ f => (t ρ f).bind fun b f1 => if b = true then u ρ f1 else .ok false f1
def tOrX (t u : Tx) : Tx := fun ρ f => (t ρ f).bind fun b f1 => if b = true then .ok true f1 else u ρ f1
def tNotX (t : Tx) : Tx := fun ρ f => (t ρ f).bind fun b f1 => .ok (!b) f1
section
variable {K : PySem.W.Frag} {mg : Str → Option Value} {W : Wish} {g : Gh} {σ : St} {H HF : Hp} {ρ : Rho} {f : Feed} {t u : Tx} {e : Ex}
theorem tDT_bind {β : Type} {k : Bool → Feed → R β} {P : β → Feed → Prop} {Q : Bool → Hp → Prop} (r : Rel K g σ H HF ρ f) (h : ROk K mg g H HF (W σ) ((t ρ f).bind k) P)
    (c : ∀ b f1 G GF, Rel K g σ G GF ρ f1 → Step g H HF G GF → ROk K mg g G GF (W σ) (k b f1) P → Q b G) : tDT K mg W t σ H Q :=
  ⟨g, HF, ρ, f, r, h.of_bind.mono fun b f1 q G GF s hf => c b f1 G GF (r.step s hf) s (q.later hf s)⟩
/-- an expression as a test -/
theorem test_read {Q : Bool → Hp → Prop} (h : tDT K mg W (cT e) σ H Q) : tD K mg W e σ H fun x H1 => ∃ b, x = .bl b ∧ Q b H1 := by
  obtain ⟨g, HF, ρ, f, rel, q⟩ := h
  refine tD_pk rel q fun d f1 v G GF r1 s1 t1 q1 => ?_
  cases d <;> try exact (show False from q1).elim
  rename_i b
  exact ⟨b, t1.bl, (show ∀ I IF, Step g H HF I IF → FeedAt g I IF f1 → Q b I from q1) G GF s1 r1.feed⟩
/-- two tests in a row: R1 what is left -/
theorem tDT_mono {t : Tx} {tt : TT} {Q : Bool → Hp → Prop} (h : tDT K mg W t σ H Q) (i : tDT K mg W t σ H Q → tt σ H Q) : tt σ H Q := i h
end
section
variable {X : Cx} {W : Wish} {a b c : Expr} {pos : Pos} {fa fb fc : Ex} {t u : Tx} {rest : List Expr}
theorem pt_mono {e : Expr} {t t2 : TT} (h : PT X e t) (i : ∀ σ H Q, t2 σ H Q → t σ H Q) : PT X e t2 := ⟨fun pins s σ H Q I q => h.run pins s σ H Q I (i σ H Q q)⟩
theorem pw_mono {e : Expr} {t t2 : TT} (h : PW X e t) (i : ∀ σ H Q, t2 σ H Q → t σ H Q) : PW X e t2 := ⟨fun wh pins s σ H Q I q => h.run wh pins s σ H Q I (i σ H Q q)⟩
abbrev DW (X : Cx) (W : Wish) (e : Expr) (t : Tx) : Prop := PW X e (tDT X.K X.mg W t)
theorem dt_val {e : Expr} {x : Ex} (h : DE X W e x) (he : ∀ whole, isTrue e X.env whole = (do let v ← whole; standAt e.pos; holding [v] (truthy v)) := by intro _; rfl) : DT X W e (cT x) :=
  pt_mono (pt_val h he) fun _ _ _ q => test_read q
theorem dt_cmp {op : CmpOp} {r : R2} {o : Op2} (ho : OpR X (compareOp op) r) (hb : BinOk X.K r o) (ha : DE X W a fa) (hc : DE X W b fb) (hm : behindInMarks op b = false) : DT X W (.Compare a [op] [b] pos) (cT (cBin o fa fb)) :=
  pt_mono (pt_cmpR ho ha hc hm) fun _ _ _ q => bin_read hb (test_read q)
theorem dt_not (h : DT X W a t) : DT X W (.UnaryOp .Not a pos) (tNotX t) := pt_mono (pt_not h) fun σ H Q ⟨g, HF, ρ, f, rel, q⟩ =>
  tDT_bind rel q fun b f1 G GF r1 s1 q1 => (show ∀ I IF, Step g H HF I IF → FeedAt g I IF f1 → Q (!b) I from q1) G GF s1 r1.feed
theorem dw_and1 (h : DT X W a t) : DW X W (.BoolOp .And [a] pos) t := pw_and1 h
theorem dw_or1 (h : DT X W a t) : DW X W (.BoolOp .Or [a] pos) t := pw_or1 h
theorem dw_and (h : DT X W a t) (h2 : DW X W (.BoolOp .And (b :: rest) pos) u) : DW X W (.BoolOp .And (a :: b :: rest) pos) (tAndX t u) := pw_mono (pw_and h h2) fun σ H Q ⟨g, HF, ρ, f, rel, q⟩ =>
  tDT_bind rel q fun c f1 G GF r1 s1 q1 => by
    cases c with
    | true =>
      refine iteT ⟨g, GF, ρ, f1, r1, ?_⟩
      exact ROk.mono (show ROk X.K X.mg g G GF (W σ) (u ρ f1) _ from q1) fun b f2 k I IF s hf => k I IF (s1.trans r1.feed s) hf
    | false => exact iteF ((show ∀ I IF, Step g H HF I IF → FeedAt g I IF f1 → Q false I from q1) G GF s1 r1.feed)
theorem dw_or (h : DT X W a t) (h2 : DW X W (.BoolOp .Or (b :: rest) pos) u) : DW X W (.BoolOp .Or (a :: b :: rest) pos) (tOrX t u) := pw_mono (pw_or h h2) fun σ H Q ⟨g, HF, ρ, f, rel, q⟩ =>
  tDT_bind rel q fun c f1 G GF r1 s1 q1 => by
    cases c with
    | false =>
      refine iteF ⟨g, GF, ρ, f1, r1, ?_⟩
      exact ROk.mono (show ROk X.K X.mg g G GF (W σ) (u ρ f1) _ from q1) fun b f2 k I IF s hf => k I IF (s1.trans r1.feed s) hf
    | true => exact iteT ((show ∀ I IF, Step g H HF I IF → FeedAt g I IF f1 → Q true I from q1) G GF s1 r1.feed)
theorem dt_w (h : DW X W a t) : DT X W a t := h.pt
/-! as values -/
def cAnd (a b : Ex) : Ex := fun ρ f => pk (a ρ f) fun d f1 => match d with
  | .bool true => b ρ f1
  | .bool false => .ok (.dat (.bool false)) f1
  | _ => .no
def cOr (a b : Ex) : Ex := fun ρ f => pk (a ρ f) fun d f1 => match d with
  | .bool true => .ok (.dat (.bool true)) f1
  | .bool false => b ρ f1
  | _ => .no
def cNot : Op1
  | .bool b => some (.dat (.bool (!b)))
  | _ => none
theorem fin_later {K : PySem.W.Frag} {mg : Str → Option Value} {g : Gh} {σ : St} {H HF G GF : Hp} {f : Feed} {E : XK} {Q : VK} {r : R RV} (hf : FeedAt g G GF f) (s : Step g H HF G GF) (h : ROk K mg g G GF E r (Fin K g σ H HF Q)) : ROk K mg g G GF E r (Fin K g σ G GF Q) :=
  h.mono fun rv f1 k v I IF s2 h2 rr => k v I IF (s.trans hf s2) h2 (rr.back hf s)
theorem de_and (ha : DE X W a fa) (hb : DE X W (.BoolOp .And (b :: rest) pos) fb) : DE X W (.BoolOp .And (a :: b :: rest) pos) (cAnd fa fb) := pe_mono (pe_and ha hb) fun σ H Q ⟨g, HF, ρ, f, rel, q⟩ =>
  tD_pk rel q fun d f1 v G GF r1 s1 t1 q1 => by
    cases d <;> try exact (show False from q1).elim
    rename_i c
    refine ⟨c, t1.bl, ?_⟩
    cases c with
    | true => exact iteT ⟨g, GF, ρ, f1, r1, fin_later r1.feed s1 q1⟩
    | false => exact iteF ((show Fin X.K g σ H HF Q (.dat (.bool false)) f1 from q1) (.bl false) G GF s1 r1.feed (.bl false))
theorem de_or (ha : DE X W a fa) (hb : DE X W (.BoolOp .Or (b :: rest) pos) fb) : DE X W (.BoolOp .Or (a :: b :: rest) pos) (cOr fa fb) := pe_mono (pe_or ha hb) fun σ H Q ⟨g, HF, ρ, f, rel, q⟩ =>
  tD_pk rel q fun d f1 v G GF r1 s1 t1 q1 => by
    cases d <;> try exact (show False from q1).elim
    rename_i c
    refine ⟨c, t1.bl, ?_⟩
    cases c with
    | false => exact iteF ⟨g, GF, ρ, f1, r1, fin_later r1.feed s1 q1⟩
    | true => exact iteT ((show Fin X.K g σ H HF Q (.dat (.bool true)) f1 from q1) (.bl true) G GF s1 r1.feed (.bl true))
theorem de_one {op} {x : Ex} (h : DE X W a x) : DE X W (.BoolOp op [a] pos) x := pe_one h
theorem cNot_ok {K : PySem.W.Frag} : UnOk K (fun x H Q => ∃ c, x = .bl c ∧ Q (.bl (!c)) H) cNot := fun g H HF f x d rv a t z Q k => by
  cases d <;> try cases z
  exact ⟨_, t.bl, k.now a (.bl _)⟩
theorem de_not (h : DE X W a fa) : DE X W (.UnaryOp .Not a pos) (cUn cNot fa) := pe_mono (pe_not h) fun _ _ _ q => un_read (r := fun x H Q => ∃ c, x = .bl c ∧ Q (.bl (!c)) H) cNot_ok q
def cIf (t : Tx) (a b : Ex) : Ex := fun ρ f => (t ρ f).bind fun c f1 => if c = true then a ρ f1 else b ρ f1
theorem de_if (hc : DT X W c t) (ha : DE X W a fa) (hb : DE X W b fb) : DE X W (.IfExp c a b pos) (cIf t fa fb) := pe_mono (pe_ifExp hc ha hb) fun σ H Q ⟨g, HF, ρ, f, rel, q⟩ =>
  tDT_bind rel q fun k f1 G GF r1 s1 q1 => by
    cases k with
    | true => exact iteT ⟨g, GF, ρ, f1, r1, fin_later r1.feed s1 q1⟩
    | false => exact iteF ⟨g, GF, ρ, f1, r1, fin_later r1.feed s1 q1⟩
/-- a op b op c -/
def cChain (o o2 : Op2) (a b c : Ex) : Ex := fun ρ f => pk (a ρ f) fun x f1 => pk (b ρ f1) fun y f2 => match o x y with
  | some (.dat (.bool true)) => pk (c ρ f2) fun z f3 => give (o2 y z) f3
  | some (.dat (.bool false)) => .ok (.dat (.bool false)) f2
  | _ => .no
theorem chain_read {K : PySem.W.Frag} {mg : Str → Option Value} {r r2 : R2} {o o2 : Op2} (ho : BinOk K r o) (ho2 : BinOk K r2 o2) {σ : St} {H : Hp} {Q : VK} (h : tD K mg W (cChain o o2 fa fb fc) σ H Q) : tChain r r2 (tD K mg W fa) (tD K mg W fb) (tD K mg W fc) σ H Q := by
  obtain ⟨g, HF, ρ, f, rel, q⟩ := h
  refine tD_pk rel q fun d f1 x G GF r1 s1 t1 q1 => tD_pk r1 q1 fun e f2 y I IF r3 s2 t2 q2 => ?_
  cases z : o d e with
  | none =>
    simp only [z] at q2
    exact (show False from q2).elim
  | some rv =>
    refine ho g I IF f2 x y d e rv ⟨r3.sub, r3.feed⟩ (t1.step s2) t2 z _ fun v J JF s3 h3 rr => ?_
    cases rv with
    | dat w =>
      cases w with
      | bool k =>
        have ev : v = .bl k := by
          cases (show DR K JF v (.bool k) from rr)
          rfl
        refine ⟨k, ev, ?_⟩
        have r4 := r3.step s3 h3
        have s4 := s1.trans r1.feed (s2.trans r3.feed s3)
        cases k with
        | true =>
          simp only [z] at q2
          refine iteT (tD_pk r4 (q2.later h3 s3) fun w f3 u L LF r5 s5 t5 q5 => ?_)
          obtain ⟨rv2, z2, k2⟩ := give_end r5.feed (s4.trans h3 s5) q5
          exact ho2 g L LF f3 y u e w rv2 ⟨r5.sub, r5.feed⟩ ((t2.step s3).step s5) t5 z2 Q k2
        | false =>
          simp only [z] at q2
          exact iteF ((show Fin K g σ H HF Q (.dat (.bool false)) f2 from q2) (.bl false) J JF s4 h3 (.bl false))
      | _ =>
        simp only [z] at q2
        exact (show False from q2).elim
    | _ =>
      simp only [z] at q2
      exact (show False from q2).elim
theorem de_chain {op op2 : CmpOp} {r r2 : R2} {o o2 : Op2} (ho : OpR X (compareOp op) r) (hb : BinOk X.K r o) (ho2 : OpR X (compareOp op2) r2) (hb2 : BinOk X.K r2 o2) (ha : DE X W a fa) (hc : DE X W b fb) (hd : DE X W c fc)
    (hm : lastMarks [op, op2] [b, c] = false := by with_unfolding_all rfl) : DE X W (.Compare a [op, op2] [b, c] pos) (cChain o o2 fa fb fc) :=
  pe_mono (pe_chain ho ho2 ha hc hd hm) fun _ _ _ q => chain_read hb hb2 q
theorem dt_chain {op op2 : CmpOp} {r r2 : R2} {o o2 : Op2} (ho : OpR X (compareOp op) r) (hb : BinOk X.K r o) (ho2 : OpR X (compareOp op2) r2) (hb2 : BinOk X.K r2 o2) (ha : DE X W a fa) (hc : DE X W b fb) (hd : DE X W c fc)
    (hm : lastMarks [op, op2] [b, c] = false := by with_unfolding_all rfl) : DT X W (.Compare a [op, op2] [b, c] pos) (cT (cChain o o2 fa fb fc)) :=
  pt_mono (pt_chain ho ho2 ha hc hd hm) fun _ _ _ q => chain_read hb hb2 (test_read q)
end
/-! ### statements -/
def RV.up : RV → RV
  | .lent _ ds => .own ds
  | x => x
structure RetOk (K : PySem.W.Frag) (g : Gh) (G GF : Hp) (f : Feed) (v : V) (rv : RV) : Prop where
  sub : Le GF G
  feed : FeedAt g G GF f
  ext : ∀ a o, a ≠ g.fa → g.H0 a = some o → G a = some o
  le : Le g.HF0 GF
  new : ∀ a, Mo g.H0 a → g.HF0 a = none → GF a = none
  val : RR K g [] g.H0 G GF v rv.up
def FinS (K : PySem.W.Frag) (g : Gh) (D : Ends) : Ctl → Feed → Prop
  | .nx ρ, f => ∀ σ G GF, Rel K g σ G GF ρ f → D.nx σ G
  | .bk ρ, f => ∀ σ G GF, Rel K g σ G GF ρ f → D.bk σ G
  | .ct ρ, f => ∀ σ G GF, Rel K g σ G GF ρ f → D.ct σ G
  | .rt rv, f => ∀ v G GF, RetOk K g G GF f v rv → D.rt v G
/-- what is wanted of a statement's outcome; an error does not ask where it came from -/
def XF (K : PySem.W.Frag) (mg : Str → Option Value) (g : Gh) (E : XK) {α : Type} (r : R α) (P : α → Feed → Prop) : Prop := match r with
  | .no => False
  | .ok a f => P a f
  | .ex c vs f => ∀ (C : Addr) (od : Option Addr) (G GF : Hp), mg c = some (.ref C) → RetOk K g G GF f .non (.dat .none) → Xd K G GF od vs → E (.ref C) od G
def tDS (K : PySem.W.Frag) (mg : Str → Option Value) (E : XK) (s : Sm) : TS := fun D σ H => ∃ g HF ρ f, Rel K g σ H HF ρ f ∧ XF K mg g E (s ρ f) (FinS K g D)
abbrev DS (X : Cx) (E : XK) (st : Stmt) (s : Sm) : Prop := PS X st (tDS X.K X.mg E s)
abbrev DSs (X : Cx) (E : XK) (sts : List Stmt) (s : Sm) : Prop := PSs X sts (tDS X.K X.mg E s)
section
variable {X : Cx} {E : XK}
theorem ps_mono {st : Stmt} {t t2 : TS} (h : PS X st t) (i : ∀ D σ H, t2 D σ H → t D σ H) : PS X st t2 := ⟨fun pins s σ H D I q => h.run pins s σ H D I (i D σ H q)⟩
theorem pss_mono {st : List Stmt} {t t2 : TS} (h : PSs X st t) (i : ∀ D σ H, t2 D σ H → t D σ H) : PSs X st t2 := ⟨fun pins s σ H D I q => h.run pins s σ H D I (i D σ H q)⟩
end
def sNext : Sm := fun ρ f => .ok (.nx ρ) f
def sNo : Sm := fun _ _ => .no
def andThen (c : Ctl) (f : Feed) (k : Rho → Feed → R Ctl) : R Ctl := match c with
  | .nx ρ => k ρ f
  | c => .ok c f
def sSeq (a b : Sm) : Sm := fun ρ f => (a ρ f).bind fun c f1 => andThen c f1 b
section
variable {K : PySem.W.Frag} {mg : Str → Option Value} {E : XK} {g : Gh} {σ : St} {H HF : Hp} {ρ : Rho} {f : Feed}
theorem Rel.ret (r : Rel K g σ H HF ρ f) {v : V} {rv : RV} (h : RR K g [] g.H0 H HF v rv.up) : RetOk K g H HF f v rv := ⟨r.sub, r.feed, r.ext, r.le, r.new, h⟩
theorem XF.mono {α : Type} {r : R α} {P P2 : α → Feed → Prop} (h : XF K mg g E r P) (i : ∀ a f, P a f → P2 a f) : XF K mg g E r P2 := by
  cases r with
  | no => exact h
  | ok a f => exact i a f h
  | ex c vs f => exact h
theorem XF.of_bind {α β : Type} {r : R α} {k : α → Feed → R β} {P : β → Feed → Prop} (h : XF K mg g E (r.bind k) P) : XF K mg g E r fun a f => XF K mg g E (k a f) P := by
  cases r with
  | no => exact h
  | ok a f => exact h
  | ex c vs f => exact h
/-- from a statement's wish to an expression's -/
theorem Rel.toE {α : Type} {r : R α} {P : α → Feed → Prop} (rel : Rel K g σ H HF ρ f) (h : XF K mg g E r P) : ROk K mg g H HF E r P := by
  cases r with
  | no => exact h
  | ok a f => exact h
  | ex c vs f1 => exact fun C od G GF q s hf x => h C od G GF q ((rel.step s hf).ret .non) x
theorem tD_S {β : Type} {e : Ex} {k : RV → Feed → R β} {P : β → Feed → Prop} {Q : VK} (r : Rel K g σ H HF ρ f) (h : XF K mg g E ((e ρ f).bind k) P)
    (c : ∀ rv f1 v G GF, Rel K g σ G GF ρ f1 → Step g H HF G GF → RR K g σ H G GF v rv → XF K mg g E (k rv f1) P → Q v G) : tD K mg (fun _ => E) e σ H Q :=
  ⟨g, HF, ρ, f, r, r.toE (h.of_bind.mono fun rv f1 q v G GF s hf rr => c rv f1 v G GF (r.step s hf) s rr q)⟩
theorem tD_Spk {β : Type} {e : Ex} {k : PyData → Feed → R β} {P : β → Feed → Prop} {Q : VK} (r : Rel K g σ H HF ρ f) (h : XF K mg g E (pk (e ρ f) k) P)
    (c : ∀ d f1 v G GF, Rel K g σ G GF ρ f1 → Step g H HF G GF → Top K g G GF v d → XF K mg g E (k d f1) P → Q v G) : tD K mg (fun _ => E) e σ H Q :=
  tD_S r h fun rv f1 v G GF r1 s rr q => by
    cases z : rv.peek with
    | none =>
      simp only [z] at q
      exact (show False from q).elim
    | some d =>
      simp only [z] at q
      exact c d f1 v G GF r1 s (rr.top r1.feed z) q
theorem tD_Sdt {β : Type} {e : Ex} {k : PyData → Feed → R β} {P : β → Feed → Prop} {Q : VK} (r : Rel K g σ H HF ρ f) (h : XF K mg g E (dt (e ρ f) k) P)
    (c : ∀ d f1 v G GF, Rel K g σ G GF ρ f1 → Step g H HF G GF → DR K GF v d → XF K mg g E (k d f1) P → Q v G) : tD K mg (fun _ => E) e σ H Q :=
  ⟨g, HF, ρ, f, r, r.toE ((XF.of_bind h).mono fun rv f1 q v G GF s hf rr => by
    cases z : rv.data with
    | none =>
      simp only [z] at q
      exact (show False from q).elim
    | some d =>
      simp only [z] at q
      obtain ⟨IF, s2, h2, dr⟩ := rr.frz hf s z
      exact c d f1 v G IF (r.step s2 h2) s2 dr q)⟩
theorem tDT_S {β : Type} {t : Tx} {k : Bool → Feed → R β} {P : β → Feed → Prop} {Q : Bool → Hp → Prop} (r : Rel K g σ H HF ρ f) (h : XF K mg g E ((t ρ f).bind k) P)
    (c : ∀ b f1 G GF, Rel K g σ G GF ρ f1 → Step g H HF G GF → XF K mg g E (k b f1) P → Q b G) : tDT K mg (fun _ => E) t σ H Q :=
  ⟨g, HF, ρ, f, r, r.toE (h.of_bind.mono fun b f1 q G GF s hf => c b f1 G GF (r.step s hf) s q)⟩
/-! a slot is set -/
def slotOf : RV → Option Slot
  | .dat d => some (.dat d)
  | .own ds => some (.own ds)
  | .feed => some .feed
  | .lent _ _ => none
theorem Rel.dead (r : Rel K g σ H HF ρ f) {p : Addr} (h : H p = none) : g.H0 p = none := by
  cases z : g.H0 p with
  | none => rfl
  | some o =>
    by_cases q : p = g.fa
    · rw [q] at h
      exact absurd h r.feed.ne
    · rw [r.ext p o q z] at h
      cases h
theorem set_get {α : Type} {l : List α} {i j : Nat} {x y : α} (h : (l.set i x)[j]? = some y) : (i = j ∧ i < l.length ∧ x = y) ∨ (i ≠ j ∧ l[j]? = some y) := by
  rw [List.getElem?_set] at h
  by_cases e : i = j
  · rw [if_pos e] at h
    by_cases q : i < l.length
    · rw [if_pos q] at h
      exact .inl ⟨e, q, Option.some.inj h⟩
    · rw [if_neg q] at h
      cases h
  · rw [if_neg e] at h
    exact .inr ⟨e, h⟩
theorem Rel.put {H1 HF1 : Hp} {f1 : Feed} {v : V} {rv : RV} {s : Slot} {i : Nat} (r0 : Rel K g σ H HF ρ f) (r : Rel K g σ H1 HF1 ρ f1) (rr : RR K g σ H H1 HF1 v rv) (hs : slotOf rv = some s) : Rel K g (σ.set i (some v)) H1 HF1 (ρ.set i s) f1 where
  sub := r.sub
  feed := r.feed
  ext := r.ext
  le := r.le
  new := r.new
  len := by rw [List.length_set, List.length_set, r.len]
  slot := fun j x e => by
    rcases set_get e with ⟨e1, e2, e3⟩ | ⟨e1, e2⟩
    · subst e1
      subst e3
      have hx : (σ.set i (some v))[i]? = some (some v) := by
        rw [List.getElem?_set_self (by rw [r.len]; exact e2)]
      rw [hx]
      cases rv <;> cases hs
      · exact ⟨v, rfl, rr⟩
      · obtain ⟨p, vs, z1, z2, z3, z4, z5⟩ := rr
        subst z1
        exact ⟨p, vs, rfl, r0.dead z2, z3, z4, z5⟩
      · have q : v = .ref g.fa := rr
        subst q
        rfl
    · rw [List.getElem?_set_ne e1]
      exact r.slot j x e2
  sep := fun a b ds es ea eb ee => by
    rcases set_get ea with ⟨a1, a2, a3⟩ | ⟨a1, a2⟩
    · rcases set_get eb with ⟨b1, b2, b3⟩ | ⟨b1, b2⟩
      · exact a1.symm.trans b1
      · exfalso
        subst a1
        rw [List.getElem?_set_self (by rw [r.len]; exact a2), List.getElem?_set_ne b1] at ee
        subst a3
        cases rv <;> cases hs
        obtain ⟨p, vs, z1, z2, z3, z4, z5⟩ := rr
        obtain ⟨q, ws, y1, y2, y3, y4, y5⟩ := r0.slot b _ b2
        rw [y1, z1] at ee
        cases ee
        rw [y4] at z2
        cases z2
    · rcases set_get eb with ⟨b1, b2, b3⟩ | ⟨b1, b2⟩
      · exfalso
        subst b1
        rw [List.getElem?_set_self (by rw [r.len]; exact b2), List.getElem?_set_ne a1] at ee
        subst b3
        cases rv <;> cases hs
        obtain ⟨p, vs, z1, z2, z3, z4, z5⟩ := rr
        obtain ⟨q, ws, y1, y2, y3, y4, y5⟩ := r0.slot a _ a2
        rw [y1, z1] at ee
        cases ee
        rw [y4] at z2
        cases z2
      · rw [List.getElem?_set_ne a1, List.getElem?_set_ne b1] at ee
        exact r.sep a b ds es a2 b2 ee
  sepD := fun a b ds es ea eb ee => by
    rcases set_get ea with ⟨a1, a2, a3⟩ | ⟨a1, a2⟩
    · subst a3
      cases rv <;> cases hs
    · rcases set_get eb with ⟨b1, b2, b3⟩ | ⟨b1, b2⟩
      · subst b3
        cases rv <;> cases hs
      · rw [List.getElem?_set_ne a1, List.getElem?_set_ne b1] at ee
        exact r.sepD a b ds es a2 b2 ee
theorem Rel.putD {v : V} {d : PyData} {i : Nat} (r : Rel K g σ H HF ρ f) (h : DR K HF v d) : Rel K g (σ.set i (some v)) H HF (ρ.set i (.dat d)) f := r.put (rv := .dat d) r h rfl
/-- the list that a slot holds is written -/
theorem Rel.write {p : Addr} {vs ws : List V} {ds es : List PyData} {i : Nat} (r : Rel K g σ H HF ρ f) (h : ρ[i]? = some (.own ds)) (hp : σ[i]? = some (some (.ref p))) (hq : HF p = none) (h4 : H p = some (.lst vs)) (h5 : DRs K HF ws es) :
    Rel K g σ (upd H p (.lst ws)) HF (ρ.set i (.own es)) f where
  sub := fun a o e => by
    rw [upd_ne (ne_of_none e hq)]
    exact r.sub a o e
  feed := ⟨by rw [upd_ne (fun z => ne_fa r.feed h4 z.symm)]; exact r.feed.d, r.feed.nf, r.feed.c⟩
  ext := fun a o z e => by
    have na : a ≠ p := fun w => by
      subst w
      obtain ⟨p2, vs2, z1, z2, _⟩ := r.slot i _ h
      rw [hp] at z1
      cases z1
      rw [z2] at e
      cases e
    rw [upd_ne na]
    exact r.ext a o z e
  le := r.le
  new := r.new
  len := by rw [List.length_set, r.len]
  slot := fun j x e => by
    rcases set_get e with ⟨e1, e2, e3⟩ | ⟨e1, e2⟩
    · subst e1
      subst e3
      obtain ⟨p2, vs2, z1, z2, z3, z4, z5⟩ := r.slot i _ h
      rw [hp] at z1
      cases z1
      exact ⟨p, ws, hp, z2, hq, upd_same, h5⟩
    · have k := r.slot j x e2
      cases x with
      | emp => trivial
      | dat d => exact k
      | own fs =>
        obtain ⟨p2, vs2, z1, z2, z3, z4, z5⟩ := k
        have np : p2 ≠ p := fun w => by
          subst w
          exact e1 (r.sep i j ds fs h e2 (hp.trans z1.symm))
        exact ⟨p2, vs2, z1, z2, z3, by rw [upd_ne np]; exact z4, z5⟩
      | feed => exact k
      | scr ns => exact k
      | dct q =>
        obtain ⟨p2, z1, z2, z3, z4⟩ := k
        have np : p2 ≠ p := fun w => by
          subst w
          exact z4.nl h4
        exact ⟨p2, z1, z2, z3, z4.mono (fun o e => by rw [upd_ne np]; exact e) (Le.refl _)⟩
      | key ks => exact k
  sepD := fun a b xs ys ea eb ee => by
    rcases set_get ea with ⟨a1, a2, a3⟩ | ⟨a1, a2⟩
    · cases a3
    · rcases set_get eb with ⟨b1, b2, b3⟩ | ⟨b1, b2⟩
      · cases b3
      · exact r.sepD a b xs ys a2 b2 ee
  sep := fun a b xs ys ea eb ee => by
    have fa : ∃ zs, ρ[a]? = some (.own zs) := by
      rcases set_get ea with ⟨a1, a2, a3⟩ | ⟨a1, a2⟩
      · subst a1
        exact ⟨ds, h⟩
      · exact ⟨xs, a2⟩
    have fb : ∃ zs, ρ[b]? = some (.own zs) := by
      rcases set_get eb with ⟨a1, a2, a3⟩ | ⟨a1, a2⟩
      · subst a1
        exact ⟨ds, h⟩
      · exact ⟨ys, a2⟩
    obtain ⟨z1, fa⟩ := fa
    obtain ⟨z2, fb⟩ := fb
    exact r.sep a b z1 z2 fa fb ee
end
section
variable {X : Cx} {E : XK} {st : Stmt} {rest : List Stmt} {a b : Sm} {e : Expr} {x : Ex} {pos : Pos}
theorem ds_next (h : PS X st tNext) : DS X E st sNext := ps_mono h fun D σ H ⟨g, HF, ρ, f, rel, q⟩ => (show FinS X.K g D (.nx ρ) f from q) σ H HF rel
theorem ds_pass : DS X E (.Pass pos) sNext := ds_next ps_pass
theorem ds_doc {x j pos pos2} : DS X E (.Expr (.Constant (.str x) j pos) pos2) sNext := ds_next ps_doc
theorem ds_no : DS X E st sNo := ps_mono ps_never fun D σ H ⟨g, HF, ρ, f, rel, q⟩ => q
theorem dss_no {sts : List Stmt} : DSs X E sts sNo := pss_mono pss_never fun D σ H ⟨g, HF, ρ, f, rel, q⟩ => q
theorem dss_nil : DSs X E [] sNext := pss_mono pss_nil fun D σ H ⟨g, HF, ρ, f, rel, q⟩ => (show FinS X.K g D (.nx ρ) f from q) σ H HF rel
theorem dss_one (h : DS X E st a) : DSs X E [st] a := pss_one h
theorem dss_cons (h : DS X E st a) (h2 : DSs X E rest b) : DSs X E (st :: rest) (sSeq a b) := pss_mono (pss_cons h h2) fun D σ H ⟨g, HF, ρ, f, rel, q⟩ =>
  ⟨g, HF, ρ, f, rel, (XF.of_bind q).mono fun c f1 k => by
    cases c with
    | nx ρ2 => exact fun σ2 G GF r2 => ⟨g, GF, ρ2, f1, r2, k⟩
    | rt v => exact k
    | bk ρ2 => exact k
    | ct ρ2 => exact k⟩
def sSet (i : Nat) (e : Ex) : Sm := fun ρ f => (e ρ f).bind fun rv f1 => match slotOf rv with
  | some s => .ok (.nx (ρ.set i s)) f1
  | none => .no
theorem set_read {K : PySem.W.Frag} {mg : Str → Option Value} {i : Nat} {D : Ends} {σ : St} {H : Hp} (h : tDS K mg E (sSet i x) D σ H) : tAsg (tD K mg (fun _ => E) x) (gName i) D σ H := by
  obtain ⟨g, HF, ρ, f, rel, q⟩ := h
  refine tD_S rel q fun rv f1 v G GF r1 s1 rr q1 => ?_
  cases z : slotOf rv with
  | none =>
    simp only [z] at q1
    exact (show False from q1).elim
  | some s =>
    simp only [z] at q1
    exact (show FinS K g D (.nx (ρ.set i s)) f1 from q1) _ G GF (rel.put r1 rr z)
theorem ds_set {i : Nat} {y : Str} {pos2 : Pos} (hN : X.N.Nodup) (hi : X.N[i]? = some y) (hx : Loc X.env.scope y) (he : DE X (fun _ => E) e x) (hs : swapsWith e (some (.Name y pos2)) pos.line X.env = pure false := by rfl)
    (hf : X.fn y = true ∨ X.env.scope.names.lookup y = some .local := by first | exact .inl rfl | exact .inr rfl | assumption) : DS X E (.Assign [.Name y pos2] e pos) (sSet i x) :=
  ps_mono (ps_set hN hi hx he hs hf) fun _ _ _ q => set_read q
def sRet (e : Ex) : Sm := fun ρ f => (e ρ f).bind fun rv f1 => .ok (.rt rv) f1
theorem ds_ret (he : DE X (fun _ => E) e x) : DS X E (.Return (some e) pos) (sRet x) := ps_mono (ps_ret he) fun D σ H ⟨g, HF, ρ, f, rel, q⟩ =>
  tD_S rel q fun rv f1 v G GF r1 s1 rr q1 => (show FinS X.K g D (.rt rv) f1 from q1) v G GF (r1.ret (by
    cases rv with
    | dat d => exact rr
    | own ds =>
      obtain ⟨p, vs, e1, e2, e3⟩ := rr
      exact ⟨p, vs, e1, rel.dead e2, e3⟩
    | lent i ds =>
      obtain ⟨p, vs, e1, e2, e0, e3⟩ := rr
      exact ⟨p, vs, e1, e0, e3⟩
    | feed => exact rr))
def sIf (t : Tx) (a b : Sm) : Sm := fun ρ f => (t ρ f).bind fun c f1 => if c = true then a ρ f1 else b ρ f1
theorem ds_if {c : Expr} {t : Tx} {as bs : List Stmt} (hc : DT X (fun _ => E) c t) (ha : DSs X E as a) (hb : DSs X E bs b) : DS X E (.If c as bs pos) (sIf t a b) := ps_mono (ps_if hc ha hb) fun D σ H ⟨g, HF, ρ, f, rel, q⟩ =>
  tDT_S rel q fun k f1 G GF r1 s1 q1 => by
    cases k with
    | true => exact iteT ⟨g, GF, ρ, f1, r1, q1⟩
    | false => exact iteF ⟨g, GF, ρ, f1, r1, q1⟩
def sDrop (e : Ex) : Sm := fun ρ f => (e ρ f).bind fun _ f1 => .ok (.nx ρ) f1
theorem ds_expr (he : DE X (fun _ => E) e x) (hs : swapsWith e none pos.line X.env = pure false := by rfl) : DS X E (.Expr e pos) (sDrop x) := ps_mono (ps_expr he hs) fun D σ H ⟨g, HF, ρ, f, rel, q⟩ =>
  tD_S rel q fun rv f1 v G GF r1 s1 rr q1 => (show FinS X.K g D (.nx ρ) f1 from q1) σ G GF r1
def sBreak : Sm := fun ρ f => .ok (.bk ρ) f
def sCont : Sm := fun ρ f => .ok (.ct ρ) f
theorem ds_break : DS X E (.Break pos) sBreak := ps_mono ps_break fun D σ H ⟨g, HF, ρ, f, rel, q⟩ => (show FinS X.K g D (.bk ρ) f from q) σ H HF rel
theorem ds_cont : DS X E (.Continue pos) sCont := ps_mono ps_continue fun D σ H ⟨g, HF, ρ, f, rel, q⟩ => (show FinS X.K g D (.ct ρ) f from q) σ H HF rel
/-! several names at once -/
inductive Tgt where
  | one (i : Nat)
  | many (l : List Nat)
def setAll : List Nat → List PyData → Rho → Rho
  | i :: l, d :: ds, ρ => setAll l ds (ρ.set i (.dat d))
  | _, _, ρ => ρ
def Tgt.put : Tgt → PyData → Rho → Option Rho
  | .one i, d, ρ => some (ρ.set i (.dat d))
  | .many l, .tuple ds, ρ => if ds.length = l.length then some (setAll l ds ρ) else none
  | .many _, _, _ => none
def gAll : List Nat → TGs
  | [] => gNil
  | i :: l => gCons (gName i) (gAll l)
def Tgt.rd (K : PySem.W.Frag) : Tgt → TG
  | .one i => gName i
  | .many l => gTup K l.length (gAll l)
theorem all_put {K : PySem.W.Frag} {g : Gh} {H HF : Hp} {f : Feed} : ∀ {l : List Nat} {vs : List V} {ds : List PyData} {σ : St} {ρ : Rho} {Q : St → Hp → Prop}, ds.length = l.length → Rel K g σ H HF ρ f → DRs K HF vs ds →
    (∀ σ2, Rel K g σ2 H HF (setAll l ds ρ) f → Q σ2 H) → gAll l vs σ H Q
  | [], _, [], σ, ρ, Q, _, r, .nil, q => ⟨rfl, q σ r⟩
  | i :: l, _, d :: ds, σ, ρ, Q, hl, r, .cons h hs, q => ⟨_, _, rfl, all_put (by simpa using hl) (r.putD h) hs q⟩
  | [], _, _ :: _, _, _, _, hl, _, _, _ => by simp at hl
  | _ :: _, _, [], _, _, _, hl, _, _, _ => by simp at hl
theorem Tgt.read {K : PySem.W.Frag} {g : Gh} {H HF : Hp} {f : Feed} {T : Tgt} {v : V} {d : PyData} {σ : St} {ρ ρ2 : Rho} {Q : St → Hp → Prop} (r : Rel K g σ H HF ρ f) (h : DR K HF v d) (e : T.put d ρ = some ρ2) (q : ∀ σ2, Rel K g σ2 H HF ρ2 f → Q σ2 H) : T.rd K v σ H Q := by
  cases T with
  | one i =>
    cases e
    exact q _ (r.putD h)
  | many l =>
    cases d <;> try cases e
    rename_i ds
    replace e : (if ds.length = l.length then some (setAll l ds ρ) else none) = some ρ2 := e
    by_cases c : ds.length = l.length
    · rw [if_pos c] at e
      cases e
      cases h with
      | tup h1 h2 => exact ⟨_, _, rfl, r.sub.sqT h1, h2.length.trans c, all_put c r h2 q⟩
    · rw [if_neg c] at e
      cases e
def sAsg (T : Tgt) (e : Ex) : Sm := fun ρ f => dt (e ρ f) fun d f1 => match T.put d ρ with
  | some ρ2 => .ok (.nx ρ2) f1
  | none => .no
theorem ds_asg {tg : Expr} {T : Tgt} (he : DE X (fun _ => E) e x) (hg : PG X tg (T.rd X.K)) (hs : swapsWithSole [tg] e pos.line X.env = pure false := by rfl) (hw : swappedStores [tg] e X.env = pure none := by rfl)
    (h1 : (assignEach [tg] X.env).map (·.2) = [assign tg X.env] := by rfl) : DS X E (.Assign [tg] e pos) (sAsg T x) := ps_mono (ps_asg he hg hs hw h1) fun D σ H ⟨g, HF, ρ, f, rel, q⟩ =>
  tD_Sdt rel q fun d f1 v G GF r1 s1 dr q1 => by
    cases z : T.put d ρ with
    | none =>
      simp only [z] at q1
      exact (show False from q1).elim
    | some ρ2 =>
      simp only [z] at q1
      exact T.read r1 dr z fun σ2 r2 => (show FinS X.K g D (.nx ρ2) f1 from q1) σ2 G GF r2
/-- a, b = x, y of plain names -/
def sPar (i j : Nat) (a b : Ex) : Sm := fun ρ f => (cArgs [a, b] ρ f).bind fun ds f1 => match ds with
  | [d, e] => .ok (.nx ((ρ.set i (.dat d)).set j (.dat e))) f1
  | _ => .no
theorem args_readS {K : PySem.W.Frag} {mg : Str → Option Value} {β : Type} {P : β → Feed → Prop} (xs : List Ex) {k : List PyData → Feed → R β} {g : Gh} {σ : St} {H HF : Hp} {ρ : Rho} {f : Feed} {Q : List V → Hp → Prop} (r : Rel K g σ H HF ρ f)
    (h : XF K mg g E ((cArgs xs ρ f).bind k) P) (c : ∀ ds f1 vs G GF, Rel K g σ G GF ρ f1 → Step g H HF G GF → DRs K GF vs ds → XF K mg g E (k ds f1) P → Q vs G) : argT K mg (fun _ => E) xs σ H Q := by
  have h2 : ROk K mg g H HF E ((cArgs xs ρ f).bind fun ds f1 => .ok (ds, f1) f1) fun p f1 => XF K mg g E (k p.1 f1) P := by
    have h3 := r.toE h.of_bind
    cases z : cArgs xs ρ f with
    | no => rw [z] at h3; exact h3
    | ok a f => rw [z] at h3; exact h3
    | ex c vs f => rw [z] at h3; exact h3
  exact args_read (W := fun _ => E) xs r h2 fun ds f1 vs G GF r1 s1 drs q => c ds f1 vs G GF r1 s1 drs q
theorem ds_par {i j : Nat} {y z : Str} {ea eb : Expr} {xa xb : Ex} {px py pt : Pos} {kt k2 pt2} (hc : X.calm = true) (hN : X.N.Nodup) (hi : X.N[i]? = some y) (hj : X.N[j]? = some z) (hij : i ≠ j)
    (hx : X.env.scope.names.lookup y = some .local) (hy : X.env.scope.names.lookup z = some .local) (ha : DA X (fun _ => E) [ea, eb] [xa, xb])
    (hw : swappedStores [.Tuple [.Name y px, .Name z py] kt pt] (.Tuple [ea, eb] k2 pt2) X.env = pure (some [y, z]))
    (hs : swapsWithSole [.Tuple [.Name y px, .Name z py] kt pt] (.Tuple [ea, eb] k2 pt2) pos.line X.env = pure false := by rfl) :
    DS X E (.Assign [.Tuple [.Name y px, .Name z py] kt pt] (.Tuple [ea, eb] k2 pt2) pos) (sPar i j xa xb) := ps_mono (ps_par hc hN hi hj hij hx hy ha hw hs) fun D σ H ⟨g, HF, ρ, f, rel, q⟩ =>
  args_readS [xa, xb] rel q fun ds f1 vs G GF r1 s1 drs q1 => by
    cases drs with
    | nil => exact (show False from q1).elim
    | cons h1 t1 =>
      cases t1 with
      | nil => exact (show False from q1).elim
      | cons h2 t2 =>
        cases t2 with
        | cons _ _ => exact (show False from q1).elim
        | nil => exact ⟨_, _, rfl, (show FinS X.K g D (.nx _) f1 from q1) _ G GF ((r1.putD h1).putD h2)⟩
/-! lists that grow -/
def sApp (i : Nat) (e : Ex) : Sm := fun ρ f => match ρ[i]? with
  | some (.own ds) => dt (e ρ f) fun d f1 => if ds.length < 100000 then .ok (.nx (ρ.set i (.own (ds ++ [d])))) f1 else .no
  | _ => .no
theorem own_here {K : PySem.W.Frag} {g : Gh} {σ : St} {H HF : Hp} {ρ : Rho} {f : Feed} {i : Nat} {ds : List PyData} (r : Rel K g σ H HF ρ f) (h : ρ[i]? = some (.own ds)) : ∃ p vs, σ[i]? = some (some (.ref p)) ∧ HF p = none ∧ H p = some (.lst vs) ∧ DRs K HF vs ds := by
  obtain ⟨p, vs, z1, z2, z3, z4, z5⟩ := r.slot i _ h
  exact ⟨p, vs, z1, z3, z4, z5⟩
theorem app_read {K : PySem.W.Frag} {mg : Str → Option Value} {i : Nat} {D : Ends} {σ : St} {H : Hp} (h : tDS K mg E (sApp i x) D σ H) : tDrop (tBM K "list" rAppend (tVar i) (tCons (tD K mg (fun _ => E) x) tNil)) D σ H := by
  obtain ⟨g, HF, ρ, f, rel, q⟩ := h
  unfold sApp at q
  cases z : ρ[i]? with
  | none =>
    simp only [z] at q
    exact (show False from q).elim
  | some s =>
    cases s with
    | own ds =>
      simp only [z] at q
      obtain ⟨p, vs, e1, e2, e3, e4⟩ := own_here rel z
      refine ⟨.ref p, e1, .inl ⟨rfl, vs, .inl (.inl e3)⟩, tD_Sdt rel q fun d f1 v G GF r1 s1 dr q1 => ?_⟩
      obtain ⟨p2, vs2, y1, y2, y3, y4⟩ := own_here r1 z
      rw [e1] at y1
      cases y1
      by_cases c : ds.length < 100000
      · rw [if_pos c] at q1
        exact ⟨p, vs2, v, rfl, rfl, y3, by rw [y4.length]; exact Nat.lt_of_lt_of_le c (by decide), (show FinS K g D (.nx _) f1 from q1) _ _ GF (r1.write z e1 y2 y3 (y4.snoc dr))⟩
      · rw [if_neg c] at q1
        exact (show False from q1).elim
    | _ =>
      simp only [z] at q
      exact (show False from q).elim
def sExt (i : Nat) (e : Ex) : Sm := fun ρ f => match ρ[i]? with
  | some (.own ds) => dt (e ρ f) fun d f1 => match d with
    | .list es => if ds.length + es.length ≤ 100000 then .ok (.nx (ρ.set i (.own (ds ++ es)))) f1 else .no
    | _ => .no
  | _ => .no
theorem ext_read {K : PySem.W.Frag} {mg : Str → Option Value} {i : Nat} {D : Ends} {σ : St} {H : Hp} (h : tDS K mg E (sExt i x) D σ H) : tDrop (tBM K "list" rExtend (tVar i) (tCons (tD K mg (fun _ => E) x) tNil)) D σ H := by
  obtain ⟨g, HF, ρ, f, rel, q⟩ := h
  unfold sExt at q
  cases z : ρ[i]? with
  | none =>
    simp only [z] at q
    exact (show False from q).elim
  | some s =>
    cases s with
    | own ds =>
      simp only [z] at q
      obtain ⟨p, vs, e1, e2, e3, e4⟩ := own_here rel z
      refine ⟨.ref p, e1, .inl ⟨rfl, vs, .inl (.inl e3)⟩, tD_Sdt rel q fun d f1 v G GF r1 s1 dr q1 => ?_⟩
      obtain ⟨p2, vs2, y1, y2, y3, y4⟩ := own_here r1 z
      rw [e1] at y1
      cases y1
      cases d <;> try exact (show False from q1).elim
      rename_i es
      simp only at q1
      by_cases c : ds.length + es.length ≤ 100000
      · rw [if_pos c] at q1
        cases dr with
        | lst h1 h2 => exact ⟨p, _, vs2, _, rfl, rfl, y3, r1.sub _ _ h1, by rw [y4.length, h2.length]; exact line5 c, (show FinS K g D (.nx _) f1 from q1) _ _ GF (r1.write z e1 y2 y3 (y4.append h2))⟩
      · rw [if_neg c] at q1
        exact (show False from q1).elim
    | _ =>
      simp only [z] at q
      exact (show False from q).elim
section
variable {i : Nat} {y : Str} {o : Expr} {pos2 apos cpos : Pos}
theorem ds_app (ho : PE X o (tVar i)) (he : DE X (fun _ => E) e x)
    (hbase : attributeBase o "append" X.env (eval o X.env) = eval o X.env := by rfl)
    (hfew : ((backTo cpos (starEach [e] X.env)).all (fun x => !x.1) && (backToKw cpos (keywordEach [] X.env)).all (fun x => x.1.isSome)
      && decide ([e].length + ([] : List Keyword).length + (if ([] : List Keyword).isEmpty then 0 else 1) < 30)) = true := by rfl)
    (hline : (apos.endLine == cpos.line) = true := by rfl) (hst : starEach [e] X.env = (false, eval e X.env) :: starEach [] X.env := by rfl)
    (hs : swapsWith (.Call (.Attribute o "append" apos) [e] [] cpos) none pos.line X.env = pure false := by rfl) : DS X E (.Expr (.Call (.Attribute o "append" apos) [e] [] cpos) pos) (sApp i x) :=
  ps_mono (ps_expr (pe_bm PySem.F.plainAttrs_list PySem.F.slot_list_append PySem.F.type_list_append mt_append ho (pa_cons he pa_nil hst) hbase hfew hline hst rfl) hs) fun _ _ _ q => app_read q
theorem ds_ext (ho : PE X o (tVar i)) (he : DE X (fun _ => E) e x)
    (hbase : attributeBase o "extend" X.env (eval o X.env) = eval o X.env := by rfl)
    (hfew : ((backTo cpos (starEach [e] X.env)).all (fun x => !x.1) && (backToKw cpos (keywordEach [] X.env)).all (fun x => x.1.isSome)
      && decide ([e].length + ([] : List Keyword).length + (if ([] : List Keyword).isEmpty then 0 else 1) < 30)) = true := by rfl)
    (hline : (apos.endLine == cpos.line) = true := by rfl) (hst : starEach [e] X.env = (false, eval e X.env) :: starEach [] X.env := by rfl)
    (hs : swapsWith (.Call (.Attribute o "extend" apos) [e] [] cpos) none pos.line X.env = pure false := by rfl) : DS X E (.Expr (.Call (.Attribute o "extend" apos) [e] [] cpos) pos) (sExt i x) :=
  ps_mono (ps_expr (pe_bm PySem.F.plainAttrs_list PySem.F.slot_list_extend PySem.F.type_list_extend mt_extend ho (pa_cons he pa_nil hst) hbase hfew hline hst rfl) hs) fun _ _ _ q => ext_read q
end
/-! xs[k] = e -/
def sPut (i : Nat) (ix e : Ex) : Sm := fun ρ f => match ρ[i]? with
  | some (.own ds) => dt (e ρ f) fun d f1 => pk (ix ρ f1) fun k f2 => match k with
    | .int k => match ixN ds.length k with
      | some j => .ok (.nx (ρ.set i (.own (ds.set j d)))) f2
      | none => .no
    | _ => .no
  | _ => .no
theorem put_read {K : PySem.W.Frag} {mg : Str → Option Value} {i : Nat} {xi : Ex} {D : Ends} {σ : St} {H : Hp} (h : tDS K mg E (sPut i xi x) D σ H) : tAsg (tD K mg (fun _ => E) x) (gSub (tVar i) (tD K mg (fun _ => E) xi) rSetL) D σ H := by
  obtain ⟨g, HF, ρ, f, rel, q⟩ := h
  unfold sPut at q
  cases z : ρ[i]? with
  | none =>
    simp only [z] at q
    exact (show False from q).elim
  | some s =>
    cases s with
    | own ds =>
      simp only [z] at q
      refine tD_Sdt rel q fun d f1 v G GF r1 s1 dr q1 => ?_
      obtain ⟨p, vs, e1, e2, e3, e4⟩ := own_here r1 z
      refine ⟨.ref p, e1, tD_Spk r1 q1 fun k f2 w I IF r2 s2 t2 q2 => ?_⟩
      obtain ⟨p2, vs2, y1, y2, y3, y4⟩ := own_here r2 z
      rw [e1] at y1
      cases y1
      cases k <;> try exact (show False from q2).elim
      rename_i k
      simp only at q2
      cases zz : ixN ds.length k with
      | none =>
        simp only [zz] at q2
        exact (show False from q2).elim
      | some j =>
        simp only [zz] at q2
        exact ⟨p, vs2, k, j, rfl, t2.int, y3, by rw [y4.length]; exact zz, (show FinS K g D (.nx _) f2 from q2) _ _ IF (r2.write z e1 y2 y3 (y4.set j (dr.mono s2.le)))⟩
    | _ =>
      simp only [z] at q
      exact (show False from q).elim
theorem ds_put {i : Nat} {o ie : Expr} {xi : Ex} {tpos : Pos} (ho : PE X o (tVar i)) (hi : DE X (fun _ => E) ie xi) (he : DE X (fun _ => E) e x)
    (ha : ∀ v, assign (.Subscript o ie tpos) X.env v = (do
      let ov ← holding [v] (eval o X.env)
      let iv ← holding [v, ov] (eval ie X.env)
      standAt tpos
      holding [v, ov, iv] (setItem ov iv v)
      release [v, ov, iv] []) := by intro _; rfl)
    (hs : swapsWithSole [.Subscript o ie tpos] e pos.line X.env = pure false := by rfl) (hw : swappedStores [.Subscript o ie tpos] e X.env = pure none := by rfl)
    (h1 : (assignEach [.Subscript o ie tpos] X.env).map (·.2) = [assign (.Subscript o ie tpos) X.env] := by rfl) : DS X E (.Assign [.Subscript o ie tpos] e pos) (sPut i xi x) :=
  ps_mono (ps_asg he (pg_sub ho hi set_list ha) hs hw h1) fun _ _ _ q => put_read q
/-! a growing list is told as a datum from here on -/
def sFrz (i : Nat) : Sm := fun ρ f => match ρ[i]? with
  | some (.own ds) => .ok (.nx (ρ.set i (.dat (.list ds)))) f
  | _ => .ok (.nx ρ) f
end
end Dn

end
section
set_option maxHeartbeats 4000000
/-! loops, comprehensions -/
namespace Dn
open PySem PySem.Spec L2
section
variable {K : PySem.W.Frag} {mg : Str → Option Value} {E : XK} {g : Gh} {σ : St} {H HF : Hp} {ρ : Rho} {f : Feed}
theorem Rel.frz {i : Nat} {ds : List PyData} (r : Rel K g σ H HF ρ f) (h : ρ[i]? = some (.own ds)) : ∃ GF, Rel K g σ H GF (ρ.set i (.dat (.list ds))) f := by
  obtain ⟨p, vs, e1, e2, e3, e4, e5⟩ := r.slot i _ h
  have l : Le HF (upd HF p (.lst vs)) := fun a o q => by
    rw [upd_ne (ne_of_none q e3)]
    exact q
  have np : g.fa ≠ p := fun q => ne_fa r.feed e4 q.symm
  refine ⟨upd HF p (.lst vs), ⟨fun a o q => ?_, ⟨r.feed.d, ?_, l _ _ r.feed.c⟩, r.ext, r.le.trans l, fun a x y => ?_, ?_, fun j x e => ?_, fun a b xs ys ea eb ee => ?_, fun a b xs ys ea eb ee => ?_⟩⟩
  · by_cases z : a = p
    · subst z
      rw [upd_same] at q
      rw [e4]
      exact q
    · rw [upd_ne z] at q
      exact r.sub a o q
  · rw [upd_ne np]
    exact r.feed.nf
  · rw [upd_ne (fun z => x.some (by rw [z]; exact e2))]
    exact r.new a x y
  · rw [List.length_set, r.len]
  · rcases set_get e with ⟨z1, z2, z3⟩ | ⟨z1, z2⟩
    · subst z1
      subst z3
      exact ⟨.ref p, e1, .lst upd_same (e5.mono l)⟩
    · have k := r.slot j x z2
      cases x with
      | emp => trivial
      | dat d =>
        obtain ⟨v, k1, k2⟩ := k
        exact ⟨v, k1, k2.mono l⟩
      | own fs =>
        obtain ⟨q, ws, k1, k2, k3, k4, k5⟩ := k
        have nq : q ≠ p := fun w => by
          subst w
          exact z1 (r.sep i j ds fs h z2 (e1.trans k1.symm))
        exact ⟨q, ws, k1, k2, by rw [upd_ne nq]; exact k3, k4, k5.mono l⟩
      | feed => exact k
      | scr ns =>
        obtain ⟨a, k1, k2⟩ := k
        exact ⟨a, k1, l.sqL k2⟩
      | dct fs =>
        obtain ⟨q, k1, k2, k3, k4⟩ := k
        have nq : q ≠ p := fun w => by
          subst w
          exact k4.nl e4
        exact ⟨q, k1, k2, by rw [upd_ne nq]; exact k3, k4.mono (fun _ e => e) l⟩
      | key ks =>
        obtain ⟨a, k1, k2⟩ := k
        exact ⟨a, k1, l _ _ k2⟩
  · rcases set_get ea with ⟨a1, a2, a3⟩ | ⟨a1, a2⟩
    · cases a3
    · rcases set_get eb with ⟨b1, b2, b3⟩ | ⟨b1, b2⟩
      · cases b3
      · exact r.sep a b xs ys a2 b2 ee
  · rcases set_get ea with ⟨a1, a2, a3⟩ | ⟨a1, a2⟩
    · cases a3
    · rcases set_get eb with ⟨b1, b2, b3⟩ | ⟨b1, b2⟩
      · cases b3
      · exact r.sepD a b xs ys a2 b2 ee
end
theorem dss_frz {X : Cx} {E : XK} {sts : List Stmt} {s : Sm} (i : Nat) (h : DSs X E sts s) : DSs X E sts (sSeq (sFrz i) s) := pss_mono h fun D σ H ⟨g, HF, ρ, f, rel, q⟩ => by
  unfold sSeq sFrz at q
  cases z : ρ[i]? with
  | none =>
    simp only [z] at q
    exact ⟨g, HF, ρ, f, rel, q⟩
  | some x =>
    cases x with
    | own ds =>
      simp only [z] at q
      obtain ⟨GF, r2⟩ := rel.frz z
      exact ⟨g, GF, _, f, r2, q⟩
    | _ =>
      simp only [z] at q
      exact ⟨g, HF, ρ, f, rel, q⟩
/-! ### while -/
def whileN (t : Tx) (s : Sm) : Nat → Rho → Feed → R Ctl
  | 0, _, _ => .no
  | n + 1, ρ, f => (t ρ f).bind fun b f1 => if b = true then (s ρ f1).bind fun c f2 => match c with
      | .nx ρ2 => whileN t s n ρ2 f2
      | .ct ρ2 => whileN t s n ρ2 f2
      | .bk ρ2 => .ok (.nx ρ2) f2
      | .rt v => .ok (.rt v) f2
    else .ok (.nx ρ) f1
open Classical in
noncomputable def sWhile (t : Tx) (s : Sm) : Sm := fun ρ f => if h : ∃ n, whileN t s n ρ f ≠ .no then whileN t s (Classical.choose h) ρ f else .no
theorem whileN_succ {t : Tx} {s : Sm} : ∀ {n : Nat} {ρ : Rho} {f : Feed}, whileN t s n ρ f ≠ .no → whileN t s (n + 1) ρ f = whileN t s n ρ f
  | 0, ρ, f, h => absurd rfl h
  | n + 1, ρ, f, h => by
    unfold whileN at h ⊢
    cases e1 : t ρ f with
    | no => rfl
    | ex c v f => rfl
    | ok b f1 =>
      simp only [e1, R.bind] at h ⊢
      cases b with
      | false => rfl
      | true =>
        simp only [if_true] at h ⊢
        cases e2 : s ρ f1 with
        | no => rfl
        | ex c v f => rfl
        | ok c f2 =>
          simp only [e2] at h ⊢
          cases c with
          | nx ρ2 => exact whileN_succ h
          | ct ρ2 => exact whileN_succ h
          | bk ρ2 => rfl
          | rt v => rfl
theorem whileN_add {t : Tx} {s : Sm} {n : Nat} {ρ : Rho} {f : Feed} (h : whileN t s n ρ f ≠ .no) : ∀ k, whileN t s (n + k) ρ f = whileN t s n ρ f
  | 0 => rfl
  | k + 1 => by
    have ih := whileN_add h k
    rw [← Nat.add_assoc, whileN_succ (by rw [ih]; exact h), ih]
theorem sWhile_eq {t : Tx} {s : Sm} {n : Nat} {ρ : Rho} {f : Feed} {r : R Ctl} (h : whileN t s n ρ f = r) (hr : r ≠ .no) : sWhile t s ρ f = r := by
  have hx : ∃ n, whileN t s n ρ f ≠ .no := ⟨n, by rw [h]; exact hr⟩
  unfold sWhile
  rw [dif_pos hx, ← h]
  have c := Classical.choose_spec hx
  have a1 := whileN_add c n
  have a2 := whileN_add (show whileN t s n ρ f ≠ .no by rw [h]; exact hr) (Classical.choose hx)
  rw [← a1, ← a2, Nat.add_comm]
section
variable {X : Cx} {E : XK} {t : Tx} {s : Sm} {c : Expr} {body : List Stmt} {pos : Pos}
theorem while_read {K : PySem.W.Frag} {mg : Str → Option Value} {D : Ends} {σ : St} {H : Hp} (h : tDS K mg E (sWhile t s) D σ H) : tWhile (tDT K mg (fun _ => E) t) (tDS K mg E s) D σ H := by
  obtain ⟨g, HF, ρ, f, rel, q⟩ := h
  unfold sWhile at q
  by_cases hx : ∃ n, whileN t s n ρ f ≠ .no
  · rw [dif_pos hx] at q
    refine ⟨fun m σ H => ∃ HF ρ f, Rel K g σ H HF ρ f ∧ XF K mg g E (whileN t s m ρ f) (FinS K g D), ⟨_, HF, ρ, f, rel, q⟩, fun m σ H hW => ?_⟩
    obtain ⟨HF, ρ, f, rel, q⟩ := hW
    cases m with
    | zero => exact (show False from q).elim
    | succ m =>
      refine tDT_S rel q fun b f1 G GF r1 s1 q1 => ?_
      cases b with
      | false => exact iteF ((show FinS K g D (.nx ρ) f1 from q1) σ G GF r1)
      | true =>
        refine iteT ⟨fun σ H => ∃ HF ρ f, Rel K g σ H HF ρ f ∧ XF K mg g E (whileN t s m ρ f) (FinS K g D), fun σ2 H2 z => ⟨m, Nat.lt_succ_self m, z⟩, g, GF, ρ, f1, r1, (XF.of_bind q1).mono fun c f2 k => ?_⟩
        cases c with
        | nx ρ2 => exact fun σ2 I IF r2 => ⟨IF, ρ2, f2, r2, k⟩
        | ct ρ2 => exact fun σ2 I IF r2 => ⟨IF, ρ2, f2, r2, k⟩
        | bk ρ2 => exact k
        | rt v => exact k
  · rw [dif_neg hx] at q
    exact (show False from q).elim
theorem ds_while (hp : PassesOwn (model X.prog X.w) X.A X.env X.xe) (hc : DT X (fun _ => E) c t) (hb : DSs X E body s) : DS X E (.While c body [] pos) (sWhile t s) := ps_mono (ps_while hp hc hb) fun _ _ _ q => while_read q
end
/-! ### what is walked -/
structure New (I IF G GF : Hp) : Prop where
  ext : ∀ a o, I a = some o → G a = some o
  le : Le IF GF
  new : ∀ a, Mo I a → IF a = none → GF a = none
  sub : Le GF G
theorem New.step {g : Gh} {I IF G GF : Hp} (n : New I IF G GF) : Step g I IF G GF := ⟨fun a o _ e => n.ext a o e, n.le, n.new, n.sub⟩
theorem New.feed {g : Gh} {I IF G GF : Hp} {f : Feed} (n : New I IF G GF) (h : FeedAt g I IF f) : FeedAt g G GF f := ⟨n.ext _ _ h.d, n.new _ (mo h.d) h.nf, n.le _ _ h.c⟩
structure Yields (K : PySem.W.Frag) (J : It) (GF : Hp) (ds : List PyData) : Prop where
  go : ∀ i I IF, Le GF IF → Le IF I → i < ds.length → J.go i I
  yld : ∀ (i : Nat) I IF x I2, Le GF IF → Le IF I → i < ds.length → J.yld i I x I2 → ∃ IF2 d, ds[i]? = some d ∧ New I IF I2 IF2 ∧ DR K IF2 x d
  stop : ∀ i I IF, Le GF IF → Le IF I → i = ds.length → J.stop i I
abbrev Ix := Rho → Feed → R (List PyData)
def tDI (K : PySem.W.Frag) (mg : Str → Option Value) (W : Wish) (it : Ix) : TI := fun σ H Z => ∃ g HF ρ f, Rel K g σ H HF ρ f ∧ ROk K mg g H HF (W σ) (it ρ f) fun ds f1 => ∀ J G GF, Step g H HF G GF → FeedAt g G GF f1 → Yields K J GF ds → Z J G
abbrev DI (X : Cx) (W : Wish) (tg e : Expr) (it : Ix) : Prop := PI X tg e (tDI X.K X.mg W it)
theorem pi_mono {X : Cx} {tg e : Expr} {w w2 : TI} (h : PI X tg e w) (i : ∀ σ H Z, w2 σ H Z → w σ H Z) : PI X tg e w2 := ⟨fun pins s σ H Z I q => h.run pins s σ H Z I (i σ H Z q)⟩
def iSq (K : PySem.W.Frag) (tl : TE) : TI := fun σ H Z => tl σ H fun x H1 => ∃ a, x = .ref a ∧ (((∃ xs, SqL K H1 a xs) ∧ Z (Itl K a) H1) ∨ ((∃ xs, SqT K H1 a xs) ∧ Z (Itt K a) H1))
theorem pi_sq {X : Cx} {tg l : Expr} {tl : TE} (hl : PE X l tl) : PI X tg l (iSq X.K tl) := by
  refine ⟨fun pins s σ H Z I h => thn (hl.run pins s σ H _ I h) fun v s1 ⟨x, H1, I1, rx, a, ex, q⟩ => ?_⟩
  subst ex
  cases rx
  have fresh : ∀ b, b ∈ [s1.heap.objs.size] → FpOk X pins H1 b := fun b hb => by
    have e : b = s1.heap.objs.size := by simpa using hb
    rw [e]
    exact I1.fpOk (Nat.le_refl _) (I1.hok.fresh (Nat.le_refl _))
  rcases q with ⟨⟨xs, hq⟩, q⟩ | ⟨⟨xs, hq⟩, q⟩
  · obtain ⟨its, rv, p, hz⟩ := I1.list hq
    exact wpAny_pyIter_list p.isList ⟨_, [s1.heap.objs.size], _, _, H1, rfl, I1.kept (t' := s1.toks) fun b o e => Heap.get?_push_of_some _ e, turn_list a _, ⟨_, Heap.get?_push_size _ rfl, rfl, rfl⟩, fresh, q⟩
  · obtain ⟨its, rv, p, hz⟩ := I1.tuple hq
    exact wpAny_pyIter_tuple (show s1.heap.IsTuple a its.toArray from p) ⟨_, [s1.heap.objs.size], _, _, H1, rfl, I1.kept (t' := s1.toks) fun b o e => Heap.get?_push_of_some _ e, turn_tuple a _, ⟨_, Heap.get?_push_size _ rfl, rfl, rfl⟩, fresh, q⟩
def iSeq (e : Ex) : Ix := fun ρ f => dt (e ρ f) fun d f1 => match seqOf d with
  | some ds => .ok ds f1
  | none => .no
section
variable {K : PySem.W.Frag} {H : Hp} {a : Addr} {vs : List V} {ds : List PyData}
theorem New.refl {I IF : Hp} (l : Le IF I) : New I IF I IF := ⟨fun _ _ h => h, Le.refl _, fun _ _ h => h, l⟩
theorem yields_list (h : H a = some (.lst vs)) (r : DRs K H vs ds) : Yields K (Itl K a) H ds where
  go := fun i I IF l1 l2 hi => by
    have hv : i < vs.length := by
      rw [r.length]
      exact hi
    exact ⟨vs, vs[i], .inl (.inl (l2 _ _ (l1 _ _ h))), List.getElem?_eq_getElem hv⟩
  yld := fun i I IF x I2 l1 l2 hi y => by
    obtain ⟨rfl, fx⟩ := y
    obtain ⟨v, e1, e2⟩ := r.get (List.getElem?_eq_getElem hi)
    have ex := fx vs (.inl (.inl (l2 _ _ (l1 _ _ h))))
    rw [e1] at ex
    cases ex
    exact ⟨IF, ds[i], List.getElem?_eq_getElem hi, New.refl l2, e2.mono l1⟩
  stop := fun i I IF l1 l2 hi => ⟨vs, .inl (.inl (l2 _ _ (l1 _ _ h))), by rw [r.length]; omega⟩
theorem yields_tup (h : SqT K H a vs) (r : DRs K H vs ds) : Yields K (Itt K a) H ds where
  go := fun i I IF l1 l2 hi => by
    have hv : i < vs.length := by
      rw [r.length]
      exact hi
    exact ⟨vs, vs[i], (l1.trans l2).sqT h, List.getElem?_eq_getElem hv⟩
  yld := fun i I IF x I2 l1 l2 hi y => by
    obtain ⟨rfl, fx⟩ := y
    obtain ⟨v, e1, e2⟩ := r.get (List.getElem?_eq_getElem hi)
    have ex := fx vs ((l1.trans l2).sqT h)
    rw [e1] at ex
    cases ex
    exact ⟨IF, ds[i], List.getElem?_eq_getElem hi, New.refl l2, e2.mono l1⟩
  stop := fun i I IF l1 l2 hi => ⟨vs, (l1.trans l2).sqT h, by rw [r.length]; omega⟩
end
section
variable {X : Cx} {W : Wish} {tg e e2 : Expr} {x y : Ex} {pos p : Pos}
theorem di_seq (h : DE X W e x) : DI X W tg e (iSeq x) := pi_mono (pi_sq h) fun σ H Z ⟨g, HF, ρ, f, rel, q⟩ =>
  tD_dt rel q fun d f1 v G GF r1 s1 dr q1 => by
    cases d <;> try exact (show False from q1).elim
    · cases dr with
      | lst h1 h2 => exact ⟨_, rfl, .inl ⟨⟨_, .inl (.inl (r1.sub _ _ h1))⟩, q1 _ G GF s1 r1.feed (yields_list h1 h2)⟩⟩
    · cases dr with
      | tup h1 h2 => exact ⟨_, rfl, .inr ⟨⟨_, r1.sub.sqT h1⟩, q1 _ G GF s1 r1.feed (yields_tup h1 h2)⟩⟩
def rangeD (lo : Int) (n : Nat) : List PyData := (List.range n).map fun i => .int (lo + (i : Nat))
theorem rangeD_get {lo : Int} {n i : Nat} (h : i < n) : (rangeD lo n)[i]? = some (.int (lo + (i : Nat))) := by
  unfold rangeD
  rw [List.getElem?_map, List.getElem?_range h]
  rfl
theorem rangeD_length (lo : Int) (n : Nat) : (rangeD lo n).length = n := by
  unfold rangeD
  rw [List.length_map, List.length_range]
theorem yields_range {K : PySem.W.Frag} {GF : Hp} {lo : Int} {n : Nat} : Yields K (Itr lo n) GF (rangeD lo n) where
  go := fun i I IF l1 l2 hi => by
    rw [rangeD_length] at hi
    exact hi
  yld := fun i I IF x I2 l1 l2 hi y => by
    rw [rangeD_length] at hi
    obtain ⟨e1, e2⟩ := y
    subst e1
    subst e2
    exact ⟨IF, _, rangeD_get hi, New.refl l2, .int _⟩
  stop := fun i I IF l1 l2 hi => by
    rw [rangeD_length] at hi
    exact Nat.le_of_eq hi.symm
def smallI (i : Int) : Bool := decide (-(2 ^ 62) ≤ i) && decide (i < 2 ^ 62)
theorem smallI_of {i : Int} (h : smallI i = true) : -(2 ^ 62) ≤ i ∧ i < 2 ^ 62 := by
  obtain ⟨h1, h2⟩ := Bool.and_eq_true_iff.mp h
  exact ⟨of_decide_eq_true h1, of_decide_eq_true h2⟩
def iRange1 (e : Ex) : Ix := fun ρ f => pk (e ρ f) fun d f1 => match d with
  | .int n => if smallI n = true then .ok (rangeD 0 n.toNat) f1 else .no
  | _ => .no
def iRange2 (a b : Ex) : Ix := fun ρ f => pk (a ρ f) fun d f1 => pk (b ρ f1) fun d2 f2 => match d, d2 with
  | .int i, .int j => if (smallI i && smallI j) = true then .ok (rangeD i (j - i).toNat) f2 else .no
  | _, _ => .no
theorem di_range1 (hg : Gl X "range") (hm : X.mg "range" = none) (h : DE X W e x) (hs : starEach [e] X.env = (false, eval e X.env) :: starEach [] X.env := by rfl) : DI X W tg (.Call (.Name "range" p) [e] [] pos) (iRange1 x) :=
  pi_mono (pi_range1 hg hm (pa_cons h pa_nil hs) hs) fun σ H Z ⟨g, HF, ρ, f, rel, q⟩ => tD_pk rel q fun d f1 v G GF r1 s1 t1 q1 => by
    cases d <;> try exact (show False from q1).elim
    rename_i n
    simp only at q1
    by_cases c : smallI n = true
    · rw [if_pos c] at q1
      have ev := t1.int
      subst ev
      exact ⟨n, rfl, (smallI_of c).1, (smallI_of c).2, (show ∀ J G2 GF2, Step g H HF G2 GF2 → FeedAt g G2 GF2 f1 → Yields X.K J GF2 (rangeD 0 n.toNat) → Z J G2 from q1) _ G GF s1 r1.feed yields_range⟩
    · rw [if_neg c] at q1
      exact (show False from q1).elim
theorem di_range2 (hg : Gl X "range") (hm : X.mg "range" = none) (h : DE X W e x) (h2 : DE X W e2 y) (hs : starEach [e, e2] X.env = (false, eval e X.env) :: starEach [e2] X.env := by rfl)
    (hs2 : starEach [e2] X.env = (false, eval e2 X.env) :: starEach [] X.env := by rfl) (hs3 : starEach [e, e2] X.env = [(false, eval e X.env), (false, eval e2 X.env)] := by rfl) : DI X W tg (.Call (.Name "range" p) [e, e2] [] pos) (iRange2 x y) :=
  pi_mono (pi_range2 hg hm (pa_cons h (pa_cons h2 pa_nil hs2) hs) hs3 hs2) fun σ H Z ⟨g, HF, ρ, f, rel, q⟩ => tD_pk rel q fun d f1 v G GF r1 s1 t1 q1 => tD_pk r1 q1 fun d2 f2 w I IF r2 s2 t2 q2 => by
    cases d <;> cases d2 <;> try exact (show False from q2).elim
    rename_i i j
    simp only at q2
    by_cases c : (smallI i && smallI j) = true
    · rw [if_pos c] at q2
      obtain ⟨c1, c2⟩ := Bool.and_eq_true_iff.mp c
      have e1 := t1.int
      have e2 := t2.int
      subst e1
      subst e2
      exact ⟨i, j, rfl, ⟨(smallI_of c1).1, (smallI_of c1).2, (smallI_of c2).1, (smallI_of c2).2⟩, (show ∀ J G2 GF2, Step g H HF G2 GF2 → FeedAt g G2 GF2 f2 → Yields X.K J GF2 (rangeD i (j - i).toNat) → Z J G2 from q2) _ I IF (s1.trans r1.feed s2) r2.feed yields_range⟩
    · rw [if_neg c] at q2
      exact (show False from q2).elim
end
/-! the frozen part as it is now -/
abbrev Gh.at (g : Gh) (IF : Hp) : Gh := { g with HF0 := IF }
section
variable {K : PySem.W.Frag} {mg : Str → Option Value} {E : XK} {g : Gh} {σ σ2 : St} {H IF G GF : Hp} {ρ ρ2 : Rho} {f f2 : Feed}
theorem Rel.sharp (r : Rel K g σ H IF ρ f) : Rel K (g.at IF) σ H IF ρ f := ⟨r.sub, ⟨r.feed.d, r.feed.nf, r.feed.c⟩, r.ext, Le.refl _, fun _ _ h => h, r.len, fun i s e => by
  have k := r.slot i s e
  cases s <;> exact k, r.sep, r.sepD⟩
theorem Rel.blunt (r : Rel K g σ H IF ρ f) (b : Rel K (g.at IF) σ2 G GF ρ2 f2) : Rel K g σ2 G GF ρ2 f2 := ⟨b.sub, ⟨b.feed.d, b.feed.nf, b.feed.c⟩, b.ext, r.le.trans b.le, fun a x y => b.new a x (r.new a x y), b.len, fun i s e => by
  have k := b.slot i s e
  cases s <;> exact k, b.sep, b.sepD⟩
theorem RetOk.blunt {v : V} {rv : RV} (r : Rel K g σ H IF ρ f) (b : RetOk K (g.at IF) G GF f2 v rv) : RetOk K g G GF f2 v rv := ⟨b.sub, ⟨b.feed.d, b.feed.nf, b.feed.c⟩, b.ext, r.le.trans b.le, fun a x y => b.new a x (r.new a x y), by
  have k := b.val
  cases rv <;> exact k⟩
theorem XF.sharp {α : Type} {x : R α} {P : α → Feed → Prop} (r : Rel K g σ H IF ρ f) (h : XF K mg g E x P) : XF K mg (g.at IF) E x P := by
  cases x with
  | no => exact h
  | ok a f => exact h
  | ex c vs f => exact fun C od G GF q b x => h C od G GF q (b.blunt r) x
end
/-! ### for -/
def forN (T : Tgt) (s : Sm) : List PyData → Rho → Feed → R Ctl
  | [], ρ, f => .ok (.nx ρ) f
  | d :: ds, ρ, f => match T.put d ρ with
    | none => .no
    | some ρ1 => (s ρ1 f).bind fun c f1 => match c with
      | .nx ρ2 => forN T s ds ρ2 f1
      | .ct ρ2 => forN T s ds ρ2 f1
      | .bk ρ2 => .ok (.nx ρ2) f1
      | .rt v => .ok (.rt v) f1
def sFor (it : Ix) (T : Tgt) (s : Sm) : Sm := fun ρ f => (it ρ f).bind fun ds f1 => forN T s ds ρ f1
section
variable {X : Cx} {E : XK} {s : Sm} {it : Ix} {T : Tgt}
theorem drop_at {α : Type} {l : List α} {i : Nat} {x : α} (h : l[i]? = some x) : l.drop i = x :: l.drop (i + 1) := by
  obtain ⟨hi, e⟩ := List.getElem?_eq_some_iff.mp h
  rw [List.drop_eq_getElem_cons hi, e]
theorem for_read {K : PySem.W.Frag} {mg : Str → Option Value} {D : Ends} {σ : St} {H : Hp} (h : tDS K mg E (sFor it T s) D σ H) : tFor (tDI K mg (fun _ => E) it) (T.rd K) (tDS K mg E s) D σ H := by
  obtain ⟨g, HF, ρ, f, rel, q⟩ := h
  refine ⟨g, HF, ρ, f, rel, rel.toE ((XF.of_bind q).mono fun ds f1 k J G GF s1 hf Y => ?_)⟩
  have r1 := rel.step s1 hf
  refine ⟨fun i m σ H => i + m = ds.length ∧ ∃ IF ρ f, Rel K g σ H IF ρ f ∧ Le GF IF ∧ XF K mg g E (forN T s (ds.drop i) ρ f) (FinS K g D), ⟨ds.length, by omega, GF, ρ, f1, r1, Le.refl _, k⟩, fun i m σ H hW => ?_⟩
  obtain ⟨em, IF, ρ, f, r2, l2, q2⟩ := hW
  by_cases hi : i < ds.length
  · refine .inr ⟨Y.go i H IF l2 r2.sub hi, fun σ H => ∃ IF ρ f, Rel K g σ H IF ρ f ∧ Le GF IF ∧ XF K mg g E (forN T s (ds.drop (i + 1)) ρ f) (FinS K g D), fun σ2 H2 z => ⟨m - 1, by omega, by omega, z⟩, fun x I2 y => ?_⟩
    obtain ⟨IF2, d, e1, n, dr⟩ := Y.yld i H IF x I2 l2 r2.sub hi y
    rw [drop_at e1] at q2
    unfold forN at q2
    have r3 := r2.step (n.step (g := g)) (n.feed r2.feed)
    cases z : T.put d ρ with
    | none =>
      simp only [z] at q2
      exact (show False from q2).elim
    | some ρ1 =>
      simp only [z] at q2
      refine T.read r3 dr z fun σ2 r4 => ⟨g.at IF2, IF2, ρ1, f, r4.sharp, ((XF.of_bind q2).sharp r4).mono fun c f2 k => ?_⟩
      cases c with
      | nx ρ2 => exact fun σ3 G2 GF2 r5 => ⟨GF2, ρ2, f2, r4.blunt r5, (l2.trans n.le).trans r5.le, k⟩
      | ct ρ2 => exact fun σ3 G2 GF2 r5 => ⟨GF2, ρ2, f2, r4.blunt r5, (l2.trans n.le).trans r5.le, k⟩
      | bk ρ2 => exact fun σ3 G2 GF2 r5 => (show FinS K g D (.nx ρ2) f2 from k) σ3 G2 GF2 (r4.blunt r5)
      | rt rv => exact fun v G2 GF2 r5 => (show FinS K g D (.rt rv) f2 from k) v G2 GF2 (r5.blunt r4)
  · have e0 : ds.drop i = [] := List.drop_eq_nil_of_le (by omega)
    rw [e0] at q2
    exact .inl ⟨Y.stop i H IF l2 r2.sub (by omega), (show FinS K g D (.nx ρ) f from q2) σ H IF r2⟩
theorem ds_for {tg e : Expr} {body : List Stmt} {pos : Pos} (hp : PassesOwn (model X.prog X.w) X.A X.env X.xe) (hc : X.calm = true) (hi : DI X (fun _ => E) tg e it) (hg : PG X tg (T.rd X.K)) (hb : DSs X E body s)
    (hs : ∀ x, foldedSetIterable e X.env x = pure x := by intro _; rfl) : DS X E (.For tg e body [] pos) (sFor it T s) := ps_mono (ps_for hp hc hi hg hb hs) fun _ _ _ q => for_read q
end
/-! ### comprehensions -/
def wipeR (ρ : Rho) : List Nat → Rho
  | [] => ρ
  | v :: vs => (wipeR ρ vs).set v .emp
def noEx {α : Type} : R α → R α
  | .ex _ _ _ => .no
  | r => r
def Tgt.own : Tgt → List Nat
  | .one i => [i]
  | .many l => l
def lcN (T : Tgt) (t : Tx) (e : Ex) (ρ : Rho) : List PyData → List PyData → Feed → R (List PyData)
  | [], acc, f => .ok acc f
  | d :: ds, acc, f => match T.put d ρ with
    | none => .no
    | some ρ1 => (noEx (t ρ1 f)).bind fun b f1 => if b = true then dt (noEx (e ρ1 f1)) fun y f2 => if acc.length < 100000 then lcN T t e ρ ds (acc ++ [y]) f2 else .no
      else lcN T t e ρ ds acc f1
def cLc (it : Ix) (T : Tgt) (t : Tx) (e : Ex) (vs : List Nat) : Ex := fun ρ f => (it ρ f).bind fun ds f1 => (lcN T t e (wipeR ρ vs) ds [] f1).bind fun ys f2 => .ok (.own ys) f2
def noW : Wish := fun _ _ _ _ => False
section
theorem wipe_get (σ : St) (i : Nat) : ∀ vs : List Nat, (wipe σ vs)[i]? = if i ∈ vs ∧ i < σ.length then some none else σ[i]?
  | [] => by simp [wipe]
  | v :: vs => by
    unfold wipe
    rw [List.getElem?_set, wipe_get σ i vs, wipe_length]
    by_cases e : v = i
    · subst e
      by_cases q : v < σ.length
      · simp [q]
      · have z : σ[v]? = none := List.getElem?_eq_none (by omega)
        simp [q, z]
    · have e2 : ¬ i = v := fun h => e h.symm
      simp [e, e2]
theorem wipe_set {σ : St} {vs : List Nat} {j : Nat} (h : j ∈ vs) (x : Option V) : wipe (σ.set j x) vs = wipe σ vs := by
  apply List.ext_getElem?
  intro i
  rw [wipe_get, wipe_get, List.length_set, List.getElem?_set]
  by_cases e : j = i
  · subst e
    by_cases q : j < σ.length
    · simp [q, h]
    · have z : σ[j]? = none := List.getElem?_eq_none (by omega)
      simp [q, z]
  · simp [e]
theorem wipe_wipe (σ : St) (vs : List Nat) : wipe (wipe σ vs) vs = wipe σ vs := by
  apply List.ext_getElem?
  intro i
  rw [wipe_get, wipe_get, wipe_length]
  by_cases e : i ∈ vs ∧ i < σ.length
  · simp [e]
  · simp [e]
theorem wipeR_get (ρ : Rho) (i : Nat) : ∀ vs : List Nat, (wipeR ρ vs)[i]? = if i ∈ vs ∧ i < ρ.length then some .emp else ρ[i]?
  | [] => by simp [wipeR]
  | v :: vs => by
    have hl : ∀ vs : List Nat, (wipeR ρ vs).length = ρ.length := fun vs => by
      induction vs with
      | nil => rfl
      | cons a b ih => unfold wipeR; rw [List.length_set, ih]
    unfold wipeR
    rw [List.getElem?_set, wipeR_get ρ i vs, hl]
    by_cases e : v = i
    · subst e
      by_cases q : v < ρ.length
      · simp [q]
      · have z : ρ[v]? = none := List.getElem?_eq_none (by omega)
        simp [q, z]
    · have e2 : ¬ i = v := fun h => e h.symm
      simp [e, e2]
theorem wipeR_length (ρ : Rho) : ∀ vs : List Nat, (wipeR ρ vs).length = ρ.length
  | [] => rfl
  | v :: vs => by unfold wipeR; rw [List.length_set, wipeR_length ρ vs]
variable {K : PySem.W.Frag} {mg : Str → Option Value} {E : XK} {g : Gh} {σ : St} {H HF : Hp} {ρ : Rho} {f : Feed}
theorem Rel.wiped (r : Rel K g σ H HF ρ f) (vs : List Nat) : Rel K g (wipe σ vs) H HF (wipeR ρ vs) f where
  sub := r.sub
  feed := r.feed
  ext := r.ext
  le := r.le
  new := r.new
  len := by rw [wipe_length, wipeR_length, r.len]
  slot := fun i s e => by
    rw [wipeR_get] at e
    rw [wipe_get, r.len]
    by_cases q : i ∈ vs ∧ i < ρ.length
    · rw [if_pos q] at e
      cases e
      trivial
    · rw [if_neg q] at e ⊢
      exact r.slot i s e
  sep := fun i j ds es e1 e2 e3 => by
    rw [wipeR_get] at e1 e2
    rw [wipe_get, wipe_get, r.len] at e3
    by_cases q : i ∈ vs ∧ i < ρ.length
    · rw [if_pos q] at e1
      cases e1
    · by_cases q2 : j ∈ vs ∧ j < ρ.length
      · rw [if_pos q2] at e2
        cases e2
      · rw [if_neg q] at e1 e3
        rw [if_neg q2] at e2 e3
        exact r.sep i j ds es e1 e2 e3
  sepD := fun i j ds es e1 e2 e3 => by
    rw [wipeR_get] at e1 e2
    rw [wipe_get, wipe_get, r.len] at e3
    by_cases q : i ∈ vs ∧ i < ρ.length
    · rw [if_pos q] at e1
      cases e1
    · by_cases q2 : j ∈ vs ∧ j < ρ.length
      · rw [if_pos q2] at e2
        cases e2
      · rw [if_neg q] at e1 e3
        rw [if_neg q2] at e2 e3
        exact r.sepD i j ds es e1 e2 e3
/-- an object that no slot holds is written -/
theorem Rel.other {D : Addr} {o : HO} (r : Rel K g σ H HF ρ f) (h0 : g.H0 D = none) (h1 : HF D = none) (h2 : D ≠ g.fa) (h3 : ∀ (i : Nat) (ds : List PyData), ρ[i]? = some (.own ds) → σ[i]? ≠ some (some (.ref D)))
    (h4 : ∀ (i : Nat) (k : Dk), ρ[i]? = some (.dct k) → σ[i]? ≠ some (some (.ref D))) : Rel K g σ (upd H D o) HF ρ f where
  sub := fun a x e => by
    rw [upd_ne (ne_of_none e h1)]
    exact r.sub a x e
  feed := ⟨by rw [upd_ne (Ne.symm h2)]; exact r.feed.d, r.feed.nf, r.feed.c⟩
  ext := fun a x q e => by
    rw [upd_ne (ne_of_none e h0)]
    exact r.ext a x q e
  le := r.le
  new := r.new
  len := r.len
  slot := fun i s e => by
    have k := r.slot i s e
    cases s with
    | emp => trivial
    | dat d => exact k
    | own ds =>
      obtain ⟨p, vs, z1, z2, z3, z4, z5⟩ := k
      have np : p ≠ D := fun w => h3 i ds e (by rw [z1, w])
      exact ⟨p, vs, z1, z2, z3, by rw [upd_ne np]; exact z4, z5⟩
    | feed => exact k
    | scr ns => exact k
    | dct q =>
      obtain ⟨p, z1, z2, z3, z4⟩ := k
      have np : p ≠ D := fun w => h4 i q e (by rw [z1, w])
      exact ⟨p, z1, z2, z3, z4.mono (fun o e => by rw [upd_ne np]; exact e) (Le.refl _)⟩
    | key ks => exact k
  sep := r.sep
  sepD := r.sepD
theorem gAll_wipe {vs : List Nat} : ∀ {l : List Nat} {xs : List V} {σ : St} {H : Hp} {Q : St → Hp → Prop}, (∀ j ∈ l, j ∈ vs) → gAll l xs σ H Q → gAll l xs σ H fun σ2 H2 => wipe σ2 vs = wipe σ vs ∧ Q σ2 H2
  | [], xs, σ, H, Q, _, h => ⟨h.1, rfl, h.2⟩
  | j :: l, xs, σ, H, Q, hl, h => by
    obtain ⟨v, r, e, h2⟩ := h
    have k := gAll_wipe (fun a ha => hl a (List.mem_cons_of_mem _ ha)) h2
    rw [wipe_set (hl j List.mem_cons_self)] at k
    exact ⟨v, r, e, k⟩
theorem Tgt.wipe {T : Tgt} {vs : List Nat} {v : V} {σ : St} {H : Hp} {Q : St → Hp → Prop} (hl : ∀ j ∈ T.own, j ∈ vs) (h : T.rd K v σ H Q) : T.rd K v σ H fun σ2 H2 => L2.wipe σ2 vs = L2.wipe σ vs ∧ Q σ2 H2 := by
  cases T with
  | one i => exact ⟨wipe_set (hl i (by simp [Tgt.own])) _, h⟩
  | many l =>
    obtain ⟨a, xs, e1, e2, e3, e4⟩ := h
    exact ⟨a, xs, e1, e2, e3, gAll_wipe hl e4⟩
theorem noEx_ok {α : Type} {E2 : XK} {I IF : Hp} {r : R α} {P : α → Feed → Prop} (h : ROk K mg g H HF E (noEx r) P) : ROk K mg g I IF E2 r P := by
  cases r with
  | no => exact h
  | ok a f => exact h
  | ex c vs f => exact (show False from h).elim
theorem lc_read {it : Ix} {T : Tgt} {t : Tx} {e : Ex} {vs : List Nat} {W : Wish} {Q : VK} (hl : ∀ j ∈ T.own, j ∈ vs) (h : tD K mg W (cLc it T t e vs) σ H Q) : tLc (tDI K mg W it) (T.rd K) (tDT K mg noW t) (tD K mg noW e) vs σ H Q := by
  obtain ⟨g, HF, ρ, f, rel, q⟩ := h
  refine ⟨g, HF, ρ, f, rel, q.of_bind.mono fun ds f1 k J G GF s1 hf Y => fun D hD => ?_⟩
  have r1 := rel.step s1 hf
  have w1 := r1.wiped vs
  have hD0 : H D = none := s1.dead hf hD
  have hG0 : g.H0 D = none := rel.dead hD0
  have hfa : D ≠ g.fa := fun z => by
    rw [z] at hD
    exact hf.ne hD
  have h3 : ∀ (i : Nat) (ds : List PyData), (wipeR ρ vs)[i]? = some (.own ds) → (L2.wipe σ vs)[i]? ≠ some (some (.ref D)) := fun i es e1 e2 => by
    obtain ⟨p, us, z1, z2, z3, z4, z5⟩ := w1.slot i _ e1
    rw [z1] at e2
    cases e2
    rw [z4] at hD
    cases hD
  have h3D : ∀ (i : Nat) (k : Dk), (wipeR ρ vs)[i]? = some (.dct k) → (L2.wipe σ vs)[i]? ≠ some (some (.ref D)) := fun i es e1 e2 => by
    obtain ⟨p, z1, z2, z3, z4⟩ := w1.slot i _ e1
    rw [z1] at e2
    cases e2
    exact z4.some hD
  have hGD : GF D = none := by
    cases z : GF D with
    | none => rfl
    | some o =>
      rw [s1.sub _ _ z] at hD
      cases hD
  have stU : ∀ {I IF : Hp} {o : HO}, Step g H HF I IF → IF D = none → Step g H HF (upd I D o) IF := fun {I IF o} s z => ⟨fun a x y e => by
      rw [upd_ne (ne_of_none e hD0)]
      exact s.ext a x y e, s.le, s.new, fun a x e => by
      rw [upd_ne (ne_of_none e z)]
      exact s.sub a x e⟩
  refine ⟨fun i m I => i + m = ds.length ∧ ∃ IF f us acc, Rel K g (L2.wipe σ vs) I IF (wipeR ρ vs) f ∧ Le GF IF ∧ Step g H HF I IF ∧ IF D = none ∧ I D = some (.lst us) ∧ DRs K IF us acc ∧
    ROk K mg g H HF (W σ) ((lcN T t e (wipeR ρ vs) (ds.drop i) acc f).bind fun ys f2 => .ok (.own ys) f2) (Fin K g σ H HF Q), ⟨ds.length, by omega, GF, f1, [], [], w1.other hG0 hGD hfa h3 h3D, Le.refl _, stU s1 hGD, hGD, upd_same, .nil, by rw [List.drop_zero]; exact k⟩, fun i m I hW => ?_⟩
  · obtain ⟨em, IF, f, us, acc, r2, l2, s2, d1, d2, d3, q2⟩ := hW
    by_cases hi : i < ds.length
    · refine .inr ⟨Y.go i I IF l2 r2.sub hi, fun I => ∃ IF f us acc, Rel K g (L2.wipe σ vs) I IF (wipeR ρ vs) f ∧ Le GF IF ∧ Step g H HF I IF ∧ IF D = none ∧ I D = some (.lst us) ∧ DRs K IF us acc ∧
        ROk K mg g H HF (W σ) ((lcN T t e (wipeR ρ vs) (ds.drop (i + 1)) acc f).bind fun ys f2 => .ok (.own ys) f2) (Fin K g σ H HF Q), fun H2 z => ⟨m - 1, by omega, by omega, z⟩, fun x I2 y => ?_⟩
      obtain ⟨IF2, d, e1, n, dr⟩ := Y.yld i I IF x I2 l2 r2.sub hi y
      rw [drop_at e1] at q2
      unfold lcN at q2
      have n1 : Step g I IF I2 IF2 := n.step
      have nf := n.feed r2.feed
      have r3 := r2.step n1 nf
      have aD : ∀ {J2 JF2 f3}, Step g I2 IF2 J2 JF2 → FeedAt g J2 JF2 f3 → JF2 D = none ∧ J2 D = some (.lst us) ∧ DRs K JF2 us acc := fun {J2 JF2 f3} st hf3 => by
        have z1 := n.ext D _ d2
        have z2 : IF2 D = none := n.new D (mo d2) d1
        exact ⟨st.new D (mo z1) z2, st.ext D _ hfa z1, (d3.mono n.le).mono st.le⟩
      cases z : T.put d (wipeR ρ vs) with
      | none =>
        simp only [z] at q2
        exact (show False from q2).elim
      | some ρ1 =>
        simp only [z] at q2
        have ww := wipe_wipe σ vs
        refine (fun hh => by have h9 := T.wipe hl hh; rw [ww] at h9; exact h9) (T.read r3 dr z fun σ2 r4 => ?_)
        rw [bind_bind] at q2
        refine ⟨g, IF2, ρ1, f, r4, noEx_ok ((ROk.of_bind q2).mono fun b f2 k2 J2 JF2 s3 hf3 => ?_)⟩
        have s4 := s2.trans r2.feed (n1.trans nf s3)
        obtain ⟨a1, a2, a3⟩ := aD s3 hf3
        cases b with
        | false =>
          simp only [Bool.false_eq_true, if_false] at k2 ⊢
          exact ⟨JF2, f2, us, acc, (r3.step s3 hf3), (l2.trans n.le).trans s3.le, s4, a1, a2, a3, k2⟩
        | true =>
          simp only [if_true] at k2 ⊢
          rw [dt_bind] at k2
          refine ⟨g, JF2, ρ1, f2, r4.step s3 hf3, noEx_ok ((ROk.of_bind k2).mono fun rv f3 k4 v L LF s5 hf5 rr => ?_)⟩
          cases zz : rv.data with
          | none =>
            simp only [zz] at k4
            exact (show False from k4).elim
          | some y =>
            simp only [zz] at k4
            obtain ⟨MF, s6, hf6, dy⟩ := rr.frz hf5 s5 zz
            have s36 := s3.trans hf3 s6
            obtain ⟨b1, b2, b3⟩ := aD s36 hf6
            by_cases c : acc.length < 100000
            · rw [if_pos c] at k4
              have r7 := (r3.step s36 hf6).other (o := .lst (us ++ [v])) hG0 b1 hfa h3 h3D
              refine ⟨us, b2, by rw [b3.length]; exact Nat.lt_of_lt_of_le c (by decide), MF, f3, us ++ [v], acc ++ [y], r7, (l2.trans n.le).trans s36.le, stU (s4.trans hf3 s6) b1, b1, upd_same, b3.snoc dy, k4⟩
            · rw [if_neg c] at k4
              exact (show False from k4).elim
    · have e0 : ds.drop i = [] := List.drop_eq_nil_of_le (by omega)
      rw [e0] at q2
      refine .inl ⟨Y.stop i I IF l2 r2.sub (by omega), ?_⟩
      exact (show Fin K g σ H HF Q (.own acc) f from q2) (.ref D) I IF s2 r2.feed ⟨D, us, rfl, hD0, d1, d2, d3⟩
end
end Dn

end
section
set_option maxHeartbeats 4000000
/-! comprehensions as expressions; defs that know that no repr runs around them -/
namespace Dn
open PySem PySem.Spec L2
def cYes : Tx := fun _ f => .ok true f
section
variable {X : Cx} {W : Wish} {E : XK} {tg iter elt : Expr} {ifs : List Expr} {scope : Scope} {own : List (Str × Nat)} {pos spos : Pos} {it : Ix} {T : Tgt} {t : Tx} {e : Ex}
theorem ts_nil : PTs X [] (tDT X.K X.mg noW cYes) := ⟨fun pins s σ H Q I ⟨g, HF, ρ, f, rel, q⟩ => pts_nil.run pins s σ H Q I ((show ∀ G GF, Step g H HF G GF → FeedAt g G GF f → Q true G from q) H HF (Step.refl rel.sub) rel.feed)⟩
theorem ts_one {c : Expr} (h : DT X noW c t) : PTs X [c] (tDT X.K X.mg noW t) := pts_one h
theorem de_lc (hc : X.calm = true) (hN : X.N.Nodup) (hi : DI X W tg iter it) (ok : BlkOk X.N X.env.scope scope own) (hl : ∀ j ∈ T.own, j ∈ own.map (·.2))
    (hg : ∀ (s : Shared) (H : Hp) (C : Addr) (cl : List (Str × Addr)) (fp : List Addr), PG (X.blk s H scope (compEnvC scope cl C X.env) fp) tg (T.rd X.K))
    (ht : ∀ (s : Shared) (H : Hp) (C : Addr) (cl : List (Str × Addr)) (fp : List Addr), PTs (X.blk s H scope (compEnvC scope cl C X.env) fp) ifs (tDT X.K X.mg noW t))
    (he : ∀ (s : Shared) (H : Hp) (C : Addr) (cl : List (Str × Addr)) (fp : List Addr), DE (X.blk s H scope (compEnvC scope cl C X.env) fp) noW elt e)
    (hs : ∀ x, foldedSetIterable iter X.env x = pure x := by intro _; rfl) : DE X W (.ListComp elt [⟨tg, iter, ifs, 0⟩] scope pos) (cLc it T t e (own.map (·.2))) :=
  pe_mono (pe_lc hc hN hi ok hg ht he hs) fun _ _ _ q => lc_read hl q
theorem ds_setLc {i : Nat} {y : Str} {py : Pos} (hc : X.calm = true) (hN : X.N.Nodup) (hy : X.N[i]? = some y) (hyl : X.env.scope.names.lookup y = some .local)
    (hsw : swapsWith (.ListComp elt [⟨tg, iter, ifs, 0⟩] scope pos) (some (.Name y py)) spos.line X.env = pure true) (hi : DI X (fun _ => E) tg iter it) (ok : BlkOk X.N X.env.scope scope own) (hl : ∀ j ∈ T.own, j ∈ own.map (·.2))
    (hg : ∀ (s : Shared) (H : Hp) (C : Addr) (cl : List (Str × Addr)) (fp : List Addr), PG (X.blk s H scope (compEnvC scope cl C X.env) fp) tg (T.rd X.K))
    (ht : ∀ (s : Shared) (H : Hp) (C : Addr) (cl : List (Str × Addr)) (fp : List Addr), PTs (X.blk s H scope (compEnvC scope cl C X.env) fp) ifs (tDT X.K X.mg noW t))
    (he : ∀ (s : Shared) (H : Hp) (C : Addr) (cl : List (Str × Addr)) (fp : List Addr), DE (X.blk s H scope (compEnvC scope cl C X.env) fp) noW elt e)
    (hs : ∀ x, foldedSetIterable iter X.env x = pure x := by intro _; rfl) : DS X E (.Assign [.Name y py] (.ListComp elt [⟨tg, iter, ifs, 0⟩] scope pos) spos) (sSet i (cLc it T t e (own.map (·.2)))) :=
  ps_mono (ps_setLc hc hN hy hyl hsw hi ok hg ht he hs) fun _ _ _ q => lc_read hl (set_read q)
end
/-! ### defs -/
structure FnG (P : Program) (w : World) (K : PySem.W.Frag) (mg : Str → Option Value) (base : Heap) (CX : CXT) (k : Nat) (f : Addr) (fd : FuncData) (ps : List Str) (sp : Sp) : Prop where
  size : ∀ vs H Q E, sp vs H Q E → vs.length = ps.length
  go : ∀ (A : Around) (outer : List Env) (s : Shared) (H : Hp) (args : Args) (us : List Value) (vs : List V) (Q : VK) (E : XK), A.guards = some [] → Room k A →
    Env0 P w K mg base A outer s H → BindsTo s fd args (ps.zip us) → Vals vs us → sp vs H Q E → codeAny (model P w) A (.call (.ref f) args) (CR CX outer P w H s Q E) s
theorem FnG.mono {P : Program} {w : World} {K : PySem.W.Frag} {mg : Str → Option Value} {base : Heap} {CX : CXT} {j k : Nat} {f : Addr} {fd : FuncData} {ps : List Str} {sp : Sp} (F : FnG P w K mg base CX j f fd ps sp) (h : j ≤ k) : FnG P w K mg base CX k f fd ps sp :=
  ⟨F.size, fun A o s H a us vs Q E g r => F.go A o s H a us vs Q E g (r.mono h)⟩
section
variable {P : Program} {w : World} {K : PySem.W.Frag} {mg : Str → Option Value} {base : Heap}
/-- a def's body keeps its promise; nothing that is raised leaves it -/
theorem fnG_ok {x qual : Str} {st : Stmt} {f : Addr} {fd : FuncData} {N ps : List Str} {k : Nat} {sp : Sp} (F : Fun K x qual st f fd) (S : FnScope N ps (defScope st)) (size : ∀ vs H Q E, sp vs H Q E → vs.length = ps.length)
    (body : ∀ (cdv : Value) (A : Around) (outer : List Env) (s : Shared) (H : Hp) (vs : List V) (Q : VK) (E : XK), A.guards = some [] → Room k (A.deeper (PyProof.Rows.envOfC qual (defScope st) s.heap.objs.size f cdv)) → sp vs H Q E →
      ∃ t, PSs (cxOf CX0 P w K mg base N qual (defScope st) f cdv A outer s H E).nox (defBody st) t ∧ t { nx := fun _ G => Q .non G, rt := Q } (L2.start N vs) H) : FnG P w K mg base CX0 (k + 1) f fd ps sp := by
  obtain ⟨oc, od, kV, doc, pm, an, cdv, ct, osl, rfl, lk, hcd⟩ := F.ex
  refine ⟨size, fun A outer s H args us vs Q E gd room e0 bnd rel hsp => ?_⟩
  have KX : K.In s.heap := e0.mod.kin.keeps (fun b o e => (e0.bs b o e).1)
  have par : ∀ y ∈ ps.zip us, (defScope st).names.lookup y.1 = some .local ∨
      ((defScope st).names.lookup y.1 = some .cell ∧ ((cellsFrom (s.heap.objs.size + 1) (defScope st).names []).lookup y.1).isSome = true) := by
    intro y hy
    rcases S.par y.1 (List.of_mem_zip hy).1 with q | q
    · exact .inl q
    · exact .inr ⟨q, PySem.W.cellsFrom_some _ _ _ (.inl q)⟩
  refine codeAny_call_function room.depth (KX _ _ lk) rfl S.co S.gen rfl
    (PySem.W.codeRec_of KX hcd) (bnd _ _ _ _ ?_)
  refine wpAny_newFunctionEnv_cells S.kind par ?_
  intro env he s1 x
  subst he
  have lim : s.heap.NoLimit := e0.mod.nolimit.keeps (fun b o e => (e0.bs b o e).1)
  refine ⟨lim.keeps x.toInCall.keep, codeAny_func ?_⟩
  obtain ⟨t, ht, hq⟩ := body cdv A outer s H vs Q E gd (room.deeper _) hsp
  have J0 := inv_start (CX := CX0) (E := E) S room.hd e0 (size _ _ _ _ hsp) rel x
  refine wpAny_mono (ht.nox.run [] s1 (L2.start N vs) H _ J0 hq) ?_ (fun e s' hs => hs)
  intro fl s' hs
  cases fl with
  | next =>
    obtain ⟨σ2, H2, J, q⟩ := hs
    exact ⟨.non, H2, J.os, J.bare, J.base, J.hok, rfl, q⟩
  | ret u =>
    obtain ⟨v, σ2, H2, J, rv, q⟩ := hs
    exact ⟨v, H2, J.os, J.bare, J.base, J.hok, rv, q⟩
  | brk =>
    obtain ⟨_, _, _, q⟩ := hs
    exact q.elim
  | cont =>
    obtain ⟨_, _, _, q⟩ := hs
    exact q.elim
end
section
variable {X : Cx} {CX : CXT} {k : Nat} {f : Addr} {fd : FuncData} {ps : List Str} {sp : Sp} {E : XK} {x : Str} {p pos : Pos} {e : Expr} {es : List Expr} {t : TA}
theorem goG {pins : List (Addr × Obj)} {σ : St} {H : Hp} {s : Shared} {Q : VK} {us : List Value} {vs : List V} (F : FnG X.prog X.w X.K X.mg X.base CX k f fd ps sp) (gd : X.A.guards = some []) (hr : Room k X.A) (hb : Binds X.K fd ps []) (hx : Passes CX X E)
    (I : Inv X pins σ H s) (r : Vals vs us) (h : sp vs H Q E) : wpAny (model X.prog X.w) X.A (call (.ref f) us) (EP X pins σ Q) X.xe s := by
  have hl : (us ++ []).length = ps.length := by
    rw [List.append_nil, ← r.length]
    exact F.size _ _ _ _ h
  have hb2 := hb s us I.kIn hl
  rw [List.append_nil] at hb2
  refine wpAny_call (codeAny_mono (F.go X.A X.stack s H ⟨us, []⟩ us vs Q E gd hr I.env0 hb2 r h) ?_)
  intro res s' hq
  cases res with
  | error e => exact hx pins σ H s e s' I hq
  | ok fl =>
    cases fl with
    | ret u => exact I.after hq
    | next => exact hq.elim
    | brk => exact hq.elim
    | cont => exact hq.elim
theorem callG (F : FnG X.prog X.w X.K X.mg X.base CX k f fd ps sp) (gd : X.A.guards = some []) (hr : Room k X.A) (hg : Gl X x) (hm : X.mg x = some (.ref f)) (hk : PySem.W.keepIn X.K (.ref f) = true) (hb : Binds X.K fd ps []) (hx : Passes CX X E)
    (ha : PA X (e :: es) t) (hdb : (x == ("__debug__" : Str)) = false := by decide) (he : starEach (e :: es) X.env = (false, eval e X.env) :: starEach es X.env := by rfl) (hpl : (backTo pos (starEach es X.env)).any (·.1) = false := by rfl) :
    PE X (.Call (.Name x p) (e :: es) [] pos) (fun σ H Q => t σ H fun vs G => sp vs G Q E) := by
  refine ⟨fun pins s σ H Q I h => wpAny_Call_Name_kw (ld_glob I hg hm ?_ hdb)⟩
  refine PySem.W.callWith_K (h₀ := X.base) I.ok.mod.kin hk (thn (ha.run pos pins s σ H _ I h) ?_) he hpl
  rintro us s1 ⟨vs, H1, I1, r, q⟩
  exact ⟨I1.kIn, goG F gd hr hb hx I1 r q⟩
end
/-! ### a def over data -/
abbrev Fn := List RV → Feed → R RV
def fnSlot : RV → Slot
  | .dat d => .dat d
  | .feed => .feed
  | _ => .emp
def isArg : RV → Bool
  | .dat _ => true
  | .feed => true
  | _ => false
/-- what the def's body does, from the arguments -/
def dEnd : R Ctl → R RV := fun r => noEx (r.bind fun c f1 => match c with
  | .nx _ => .ok (.dat .none) f1
  | .rt v => .ok v.up f1
  | _ => .no)
def dBody (n : Nat) (s : Sm) : Fn := fun as f => dEnd (s (as.map fnSlot ++ List.replicate (n - as.length) .emp) f)
theorem dBody_noex (n : Nat) (s : Sm) : ∀ as f c v f2, dBody n s as f ≠ .ex c v f2 := fun as f c v f2 h => by
  unfold dBody dEnd noEx at h
  split at h
  · cases h
  · rename_i h2
    exact h2 c v f2 h
def ARel (K : PySem.W.Frag) (g : Gh) (HF : Hp) (v : V) : RV → Prop
  | .dat d => DR K HF v d
  | .feed => v = .ref g.fa
  | _ => False
theorem ARel.mono {K : PySem.W.Frag} {g : Gh} {HF GF : Hp} (l : Le HF GF) {v : V} {a : RV} (h : ARel K g HF v a) : ARel K g GF v a := by
  cases a with
  | dat d => exact DR.mono l h
  | feed => exact h
  | own ds => exact h
  | lent i ds => exact h
theorem ARels.mono {K : PySem.W.Frag} {g : Gh} {HF GF : Hp} (l : Le HF GF) : ∀ {vs : List V} {as : List RV}, Paired (ARel K g HF) vs as → Paired (ARel K g GF) vs as
  | _, _, .nil => .nil
  | _, _, .cons h r => .cons (h.mono l) (ARels.mono l r)
structure Given (K : PySem.W.Frag) (g : Gh) (H HF : Hp) (vs : List V) (as : List RV) (f : Feed) : Prop where
  sub : Le HF H
  feed : FeedAt g H HF f
  rel : Paired (ARel K g HF) vs as
def Back (K : PySem.W.Frag) (g : Gh) (H HF : Hp) (Q : VK) (rv : RV) (f : Feed) : Prop := ∀ v G GF, Step g H HF G GF → FeedAt g G GF f → RR K g [] H G GF v rv → Q v G
/-- the promise: m the number of parameters -/
def spD (K : PySem.W.Frag) (mg : Str → Option Value) (m : Nat) (F : Fn) : Sp := fun vs H Q E => vs.length = m ∧ ∃ g HF as f, Given K g H HF vs as f ∧ ROk K mg g H HF E (F as f) (Back K g H HF Q)
theorem rep_get {α : Type} {n i : Nat} {x y : α} (h : (List.replicate n x)[i]? = some y) : y = x := by
  rw [List.getElem?_replicate] at h
  by_cases c : i < n
  · rw [if_pos c] at h
    exact (Option.some.inj h).symm
  · rw [if_neg c] at h
    cases h
theorem start_rel {K : PySem.W.Frag} {g : Gh} {H HF : Hp} {vs : List V} {as : List RV} {f : Feed} (N : List Str) (h : Given K g H HF vs as f) : Rel K { g with H0 := H, HF0 := HF } (L2.start N vs) H HF (as.map fnSlot ++ List.replicate (N.length - as.length) .emp) f := by
  have hl : vs.length = as.length := h.rel.length
  have no : ∀ (i : Nat) (ds : List PyData), (as.map fnSlot ++ List.replicate (N.length - as.length) .emp)[i]? ≠ some (.own ds) := fun i ds e => by
    rw [List.getElem?_append] at e
    by_cases c : i < (as.map fnSlot).length
    · rw [if_pos c, List.getElem?_map] at e
      cases z : as[i]? with
      | none => rw [z] at e; cases e
      | some a =>
        rw [z] at e
        cases a <;> cases e
    · rw [if_neg c] at e
      cases rep_get e
  have noD : ∀ (i : Nat) (ds : Dk), (as.map fnSlot ++ List.replicate (N.length - as.length) .emp)[i]? ≠ some (.dct ds) := fun i ds e => by
    rw [List.getElem?_append] at e
    by_cases c : i < (as.map fnSlot).length
    · rw [if_pos c, List.getElem?_map] at e
      cases z : as[i]? with
      | none => rw [z] at e; cases e
      | some a =>
        rw [z] at e
        cases a <;> cases e
    · rw [if_neg c] at e
      cases rep_get e
  refine ⟨h.sub, ⟨h.feed.d, h.feed.nf, h.feed.c⟩, fun _ _ _ e => e, Le.refl _, fun _ _ e => e, ?_, fun i s e => ?_, fun i j ds es e1 => absurd e1 (no i ds), fun i j ds es e1 => absurd e1 (noD i ds)⟩
  · unfold L2.start
    simp [hl]
  · rw [List.getElem?_append] at e
    unfold L2.start
    rw [List.getElem?_append]
    by_cases c : i < (as.map fnSlot).length
    · have c2 : i < (vs.map some).length := by
        rw [List.length_map] at c ⊢
        omega
      rw [if_pos c] at e
      rw [if_pos c2]
      rw [List.getElem?_map] at e ⊢
      cases z : as[i]? with
      | none => rw [z] at e; cases e
      | some a =>
        rw [z] at e
        have hv : i < vs.length := by
          rw [List.length_map] at c2
          exact c2
        have zv : vs[i]? = some vs[i] := List.getElem?_eq_getElem hv
        obtain ⟨b, zb, hb⟩ := paired_get h.rel zv
        rw [z] at zb
        cases zb
        rw [zv]
        cases a with
        | dat d =>
          cases e
          exact ⟨_, rfl, hb⟩
        | feed =>
          cases e
          exact congrArg (fun q => some (some q)) hb
        | own ds => exact hb.elim
        | lent i ds => exact hb.elim
    · rw [if_neg c] at e
      rw [rep_get e]
      trivial
section
variable {P : Program} {w : World} {K : PySem.W.Frag} {mg : Str → Option Value} {base : Heap}
theorem fnD {x qual : Str} {st : Stmt} {f : Addr} {fd : FuncData} {N ps : List Str} {k : Nat} {s : Sm} (F : Fun K x qual st f fd) (S : FnScope N ps (defScope st))
    (body : ∀ (X : Cx), X.prog = P → X.w = w → X.K = K → X.mg = mg → X.base = base → X.N = N → (∃ (cdv : Value) (A : Around) (outer : List Env) (s : Shared) (H : Hp) (E : XK), A.guards = some [] ∧ Room k (A.deeper (PyProof.Rows.envOfC qual (defScope st) s.heap.objs.size f cdv)) ∧
      X = (cxOf CX0 P w K mg base N qual (defScope st) f cdv A outer s H E).nox) → DSs X (fun _ _ _ => False) (defBody st) s) : FnG P w K mg base CX0 (k + 1) f fd ps (spD K mg ps.length (dBody N.length s)) := by
  refine fnG_ok F S (fun vs H Q E h => h.1) fun cdv A outer s0 H vs Q E gd room h => ?_
  obtain ⟨hl, g, HF, as, fe, hG, hR⟩ := h
  refine ⟨_, body _ rfl rfl rfl rfl rfl rfl ⟨cdv, A, outer, s0, H, E, gd, room, rfl⟩, { g with H0 := H, HF0 := HF }, HF, _, fe, start_rel N hG, ?_⟩
  unfold dBody dEnd at hR
  cases z : s (as.map fnSlot ++ List.replicate (N.length - as.length) .emp) fe with
  | no =>
    rw [z] at hR
    exact (show False from hR).elim
  | ex c v f =>
    rw [z] at hR
    exact (show False from hR).elim
  | ok c f1 =>
    rw [z] at hR
    cases c with
    | nx ρ => exact fun σ G GF r => (show Back K g H HF Q (.dat .none) f1 from hR) .non G GF ⟨r.ext, r.le, r.new, r.sub⟩ ⟨r.feed.d, r.feed.nf, r.feed.c⟩ .non
    | rt rv => exact fun v G GF r => (show Back K g H HF Q rv.up f1 from hR) v G GF ⟨r.ext, r.le, r.new, r.sub⟩ ⟨r.feed.d, r.feed.nf, r.feed.c⟩ (by
        have q := r.val
        cases hq : rv.up with
        | dat d =>
          rw [hq] at q
          exact q
        | own ds =>
          rw [hq] at q
          exact q
        | lent i ds => cases rv <;> cases hq
        | feed =>
          rw [hq] at q
          exact q)
    | bk ρ => exact (show False from hR).elim
    | ct ρ => exact (show False from hR).elim
end
/-! ### calls -/
def toArg : RV → Option RV
  | .dat d => some (.dat d)
  | .own ds => some (.dat (.list ds))
  | .feed => some .feed
  | .lent _ _ => none
def cVals : List Ex → Rho → Feed → R (List RV)
  | [], _, f => .ok [] f
  | x :: xs, ρ, f => (x ρ f).bind fun rv f1 => match toArg rv with
    | some a => (cVals xs ρ f1).bind fun as f2 => .ok (a :: as) f2
    | none => .no
def cCall (F : Fn) (xs : List Ex) : Ex := fun ρ f => (cVals xs ρ f).bind fun as f1 => F as f1
section
variable {K : PySem.W.Frag} {mg : Str → Option Value} {W : Wish}
theorem vals_read {β : Type} {P : β → Feed → Prop} : ∀ (xs : List Ex) {k : List RV → Feed → R β} {g : Gh} {σ : St} {H HF : Hp} {ρ : Rho} {f : Feed} {Q : List V → Hp → Prop}, Rel K g σ H HF ρ f →
    ROk K mg g H HF (W σ) ((cVals xs ρ f).bind k) P → (∀ as f1 vs G GF, vs.length = xs.length → Rel K g σ G GF ρ f1 → Step g H HF G GF → Paired (ARel K g GF) vs as → ROk K mg g G GF (W σ) (k as f1) P → Q vs G) → argT K mg W xs σ H Q
  | [], k, g, σ, H, HF, ρ, f, Q, r, h, c => c [] f [] H HF rfl r (Step.refl r.sub) .nil h
  | x :: xs, k, g, σ, H, HF, ρ, f, Q, r, h, c => by
    have h2 : ROk K mg g H HF (W σ) ((x ρ f).bind fun rv f1 => match toArg rv with
        | some a => (cVals xs ρ f1).bind fun as f2 => k (a :: as) f2
        | none => .no) P := by
      have e : ((cVals (x :: xs) ρ f).bind k) = ((x ρ f).bind fun rv f1 => match toArg rv with
          | some a => (cVals xs ρ f1).bind fun as f2 => k (a :: as) f2
          | none => .no) := by
        show ((x ρ f).bind _).bind k = _
        rw [bind_bind]
        congr 1
        funext rv f1
        cases toArg rv with
        | none => rfl
        | some a => exact bind_bind _ _ _
      rw [← e]
      exact h
    have go : ∀ {a : RV} {f1 : Feed} {v : V} {G GF : Hp}, Rel K g σ G GF ρ f1 → Step g H HF G GF → ARel K g GF v a → ROk K mg g G GF (W σ) ((cVals xs ρ f1).bind fun as f2 => k (a :: as) f2) P → argT K mg W xs σ G fun vs H1 => Q (v :: vs) H1 :=
      fun {a f1 v G GF} r1 s1 ha q1 => vals_read xs r1 q1 fun as f2 vs I IF hl r2 s2 drs q3 => c (a :: as) f2 (v :: vs) I IF (congrArg (· + 1) hl) r2 (s1.trans r1.feed s2) (.cons (ha.mono s2.le) drs) q3
    refine ⟨g, HF, ρ, f, r, h2.of_bind.mono fun rv f1 q v G GF s hf rr => ?_⟩
    cases rv with
    | dat d => exact go (a := .dat d) (r.step s hf) s rr (ROk.later q hf s)
    | feed => exact go (a := .feed) (r.step s hf) s rr (ROk.later q hf s)
    | own ds =>
      obtain ⟨IF, s2, h3, dr⟩ := rr.frz hf s (d := .list ds) rfl
      exact go (a := .dat (.list ds)) (r.step s2 h3) s2 dr (ROk.later q h3 s2)
    | lent i ds => exact (show False from q).elim
end
section
variable {X : Cx} {W : Wish} {k : Nat} {f : Addr} {fd : FuncData} {ps : List Str} {F : Fn} {x : Str} {p pos : Pos} {e : Expr} {es : List Expr} {xs : List Ex}
theorem de_call (G : FnG X.prog X.w X.K X.mg X.base CX0 k f fd ps (spD X.K X.mg ps.length F)) (gd : X.A.guards = some []) (hr : Room k X.A) (hg : Gl X x) (hm : X.mg x = some (.ref f)) (hk : PySem.W.keepIn X.K (.ref f) = true) (hb : Binds X.K fd ps [])
    (ha : DA X W (e :: es) xs) (hno : ∀ as f c v f2, F as f ≠ .ex c v f2) (hn : xs.length = ps.length := by rfl) (hdb : (x == ("__debug__" : Str)) = false := by decide) (he : starEach (e :: es) X.env = (false, eval e X.env) :: starEach es X.env := by rfl) (hpl : (backTo pos (starEach es X.env)).any (·.1) = false := by rfl) :
    DE X W (.Call (.Name x p) (e :: es) [] pos) (cCall F xs) := pe_mono (callG (E := fun _ _ _ => False) G gd hr hg hm hk hb pass0 ha hdb he hpl) fun σ H Q ⟨g, HF, ρ, fe, rel, q⟩ =>
  vals_read xs rel q fun as f1 vs I IF hl r1 s1 drs q1 => ⟨hl.trans hn, g, IF, as, f1, ⟨r1.sub, r1.feed, drs⟩, by
    cases z : F as f1 with
    | no =>
      rw [z] at q1
      exact q1
    | ex c v f =>
      rw [z] at q1
      exact (show False from hno as f1 c v f z).elim
    | ok rv f2 =>
      rw [z] at q1
      exact fun v J JF s2 h2 rr => (show Fin X.K g σ H HF Q rv f2 from q1) v J JF (s1.trans r1.feed s2) h2 (rr.any.back r1.feed s1)⟩
end
end Dn

end
section
set_option maxHeartbeats 4000000
/-! zip of two sequences of any two kinds (true: a list, false: a tuple) -/
namespace Dn
open PySem PySem.Spec L2
def SqB (K : PySem.W.Frag) : Bool → Hp → Addr → List V → Prop
  | true => SqL K
  | false => SqT K
def HsB : Bool → Heap → Addr → Array Value → Prop
  | true => fun h a its => h.IsList a its
  | false => fun h a its => h.IsTuple a its
def ItB : Bool → Heap → Addr → Addr → Nat → Prop
  | true => fun h i a n => h.IsListIter i a n
  | false => fun h i a n => h.IsTupleIter i a n
theorem ItB.at {b : Bool} {h h' : Heap} {it a : Addr} {n : Nat} (x : ItB b h it a n) (k : ∀ o, h.get? it = some o → h'.get? it = some o) : ItB b h' it a n := by
  cases b with
  | true => exact Heap.IsListIter.at x k
  | false => exact Heap.IsTupleIter.at x k
theorem ItB.obj {b : Bool} {h : Heap} {it a : Addr} {n : Nat} (x : ItB b h it a n) : ∃ o v w, h.get? it = some o ∧ o.data = .fields #[v, w] := by
  cases b with
  | true => obtain ⟨o, e, _, d⟩ := (x : h.IsListIter it a n); exact ⟨o, _, _, e, d⟩
  | false => obtain ⟨o, e, _, d⟩ := (x : h.IsTupleIter it a n); exact ⟨o, _, _, e, d⟩
theorem drawsB {prog : Program} {w : World} {A : Around} (b : Bool) (hh : A.handled = none) (it l : Addr) (hne : l ≠ it) (items : Array Value) :
    Draws prog w A it [it, l] items.size (fun i v => items[i]? = some v) (fun i h => ItB b h it l i ∧ HsB b h l items) := by
  cases b with
  | true => exact Draws.list hh it l hne items
  | false => exact Draws.tuple hh it l hne items
theorem seqB {X : Cx} {pins : List (Addr × Obj)} {σ : L2.St} {H : Hp} {s : Shared} (I : Inv X pins σ H s) {b : Bool} {a : Addr} {xs : List V} (h : SqB X.K b H a xs) :
    ∃ its, Vals xs its ∧ HsB b s.heap a its.toArray := by
  cases b with
  | true =>
    obtain ⟨its, rv, p, _⟩ := I.list h
    exact ⟨its, rv, p.isList⟩
  | false =>
    obtain ⟨its, rv, p, _⟩ := I.tuple h
    exact ⟨its, rv, p⟩
theorem seqB_inj {X : Cx} {pins : List (Addr × Obj)} {σ : L2.St} {H : Hp} {s : Shared} (I : Inv X pins σ H s) {b : Bool} {a : Addr} {xs ys : List V} (h : SqB X.K b H a xs) (h2 : SqB X.K b H a ys) : xs = ys := by
  cases b with
  | true => exact I.list_inj h h2
  | false => exact I.tuple_inj h h2
theorem HsB.lt {b : Bool} {h : Heap} {a : Addr} {its : Array Value} (x : HsB b h a its) : a < h.objs.size := by
  cases b with
  | true => obtain ⟨o, e, _⟩ := (x : h.IsList a its); exact Heap.lt_size e
  | false => obtain ⟨o, e, _⟩ := (x : h.IsTuple a its); exact Heap.lt_size e
def ItzB (K : PySem.W.Frag) (p q : Bool) (a b : Addr) : It :=
  ⟨fun i H => ∃ (xs ys : List V) (x y : V), SqB K p H a xs ∧ SqB K q H b ys ∧ xs[i]? = some x ∧ ys[i]? = some y,
    fun i H v H' => ∃ T x y, v = .ref T ∧ H T = none ∧ H' = upd H T (.tup [x, y]) ∧ (∀ xs, SqB K p H a xs → xs[i]? = some x) ∧ ∀ ys, SqB K q H b ys → ys[i]? = some y,
    fun i H => ∃ xs ys : List V, SqB K p H a xs ∧ SqB K q H b ys ∧ (xs.length = i ∧ i ≤ ys.length ∨ ys.length = i ∧ i ≤ xs.length)⟩
theorem turn_zipB {P : Program} {w : World} {K : PySem.W.Frag} {elts : List Expr} {kk : Nat} {tpos : Pos} {p q : Bool} {a b z TI TO i1 i2 : Addr} (S : ZipSep2 z TI TO i1 i2 [i1, a] [i2, b]) (n1 : a ≠ i1) (n2 : b ≠ i2) :
    Turn P w K (.Tuple elts kk tpos) (ItzB K p q a b) [z, TI, TO, i1, i2] z (fun i h => IsZip h z TI TO .none ∧ IsTupOf2 h TI (.ref i1) (.ref i2) ∧ (∃ x y, IsTupOf2 h TO x y) ∧ ItB p h i1 a i ∧ ItB q h i2 b i) where
  mem := by simp
  obj := fun i h st c hc => by
    obtain ⟨hz, hTI, ⟨x, y, hTO⟩, h1, h2⟩ := st
    obtain ⟨o1, v1, w1, e1, d1⟩ := h1.obj
    obtain ⟨o2, v2, w2, e2, d2⟩ := h2.obj
    have e' : c = z ∨ c = TI ∨ c = TO ∨ c = i1 ∨ c = i2 := by simpa using hc
    rcases e' with q | q | q | q | q
    · rw [q]; exact ⟨_, hz, fun v q => nomatch q⟩
    · rw [q]; exact ⟨_, hTI, fun v q => nomatch q⟩
    · rw [q]; exact ⟨_, hTO, fun v q => nomatch q⟩
    · rw [q]; exact ⟨o1, e1, fun v q => by rw [d1] at q; cases q⟩
    · rw [q]; exact ⟨o2, e2, fun v q => by rw [d2] at q; cases q⟩
  keep := fun i h h' st k => by
    obtain ⟨hz, hTI, ⟨x, y, hTO⟩, h1, h2⟩ := st
    exact ⟨k z (by simp) _ hz, k TI (by simp) _ hTI, ⟨x, y, k TO (by simp) _ hTO⟩, h1.at fun o q => k i1 (by simp) o q, h2.at fun o q => k i2 (by simp) o q⟩
  item := by
    intro X hP hw hK hc i pins s σ H E I hf st hg
    subst hP hw hK
    obtain ⟨hz, hTI, ⟨x0, y0, hTO⟩, h1, h2⟩ := st
    obtain ⟨xs, ys, x, y, hqx, hqy, hx, hy⟩ := hg
    obtain ⟨its, rv, p1⟩ := seqB I hqx
    obtain ⟨its2, rv2, p2⟩ := seqB I hqy
    obtain ⟨u, hu, ru⟩ := rv.get hx
    obtain ⟨u2, hu2, ru2⟩ := rv2.get hy
    have hzl : z < s.heap.objs.size := Heap.lt_size hz
    have t1 : i < its.toArray.size := by
      rw [List.size_toArray]
      exact (List.getElem?_eq_some_iff.mp hu).1
    have t2 : i < its2.toArray.size := by
      rw [List.size_toArray]
      exact (List.getElem?_eq_some_iff.mp hu2).1
    refine wpAny_pyNext_zipD2_item S (drawsB (A := X.A.in1) p (I.ok.hd hc) i1 a n1 its.toArray) (drawsB (A := X.A.in1) q (I.ok.hd hc) i2 b n2 its2.toArray) hz hTI hTO ⟨h1, p1⟩ ⟨h2, p2⟩ t1 t2 fun x1 x2 h' tk y1 y2 z' TO' h1' h2' hT hsz hk => ?_
    have e1 : x1 = u := by
      have h3 : its.toArray[i]? = some u := by simpa using hu
      rw [h3] at y1
      exact (Option.some.inj y1).symm
    have e2 : x2 = u2 := by
      have h3 : its2.toArray[i]? = some u2 := by simpa using hu2
      rw [h3] at y2
      exact (Option.some.inj y2).symm
    subst e1 e2
    refine ⟨_, rfl, wpAny_letOwnedTupleGo_zip (s := { s with heap := h', toks := tk }) z' fun h'' z'' sb => ?_⟩
    have hT2 : h''.get? s.heap.objs.size = some { cls := .type "tuple", data := .seq #[x1, x2] } := (sb.2 _ (Nat.ne_of_gt hzl)).trans hT
    have new : ObjOk X.prog X.w (upd H s.heap.objs.size (.tup [x, y])) h'' s.heap.objs.size (.tup [x, y]) :=
      ⟨by show 2 ≤ sizeLine; decide, [x1, x2], .cons ru (.cons ru2 .nil), ⟨_, hT2, rfl, _, rfl⟩⟩
    have I1 : Inv X pins σ (upd H s.heap.objs.size (.tup [x, y])) { s with heap := h'', toks := tk } :=
      I.turnedNew (t' := tk) (ch := [z, TI, TO, i1, i2]) (fun c o hb q => (sb.2 c (fun q' => hb (by simp [q']))).trans (hk c o (fun q' => hb (by simp [q'])) (fun q' => hb (by simp [q'])) (fun q' => hb (by simp [q'])) (fun q' => hb (by simp [q'])) q)) hf (Nat.le_refl _) new
    refine ⟨.ref s.heap.objs.size, _, I1, rfl, ⟨_, x, y, rfl, I.hok.fresh (Nat.le_refl _), rfl, fun l hl => by rw [seqB_inj I hl hqx]; exact hx, fun l hl => by rw [seqB_inj I hl hqy]; exact hy⟩, ⟨z'', ?_, ⟨x1, x2, ?_⟩, ?_, ?_⟩, fun c hcm => ?_⟩
    · exact (sb.2 _ S.TIz).trans (hk _ _ S.TIz S.TITO S.TIi1 S.TIi2 hTI)
    · exact (sb.2 _ S.TOz).trans TO'
    · exact h1'.1.at fun o q => (sb.2 _ (Ne.symm S.zi1)).trans q
    · exact h2'.1.at fun o q => (sb.2 _ (Ne.symm S.zi2)).trans q
    · have hlt : c < s.heap.objs.size := by
        have e' : c = z ∨ c = TI ∨ c = TO ∨ c = i1 ∨ c = i2 := by simpa using hcm
        rcases e' with q | q | q | q | q
        · rw [q]; exact hzl
        · rw [q]; exact Heap.lt_size hTI
        · rw [q]; exact Heap.lt_size hTO
        · rw [q]; obtain ⟨_, _, _, e1, _⟩ := h1.obj; exact Heap.lt_size e1
        · rw [q]; obtain ⟨_, _, _, e2, _⟩ := h2.obj; exact Heap.lt_size e2
      rw [upd_ne (Nat.ne_of_lt hlt)]
      exact (hf c hcm).1
  done := by
    intro X hP hw hK hc i pins s σ H E I hf st hg
    subst hP hw hK
    obtain ⟨hz, hTI, ⟨x0, y0, hTO⟩, h1, h2⟩ := st
    obtain ⟨xs, ys, hqx, hqy, hend⟩ := hg
    obtain ⟨its, rv, p1⟩ := seqB I hqx
    obtain ⟨its2, rv2, p2⟩ := seqB I hqy
    have l1 := rv.length
    have l2 := rv2.length
    have z1 : its.toArray.size = its.length := List.size_toArray ..
    have z2 : its2.toArray.size = its2.length := List.size_toArray ..
    exact wpAny_pyNext_zipD2_end S (drawsB (A := X.A.in1) p (I.ok.hd hc) i1 a n1 its.toArray) (drawsB (A := X.A.in1) q (I.ok.hd hc) i2 b n2 its2.toArray) hz hTI hTO ⟨h1, p1⟩ ⟨h2, p2⟩ (by omega) (by omega) (by omega) fun h' tk hk => ⟨rfl, I.turnedL (t' := tk) (ch := [z, TI, TO, i1, i2]) (fun c o hb q =>
      hk c o (fun q' => hb (by simp [q'])) (fun q' => hb (by simp [q'])) (fun q' => hb (by simp [q'])) (fun q' => hb (by simp [q'])) q) hf⟩
  self := fun A i s Q E st h => wpAny_pyIter_zip st.1 h
abbrev ziH1 (p : Bool) (h : Heap) (l1 : Addr) : Heap := h.push { cls := .type (if p then "list_iterator" else "tuple_iterator"), data := .fields #[.ref l1, .int 0 0] }
theorem ziOf {p : Bool} {h : Heap} {i l : Addr} (g : h.get? i = some { cls := .type (if p then "list_iterator" else "tuple_iterator"), data := .fields #[.ref l, .int 0 0] }) : ItB p h i l 0 := by
  cases p with
  | true => exact ⟨_, g, rfl, rfl⟩
  | false => exact ⟨_, g, rfl, rfl⟩
abbrev ziH2 (p q : Bool) (h : Heap) (l1 l2 : Addr) : Heap := ziH1 q (ziH1 p h l1) l2
abbrev ziH3 (p q : Bool) (h : Heap) (l1 l2 : Addr) : Heap := (ziH2 p q h l1 l2).push { cls := .type "tuple", data := .seq #[.ref h.objs.size, .ref (ziH1 p h l1).objs.size] }
abbrev ziH4 (p q : Bool) (h : Heap) (l1 l2 : Addr) : Heap := (ziH3 p q h l1 l2).push { cls := .type "tuple", data := .seq #[.none, .none] }
abbrev ziH5 (p q : Bool) (h : Heap) (l1 l2 : Addr) : Heap := (ziH4 p q h l1 l2).push { cls := .type "zip", data := .fields #[.none, .bool false, .bool false, .ref (ziH2 p q h l1 l2).objs.size, .ref (ziH3 p q h l1 l2).objs.size] }
theorem meets_zi (p q : Bool) (l1 l2 : Addr) (xs ys : Array Value) :
    Meets (Builtin.«zip.__new__» ⟨[.type "zip", .ref l1, .ref l2], []⟩) (fun _ R s => HsB p s.heap l1 xs ∧ HsB q s.heap l2 ys ∧
      R (.ok (.ret (.ref (ziH4 p q s.heap l1 l2).objs.size))) { s with heap := ziH5 p q s.heap l1 l2 }) := by
  cases p <;> cases q
  · exact RZ.meets_zipT_new l1 l2 xs ys
  · exact .of_wp fun prog w A R s h => by
      obtain ⟨hp, g, d, tk, os⟩ := s; obtain ⟨hl1, hl2, h⟩ := h
      have hsub := sub_zip
      have hL1 : Heap.IsTuple (Shared.heap ⟨hp, g, d, tk, os⟩) l1 xs := hl1
      have hL2 : Heap.IsList (Shared.heap ⟨hp.push { cls := .type "tuple_iterator", data := .fields #[.ref l1, .int 0 0] }, g, d, tk, os⟩) l2 ys := Heap.IsList.push hl2 _
      wp_walk using wpAny_pyIter_tuple hL1, wpAny_pyIter_list hL2
      exact ⟨_, rfl, h⟩
  · exact .of_wp fun prog w A R s h => by
      obtain ⟨hp, g, d, tk, os⟩ := s; obtain ⟨hl1, hl2, h⟩ := h
      have hsub := sub_zip
      have hL1 : Heap.IsList (Shared.heap ⟨hp, g, d, tk, os⟩) l1 xs := hl1
      have hL2 : Heap.IsTuple (Shared.heap ⟨hp.push { cls := .type "list_iterator", data := .fields #[.ref l1, .int 0 0] }, g, d, tk, os⟩) l2 ys := Heap.IsTuple.push hl2 _
      wp_walk using wpAny_pyIter_list hL1, wpAny_pyIter_tuple hL2
      exact ⟨_, rfl, h⟩
  · exact meets_zip_new l1 l2 xs ys
section
variable {prog : Program} {w : World} {A : Around} {E : Value → Shared → Prop} {s : Shared}
theorem call_zi {p q : Bool} {l1 l2 : Addr} {xs ys : Array Value} {Q : Value → Shared → Prop} (hl1 : HsB p s.heap l1 xs) (hl2 : HsB q s.heap l2 ys)
    (h : ∀ h', IsZip h' (s.heap.objs.size + 4) (s.heap.objs.size + 2) (s.heap.objs.size + 3) .none → IsTupOf2 h' (s.heap.objs.size + 2) (.ref s.heap.objs.size) (.ref (s.heap.objs.size + 1)) →
      IsTupOf2 h' (s.heap.objs.size + 3) .none .none → ItB p h' s.heap.objs.size l1 0 → ItB q h' (s.heap.objs.size + 1) l2 0 → h'.objs.size = s.heap.objs.size + 5 →
      (∀ c o, s.heap.get? c = some o → h'.get? c = some o) → Q (.ref (s.heap.objs.size + 4)) { s with heap := h' }) :
    wpAny (model prog w) A (call (.type "zip") [.ref l1, .ref l2]) Q E s := by
  refine callType_new F.called_zip (by decide) (F.typeCall_zip_2 _ _) (F.newCall_zip_2 _ _) (fun obj => F.args_object_init_3 obj _ _) F.entry_zip_new
    (meets_zi p q l1 l2 xs ys) ⟨hl1, hl2, ?_⟩
  have z1 : (ziH1 p s.heap l1).objs.size = s.heap.objs.size + 1 := Heap.size_push ..
  have z2 : (ziH2 p q s.heap l1 l2).objs.size = s.heap.objs.size + 2 := by rw [Heap.size_push, z1]
  have z3 : (ziH3 p q s.heap l1 l2).objs.size = s.heap.objs.size + 3 := by rw [Heap.size_push, z2]
  have z4 : (ziH4 p q s.heap l1 l2).objs.size = s.heap.objs.size + 4 := by rw [Heap.size_push, z3]
  have z5 : (ziH5 p q s.heap l1 l2).objs.size = s.heap.objs.size + 5 := by rw [Heap.size_push, z4]
  have g5 : (ziH5 p q s.heap l1 l2).get? (ziH4 p q s.heap l1 l2).objs.size = some _ := Heap.get?_push_size _ rfl
  have g4 : (ziH5 p q s.heap l1 l2).get? (ziH3 p q s.heap l1 l2).objs.size = some _ := Heap.get?_push_of_some _ (Heap.get?_push_size _ rfl)
  have g3 : (ziH5 p q s.heap l1 l2).get? (ziH2 p q s.heap l1 l2).objs.size = some _ := Heap.get?_push_of_some _ (Heap.get?_push_of_some _ (Heap.get?_push_size _ rfl))
  have g2 : (ziH5 p q s.heap l1 l2).get? (ziH1 p s.heap l1).objs.size = some _ := Heap.get?_push_of_some _ (Heap.get?_push_of_some _ (Heap.get?_push_of_some _ (Heap.get?_push_size _ rfl)))
  have g1 : (ziH5 p q s.heap l1 l2).get? s.heap.objs.size = some _ := Heap.get?_push_of_some _ (Heap.get?_push_of_some _ (Heap.get?_push_of_some _ (Heap.get?_push_of_some _ (Heap.get?_push_size _ rfl))))
  show _ ∧ _
  rw [z2, z3, z4] at g5
  rw [z1, z2] at g3
  rw [z3] at g4
  rw [z1] at g2
  rw [z4]
  exact ⟨⟨_, g5, rfl⟩, h _ g5 g3 g4 (ziOf g1) (ziOf g2) z5 fun c o x =>
    Heap.get?_push_of_some _ (Heap.get?_push_of_some _ (Heap.get?_push_of_some _ (Heap.get?_push_of_some _ (Heap.get?_push_of_some _ x))))⟩
end
theorem zi_ne {m : Nat} {l : List Nat} (h : ∀ x ∈ l, x ≠ m) : m ∉ l := fun q => h m q rfl
theorem zi_sep {n a b : Nat} (la : a < n) (lb : b < n) : ZipSep2 (n + 4) (n + 2) (n + 3) n (n + 1) [n, a] [n + 1, b] where
  TIz := by show n + 2 ≠ n + 4; omega
  TOz := by show n + 3 ≠ n + 4; omega
  TITO := by show n + 2 ≠ n + 3; omega
  TIi1 := by show n + 2 ≠ n; omega
  mem1 := List.mem_cons_self ..
  zf1 := zi_ne (by rintro x (_ | ⟨_, _ | ⟨_, q⟩⟩) <;> first | omega | cases q)
  Tf1 := zi_ne (by rintro x (_ | ⟨_, _ | ⟨_, q⟩⟩) <;> first | omega | cases q)
  TIi2 := by show n + 2 ≠ n + 1; omega
  mem2 := List.mem_cons_self ..
  zf2 := zi_ne (by rintro x (_ | ⟨_, _ | ⟨_, q⟩⟩) <;> first | omega | cases q)
  Tf2 := zi_ne (by rintro x (_ | ⟨_, _ | ⟨_, q⟩⟩) <;> first | omega | cases q)
  sep1_2 := zi_ne (by rintro x (_ | ⟨_, _ | ⟨_, q⟩⟩) <;> first | omega | cases q)
  sep2_1 := zi_ne (by rintro x (_ | ⟨_, _ | ⟨_, q⟩⟩) <;> first | omega | cases q)
def iZipB (K : PySem.W.Frag) (ta : TA) : TI := fun σ H R => ta σ H fun vs H1 => ∃ p q a b xs ys, vs = [.ref a, .ref b] ∧ SqB K p H1 a xs ∧ SqB K q H1 b ys ∧ R (ItzB K p q a b) H1
theorem pi_zipB {X : Cx} {e e2 : Expr} {ta : TA} {p pos tpos : Pos} {elts : List Expr} {kk : Nat} (hg : Gl X "zip") (hm : X.mg "zip" = none) (ha : PA X [e, e2] ta)
    (hs : starEach [e, e2] X.env = (false, eval e X.env) :: starEach [e2] X.env := by rfl) (hpl : (backTo pos (starEach [e2] X.env)).any (·.1) = false := by rfl) :
    PI X (.Tuple elts kk tpos) (.Call (.Name "zip" p) [e, e2] [] pos) (iZipB X.K ta) := by
  refine ⟨fun pins s σ H R I h => ?_⟩
  refine PyProof.Rows.Call_ (ld_blt I hg hm PyProof.Rows.boot_zip (PyProof.Rows.callWith_type1 (thn (ha.run pos pins s σ H _ I h) fun us s1 ⟨vs, H1, I1, r1, q1⟩ => ?_) hs hpl))
  obtain ⟨p, q, a, b, xs, ys, ex, hqx, hqy, q1⟩ := q1
  subst ex
  cases r1 with
  | cons r rr =>
    cases rr with
    | cons r' rr =>
      cases rr
      cases r
      cases r'
      have fresh5 : ∀ c, c ∈ [s1.heap.objs.size + 4, s1.heap.objs.size + 2, s1.heap.objs.size + 3, s1.heap.objs.size, s1.heap.objs.size + 1] → FpOk X pins H1 c := fun c hcm => by
        have e' : c = s1.heap.objs.size + 4 ∨ c = s1.heap.objs.size + 2 ∨ c = s1.heap.objs.size + 3 ∨ c = s1.heap.objs.size ∨ c = s1.heap.objs.size + 1 := by simpa using hcm
        have hle : s1.heap.objs.size ≤ c := by
          rcases e' with z | z | z | z | z
          · rw [z]; exact Nat.le_add_right _ _
          · rw [z]; exact Nat.le_add_right _ _
          · rw [z]; exact Nat.le_add_right _ _
          · rw [z]; exact Nat.le_refl _
          · rw [z]; exact Nat.le_add_right _ _
        exact I1.fpOk hle (I1.hok.fresh hle)
      obtain ⟨its, rv, p1⟩ := seqB I1 hqx
      obtain ⟨its2, rv2, p2⟩ := seqB I1 hqy
      refine call_zi p1 p2 fun h' hz hTI hTO h1 h2 hsz hk => wpAny_pyIter_zip hz ?_
      have I2 : Inv X pins σ H1 { s1 with heap := h' } := I1.kept (t' := s1.toks) hk
      have la := p1.lt
      have lb := p2.lt
      have S : ZipSep2 (s1.heap.objs.size + 4) (s1.heap.objs.size + 2) (s1.heap.objs.size + 3) s1.heap.objs.size (s1.heap.objs.size + 1) [s1.heap.objs.size, a] [s1.heap.objs.size + 1, b] := zi_sep la lb
      exact ⟨s1.heap.objs.size + 4, [s1.heap.objs.size + 4, s1.heap.objs.size + 2, s1.heap.objs.size + 3, s1.heap.objs.size, s1.heap.objs.size + 1], _, _, H1, rfl, I2, turn_zipB S (Nat.ne_of_lt la) (Nat.ne_of_lt (Nat.lt_succ_of_lt lb)), ⟨hz, hTI, ⟨_, _, hTO⟩, h1, h2⟩, fresh5, q1⟩
end Dn

end
section
set_option maxHeartbeats 4000000
/-! enumerate of a list or a tuple; zip -/
namespace Dn
open PySem PySem.Spec L2
open PySem.AutoSeq1 (wpAny_loadPart')
theorem enumT_new (l : Addr) (its : Array Value) (n : Nat) (dct : Option Addr) (sl : Array (Option Value)) :
    Meets (Builtin.«enumerate.__new__» ⟨[.type "enumerate", .ref l], []⟩) (fun _ R s =>
      s.heap.get? l = some { cls := .type "tuple", dict := dct, data := .seq its n, slots := sl } ∧
      R (.ok (.ret (.ref (s.heap.push { cls := .type "tuple_iterator", data := .fields #[.ref l, .int 0 0] }).objs.size)))
        { s with heap := Heap.push (s.heap.push { cls := .type "tuple_iterator", data := .fields #[.ref l, .int 0 0] }) { cls := .type "enumerate", data := .fields #[.none, .bool false, .ref s.heap.objs.size, rawInt 0, .none, .none] } }) :=
  .of_wp fun prog w A R s h => by
    obtain ⟨hp, g, d, tk, os⟩ := s
    obtain ⟨hl, h⟩ := h
    have hsub := sub_enumerate
    have hL : Heap.IsTuple (Shared.heap ⟨hp, g, d, tk, os⟩) l its := ⟨_, hl, rfl, n, rfl⟩
    wp_walk using wpAny_loadPart' hl
    refine wpAny_stack_any fun st => wpAny_pure ?_
    split
    · rename_i c _ _ _ _ _
      cases (c == Value.type "enumerate") <;>
        (wp_walk using wpAny_loadPart' hl, wpAny_pyIter_tuple hL
         exact ⟨_, rfl, h⟩)
    · wp_walk using wpAny_loadPart' hl, wpAny_pyIter_tuple hL
      exact ⟨_, rfl, h⟩
section
variable {prog : Program} {w : World} {A : Around} {E : Value → Shared → Prop} {s : Shared}
theorem enumT_call {l : Addr} {its : Array Value} {Q : Value → Shared → Prop} (hL : s.heap.IsTuple l its)
    (h : ∀ G, IsEnum G (s.heap.objs.size + 1) s.heap.objs.size 0 .none → G.IsTupleIter s.heap.objs.size l 0 → (∀ b o, s.heap.get? b = some o → G.get? b = some o) →
      Q (.ref (s.heap.objs.size + 1)) { s with heap := G }) : wpAny (model prog w) A (call (.type "enumerate") [.ref l]) Q E s := by
  obtain ⟨⟨c, dct, dt, sl⟩, hl, hc, n, hd⟩ := hL
  obtain rfl : c = .type "tuple" := hc
  obtain rfl : dt = .seq its n := hd
  refine callType_new F.called_enumerate (by decide) (F.typeCall_enumerate_1 _) (F.newCall_enumerate_1 _)
    (fun obj => F.args_object_init_2 obj _) F.entry_enumerate_new (enumT_new l its n dct sl) ⟨hl, ?_⟩
  have hz : (s.heap.push { cls := .type "tuple_iterator", data := .fields #[.ref l, .int 0 0] }).objs.size = s.heap.objs.size + 1 := Heap.size_push ..
  have he := Heap.get?_push_size (s.heap.push { cls := .type "tuple_iterator", data := .fields #[.ref l, .int 0 0] })
    (o := { cls := .type "enumerate", data := .fields #[.none, .bool false, .ref s.heap.objs.size, rawInt 0, .none, .none] }) rfl
  show _ ∧ _
  rw [hz] at he ⊢
  exact ⟨⟨_, he, rfl⟩, h _ he ⟨_, Heap.get?_push_of_some _ (Heap.get?_push_size _ rfl), rfl, rfl⟩ fun b o x => Heap.get?_push_of_some _ (Heap.get?_push_of_some _ x)⟩
end
/-- the tuple at a, each item in a new pair -/
def IteT (K : PySem.W.Frag) (a : Addr) : It where
  go i H := ∃ (xs : List V) (x : V), SqT K H a xs ∧ xs[i]? = some x
  yld i H v G := ∃ T x, v = .ref T ∧ H T = none ∧ G = upd H T (.tup [.int (i : Nat), x]) ∧ ∀ xs, SqT K H a xs → xs[i]? = some x
  stop i H := ∃ xs : List V, SqT K H a xs ∧ xs.length = i
theorem turn_enumT {P : Program} {w : World} {K : PySem.W.Frag} {elts : List Expr} {kk : Nat} {tpos : Pos} (a e it : Addr) :
    Turn P w K (.Tuple elts kk tpos) (IteT K a) [e, it] e (fun i h => (∃ old, IsEnum h e it ((i : Nat) : Int) old) ∧ h.IsTupleIter it a i ∧ e ≠ it ∧ a ≠ it ∧ a ≠ e) where
  mem := by simp
  obj := fun i h st b hb => by
    obtain ⟨⟨old, he⟩, ⟨o, ho, hc, hd⟩, _⟩ := st
    rcases (by simpa using hb : b = e ∨ b = it) with z | z
    · subst z
      exact ⟨_, he, fun v q => nomatch q⟩
    · subst z
      exact ⟨o, ho, fun v q => by rw [hd] at q; cases q⟩
  keep := fun i h h2 st k => by
    obtain ⟨⟨old, he⟩, hi, hne⟩ := st
    exact ⟨⟨old, k e (by simp) _ he⟩, hi.at fun o q => k it (by simp) o q, hne⟩
  item := by
    intro X hP hw hK hc i pins s σ H E I hf st hg
    subst hP hw hK
    obtain ⟨⟨old, he⟩, hit, hne, ha1, ha2⟩ := st
    obtain ⟨xs, x, hq, hx⟩ := hg
    obtain ⟨its, rv, p, hz⟩ := I.tuple hq
    obtain ⟨u, hu, ru⟩ := rv.get hx
    have hel : e < s.heap.objs.size := Heap.lt_size he
    have hil : it < s.heap.objs.size := by
      obtain ⟨_, q, _⟩ := hit
      exact Heap.lt_size q
    have hlt : i < its.toArray.size := by
      rw [List.size_toArray]
      exact (List.getElem?_eq_some_iff.mp hu).1
    have hef : e ∉ [it, a] := fun m => by
      rcases (by simpa using m : e = it ∨ e = a) with z | z
      · exact hne z
      · exact ha2 z.symm
    refine wpAny_pyNext_enum_itemD (Draws.tuple (A := X.A.in1) (I.ok.hd hc) it a ha1 its.toArray) he ⟨hit, p⟩ hlt hne hef fun y G tk hy ho hit2 hT hsz hk => ?_
    have ey : y = u := by
      have h2 : its.toArray[i]? = some u := by simpa using hu
      rw [h2] at hy
      exact (Option.some.inj hy).symm
    subst ey
    refine ⟨_, rfl, wpAny_letOwnedTupleGo_enum (s := { s with heap := G, toks := tk + 1 }) ho fun G2 he2 sb => ?_⟩
    have hT2 : G2.get? s.heap.objs.size = some { cls := .type "tuple", data := .seq #[.int i tk, y] } := (sb.2 _ (Nat.ne_of_gt hel)).trans hT
    have new : ObjOk X.prog X.w (upd H s.heap.objs.size (.tup [.int (i : Nat), x])) G2 s.heap.objs.size (.tup [.int (i : Nat), x]) :=
      ⟨by show 2 ≤ sizeLine; decide, [.int i tk, y], .cons ⟨_, rfl⟩ (.cons ru .nil), ⟨_, hT2, rfl, _, rfl⟩⟩
    have I1 : Inv X pins σ (upd H s.heap.objs.size (.tup [.int (i : Nat), x])) { s with heap := G2, toks := tk + 1 } :=
      I.turnedNew (ch := [e, it]) (fun b ob hb q => (sb.2 b (fun z => hb (by simp [z]))).trans (hk b ob (fun z => hb (by simp [z])) (fun z => hb (by simp [z])) q)) hf (Nat.le_refl _) new
    refine ⟨.ref s.heap.objs.size, _, I1, rfl, ⟨_, x, rfl, I.hok.fresh (Nat.le_refl _), rfl, fun ys hy => by rw [I.tuple_inj hy hq]; exact hx⟩, ⟨⟨y, ?_⟩, hit2.1.at fun o q => (sb.2 it (Ne.symm hne)).trans q, hne, ha1, ha2⟩, fun b hb => ?_⟩
    · rw [show ((i + 1 : Nat) : Int) = (i : Int) + 1 by omega]
      exact he2
    · have hb2 : b < s.heap.objs.size := by
        rcases (by simpa using hb : b = e ∨ b = it) with z | z
        · rw [z]; exact hel
        · rw [z]; exact hil
      rw [upd_ne (Nat.ne_of_lt hb2)]
      exact (hf b hb).1
  done := by
    intro X hP hw hK hc i pins s σ H E I hf st hg
    subst hP hw hK
    obtain ⟨⟨old, he⟩, hit, hne, ha1, ha2⟩ := st
    obtain ⟨xs, hq, hx⟩ := hg
    obtain ⟨its, rv, p, hz⟩ := I.tuple hq
    obtain ⟨f0, f1, f2, f3, f4, f5⟩ := hf it (by simp)
    have hn : i = its.toArray.size := by
      rw [List.size_toArray, ← rv.length]
      exact hx.symm
    refine wpAny_pyNext_enum_endD (Draws.tuple (A := X.A.in1) (I.ok.hd hc) it a ha1 its.toArray) he ⟨by rw [← hn]; exact hit, p⟩ fun G eb => ⟨rfl, I.turned (t' := s.toks) (fun b o hb q => eb b o hb q) f0 f1 f3 f4 f5⟩
  self := fun A i s Q E st h => by
    obtain ⟨⟨_, he⟩, _⟩ := st
    exact wpAny_pyIter_enum he h
def iEnumA (K : PySem.W.Frag) (ta : TE) : TI := fun σ H Z => ta σ H fun v H1 => ∃ w, [v] = [w] ∧ ∃ a xs, w = .ref a ∧ ((SqL K H1 a xs ∧ Z (Ite K a) H1) ∨ (SqT K H1 a xs ∧ Z (IteT K a) H1))
theorem pi_enumA {X : Cx} {e : Expr} {ta : TE} {p pos tpos : Pos} {elts : List Expr} {kk : Nat} (hg : Gl X "enumerate") (hm : X.mg "enumerate" = none) (ha : PE X e ta) (hs : starEach [e] X.env = (false, eval e X.env) :: starEach [] X.env := by rfl) :
    PI X (.Tuple elts kk tpos) (.Call (.Name "enumerate" p) [e] [] pos) (iEnumA X.K ta) := by
  refine ⟨fun pins s σ H Z I h => ?_⟩
  have ha2 := (pa_cons ha pa_nil hs).run pos pins s σ H (fun vs G => ∃ v, vs = [v] ∧ ∃ a xs, v = .ref a ∧ ((SqL X.K G a xs ∧ Z (Ite X.K a) G) ∨ (SqT X.K G a xs ∧ Z (IteT X.K a) G))) I ?_
  · refine PyProof.Rows.Call_ (ld_blt I hg hm PyProof.Rows.boot_enumerate (PyProof.Rows.callWith_type1 (thn ha2 fun us s1 ⟨vs, H1, I1, r1, v, e1, a, xs, e2, q⟩ => ?_) hs rfl))
    subst e1
    subst e2
    obtain ⟨u, eu, ru⟩ := vals1 r1
    subst eu
    cases ru
    have fresh : ∀ b ∈ [s1.heap.objs.size + 1, s1.heap.objs.size], FpOk X pins H1 b := fun b hb => by
      have hle : s1.heap.objs.size ≤ b := by
        rcases (by simpa using hb : b = s1.heap.objs.size + 1 ∨ b = s1.heap.objs.size) with z | z
        · rw [z]; exact Nat.le_add_right _ _
        · rw [z]; exact Nat.le_refl _
      exact I1.fpOk hle (I1.hok.fresh hle)
    rcases q with ⟨hq, q⟩ | ⟨hq, q⟩
    · obtain ⟨its, rv, p', hz⟩ := I1.list hq
      refine call_enumerate_list p'.isList fun G he hit hsz hk => wpAny_pyIter_enum he ?_
      exact ⟨s1.heap.objs.size + 1, [s1.heap.objs.size + 1, s1.heap.objs.size], _, _, H1, rfl, I1.kept (t' := s1.toks) hk, turn_enum a (s1.heap.objs.size + 1) s1.heap.objs.size, ⟨⟨.none, he⟩, hit, Nat.succ_ne_self _⟩, fresh, q⟩
    · obtain ⟨its, rv, p', hz⟩ := I1.tuple hq
      have hlt : a < s1.heap.objs.size := by
        obtain ⟨o, ho, _⟩ := p'
        exact Heap.lt_size ho
      refine enumT_call (show s1.heap.IsTuple a its.toArray from p') fun G he hit hk => wpAny_pyIter_enum he ?_
      exact ⟨s1.heap.objs.size + 1, [s1.heap.objs.size + 1, s1.heap.objs.size], _, _, H1, rfl, I1.kept (t' := s1.toks) hk, turn_enumT a (s1.heap.objs.size + 1) s1.heap.objs.size, ⟨⟨.none, he⟩, hit, Nat.succ_ne_self _, Nat.ne_of_lt hlt, Nat.ne_of_lt (Nat.lt_succ_of_lt hlt)⟩, fresh, q⟩
  · exact h
/-! the pairs -/
def pairsD (ds : List PyData) : List PyData := ds.mapIdx fun i d => .tuple [.int (i : Nat), d]
theorem pairsD_get {ds : List PyData} {i : Nat} {d : PyData} (h : ds[i]? = some d) : (pairsD ds)[i]? = some (.tuple [.int (i : Nat), d]) := by
  unfold pairsD
  rw [List.getElem?_mapIdx, h]
  rfl
theorem pairsD_length (ds : List PyData) : (pairsD ds).length = ds.length := by
  unfold pairsD
  rw [List.length_mapIdx]
theorem new_pair {K : PySem.W.Frag} {I IF : Hp} {T : Addr} {xs : List V} {ds : List PyData} (l : Le IF I) (h : I T = none) (r : DRs K IF xs ds) : ∃ IF2, New I IF (upd I T (.tup xs)) IF2 ∧ DR K IF2 (.ref T) (.tuple ds) := by
  have hf : IF T = none := by
    cases z : IF T with
    | none => rfl
    | some o =>
      rw [l _ _ z] at h
      cases h
  have l2 : Le IF (upd IF T (.tup xs)) := fun a o e => by
    rw [upd_ne (ne_of_none e hf)]
    exact e
  refine ⟨upd IF T (.tup xs), ⟨fun a o e => ?_, l2, fun a x y => ?_, fun a o e => ?_⟩, .tup (.inl (.inl upd_same)) (r.mono l2)⟩
  · rw [upd_ne (ne_of_none e h)]
    exact e
  · rw [upd_ne (fun z => x.some (by rw [z]; exact h))]
    exact y
  · by_cases z : a = T
    · subst z
      rw [upd_same] at e ⊢
      exact e
    · rw [upd_ne z] at e ⊢
      exact l _ _ e
section
variable {K : PySem.W.Frag} {H : Hp} {a b : Addr} {vs ws : List V} {ds es : List PyData}
theorem yields_enumL (h : H a = some (.lst vs)) (r : DRs K H vs ds) : Yields K (Ite K a) H (pairsD ds) where
  go := fun i I IF l1 l2 hi => by
    rw [pairsD_length, ← r.length] at hi
    exact ⟨vs, vs[i], .inl (.inl (l2 _ _ (l1 _ _ h))), List.getElem?_eq_getElem hi⟩
  yld := fun i I IF x I2 l1 l2 hi y => by
    rw [pairsD_length] at hi
    obtain ⟨T, v, rfl, hT, rfl, fx⟩ := y
    obtain ⟨v2, e1, e2⟩ := r.get (List.getElem?_eq_getElem hi)
    have ex := fx vs (.inl (.inl (l2 _ _ (l1 _ _ h))))
    rw [e1] at ex
    cases ex
    obtain ⟨IF2, n, dr⟩ := new_pair l2 hT (.cons (.int (i : Nat)) (.cons (e2.mono l1) .nil))
    exact ⟨IF2, _, pairsD_get (List.getElem?_eq_getElem hi), n, dr⟩
  stop := fun i I IF l1 l2 hi => ⟨vs, .inl (.inl (l2 _ _ (l1 _ _ h))), by rw [r.length]; rw [pairsD_length] at hi; omega⟩
theorem yields_enumT (h : SqT K H a vs) (r : DRs K H vs ds) : Yields K (IteT K a) H (pairsD ds) where
  go := fun i I IF l1 l2 hi => by
    rw [pairsD_length, ← r.length] at hi
    exact ⟨vs, vs[i], (l1.trans l2).sqT h, List.getElem?_eq_getElem hi⟩
  yld := fun i I IF x I2 l1 l2 hi y => by
    rw [pairsD_length] at hi
    obtain ⟨T, v, rfl, hT, rfl, fx⟩ := y
    obtain ⟨v2, e1, e2⟩ := r.get (List.getElem?_eq_getElem hi)
    have ex := fx vs ((l1.trans l2).sqT h)
    rw [e1] at ex
    cases ex
    obtain ⟨IF2, n, dr⟩ := new_pair l2 hT (.cons (.int (i : Nat)) (.cons (e2.mono l1) .nil))
    exact ⟨IF2, _, pairsD_get (List.getElem?_eq_getElem hi), n, dr⟩
  stop := fun i I IF l1 l2 hi => ⟨vs, (l1.trans l2).sqT h, by rw [r.length]; rw [pairsD_length] at hi; exact hi.symm⟩
end
def zipD : List PyData → List PyData → List PyData
  | d :: ds, e :: es => .tuple [d, e] :: zipD ds es
  | _, _ => []
theorem zipD_get : ∀ {ds es : List PyData} {i : Nat} {d e : PyData}, ds[i]? = some d → es[i]? = some e → (zipD ds es)[i]? = some (.tuple [d, e])
  | d :: ds, e :: es, 0, _, _, h, k => by
    cases h
    cases k
    rfl
  | d :: ds, e :: es, i + 1, _, _, h, k => zipD_get (ds := ds) (es := es) (i := i) h k
  | [], _, _, _, _, h, _ => by simp at h
  | _ :: _, [], _, _, _, _, k => by simp at k
theorem zipD_length : ∀ ds es : List PyData, (zipD ds es).length = min ds.length es.length
  | [], [] => rfl
  | [], _ :: _ => by simp [zipD]
  | _ :: _, [] => by simp [zipD]
  | _ :: ds, _ :: es => by
    simp only [zipD, List.length_cons, zipD_length ds es]
    omega
section
variable {K : PySem.W.Frag} {H : Hp} {a b : Addr} {vs ws : List V} {ds es : List PyData}
theorem yields_zipB {p q : Bool} (h : ∀ I, Le H I → SqB K p I a vs) (r : DRs K H vs ds) (h2 : ∀ I, Le H I → SqB K q I b ws) (r2 : DRs K H ws es) : Yields K (ItzB K p q a b) H (zipD ds es) where
  go := fun i I IF l1 l2 hi => by
    rw [zipD_length, ← r.length, ← r2.length] at hi
    exact ⟨vs, ws, vs[i], ws[i], h _ (l1.trans l2), h2 _ (l1.trans l2), List.getElem?_eq_getElem (by omega), List.getElem?_eq_getElem (by omega)⟩
  yld := fun i I IF x I2 l1 l2 hi y => by
    rw [zipD_length] at hi
    have hi1 : i < ds.length := by omega
    have hi2 : i < es.length := by omega
    obtain ⟨T, v, w, rfl, hT, rfl, fx, fy⟩ := y
    obtain ⟨v2, e1, e2⟩ := r.get (List.getElem?_eq_getElem hi1)
    obtain ⟨w2, e3, e4⟩ := r2.get (List.getElem?_eq_getElem hi2)
    have ex := fx vs (h _ (l1.trans l2))
    rw [e1] at ex
    cases ex
    have ey := fy ws (h2 _ (l1.trans l2))
    rw [e3] at ey
    cases ey
    obtain ⟨IF2, n, dr⟩ := new_pair l2 hT (.cons (e2.mono l1) (.cons (e4.mono l1) .nil))
    exact ⟨IF2, _, zipD_get (List.getElem?_eq_getElem hi1) (List.getElem?_eq_getElem hi2), n, dr⟩
  stop := fun i I IF l1 l2 hi => ⟨vs, ws, h _ (l1.trans l2), h2 _ (l1.trans l2), by rw [zipD_length] at hi; rw [r.length, r2.length]; omega⟩
end
def iEnum (e : Ex) : Ix := fun ρ f => dt (e ρ f) fun d f1 => match seqOf d with
  | some ds => .ok (pairsD ds) f1
  | none => .no
def iZip (a b : Ex) : Ix := fun ρ f => dt (a ρ f) fun d f1 => dt (b ρ f1) fun e f2 => match d, e with
  | .list ds, .list es => .ok (zipD ds es) f2
  | .tuple ds, .tuple es => .ok (zipD ds es) f2
  | .tuple ds, .list es => .ok (zipD ds es) f2
  | .list ds, .tuple es => .ok (zipD ds es) f2
  | _, _ => .no
section
variable {X : Cx} {W : Wish} {e e2 : Expr} {x y : Ex} {pos p tpos : Pos} {elts : List Expr} {kk : Nat}
theorem di_enum (hg : Gl X "enumerate") (hm : X.mg "enumerate" = none) (h : DE X W e x) (hs : starEach [e] X.env = (false, eval e X.env) :: starEach [] X.env := by rfl) : DI X W (.Tuple elts kk tpos) (.Call (.Name "enumerate" p) [e] [] pos) (iEnum x) :=
  pi_mono (pi_enumA hg hm h hs) fun σ H Z ⟨g, HF, ρ, f, rel, q⟩ => tD_dt rel q fun d f1 v G GF r1 s1 dr q1 => by
    cases d <;> try exact (show False from q1).elim
    · cases dr with
      | lst h1 h2 => exact ⟨_, rfl, _, _, rfl, .inl ⟨.inl (.inl (r1.sub _ _ h1)), q1 _ G GF s1 r1.feed (yields_enumL h1 h2)⟩⟩
    · cases dr with
      | tup h1 h2 => exact ⟨_, rfl, _, _, rfl, .inr ⟨r1.sub.sqT h1, q1 _ G GF s1 r1.feed (yields_enumT h1 h2)⟩⟩
theorem di_zip (hg : Gl X "zip") (hm : X.mg "zip" = none) (h : DE X W e x) (h2 : DE X W e2 y) (hs : starEach [e, e2] X.env = (false, eval e X.env) :: starEach [e2] X.env := by rfl)
    (hs2 : starEach [e2] X.env = (false, eval e2 X.env) :: starEach [] X.env := by rfl) (hpl : (backTo pos (starEach [e2] X.env)).any (·.1) = false := by rfl) : DI X W (.Tuple elts kk tpos) (.Call (.Name "zip" p) [e, e2] [] pos) (iZip x y) :=
  pi_mono (pi_zipB hg hm (pa_cons h (pa_cons h2 pa_nil hs2) hs) hs hpl) fun σ H Z ⟨g, HF, ρ, f, rel, q⟩ => tD_dt rel q fun d f1 v G GF r1 s1 dr q1 => tD_dt r1 q1 fun e f2 w I IF r2 s2 er q2 => by
    have dr2 := dr.mono s2.le
    cases d <;> cases e <;> try exact (show False from q2).elim
    · cases dr2 with
      | lst h1 h2 =>
        cases er with
        | lst h3 h4 => exact ⟨true, true, _, _, _, _, rfl, .inl (.inl (r2.sub _ _ h1)), .inl (.inl (r2.sub _ _ h3)), q2 _ I IF (s1.trans r1.feed s2) r2.feed (yields_zipB (fun I l => .inl (.inl (l _ _ h1))) h2 (fun I l => .inl (.inl (l _ _ h3))) h4)⟩
    · cases dr2 with
      | lst h1 h2 =>
        cases er with
        | tup h3 h4 => exact ⟨true, false, _, _, _, _, rfl, .inl (.inl (r2.sub _ _ h1)), r2.sub.sqT h3, q2 _ I IF (s1.trans r1.feed s2) r2.feed (yields_zipB (fun I l => .inl (.inl (l _ _ h1))) h2 (fun I l => l.sqT h3) h4)⟩
    · cases dr2 with
      | tup h1 h2 =>
        cases er with
        | lst h3 h4 => exact ⟨false, true, _, _, _, _, rfl, r2.sub.sqT h1, .inl (.inl (r2.sub _ _ h3)), q2 _ I IF (s1.trans r1.feed s2) r2.feed (yields_zipB (fun I l => l.sqT h1) h2 (fun I l => .inl (.inl (l _ _ h3))) h4)⟩
    · cases dr2 with
      | tup h1 h2 =>
        cases er with
        | tup h3 h4 => exact ⟨false, false, _, _, _, _, rfl, r2.sub.sqT h1, r2.sub.sqT h3, q2 _ I IF (s1.trans r1.feed s2) r2.feed (yields_zipB (fun I l => l.sqT h1) h2 (fun I l => l.sqT h3) h4)⟩
end
end Dn

end
section
set_option maxHeartbeats 4000000
/-! repr, isinstance, the feed, the module's constants -/
namespace Dn
open PySem PySem.Spec L2
mutual
theorem DR.dpN {K : PySem.W.Frag} {H : Hp} : ∀ {v : V} {d : PyData}, DR K H v d → d.hasDict = false → Dp K H v d
  | _, _, .non, _ => .non
  | _, _, .bl b, _ => .bl b
  | _, _, .int i, _ => .int i
  | _, _, .str x, _ => .str x
  | _, _, .lst h r, c => .lst (.inl (.inl h)) (DRs.dpN r (by simpa [PyData.hasDict] using c))
  | _, _, .tup h r, c => .tup h (DRs.dpN r (by simpa [PyData.hasDict] using c))
  | _, _, .dic _ _ _, c => by simp [PyData.hasDict] at c
  | _, _, .exc _ _ _ _, c => by simp [PyData.hasDict] at c
theorem DRs.dpN {K : PySem.W.Frag} {H : Hp} : ∀ {vs : List V} {ds : List PyData}, DRs K H vs ds → PyData.hasDictAll ds = false → DpAll K H vs ds
  | _, _, .nil, _ => .nil
  | _, _, .cons h r, c => by
    have c2 := Bool.or_eq_false_iff.mp (show (PyData.hasDict _ || PyData.hasDictAll _) = false from c)
    exact .cons (DR.dpN h c2.1) (DRs.dpN r c2.2)
end
theorem Top.dpN {K : PySem.W.Frag} {g : Gh} {H HF : Hp} {v : V} {d : PyData} (t : Top K g H HF v d) (l : Le HF H) (c : d.hasDict = false) : Dp K H v d := by
  rcases t with h | ⟨p, vs, ds, rfl, rfl, _, h4, h5⟩
  · exact (h.mono l).dpN c
  · exact .lst (.inl (.inl h4)) ((h5.mono l).dpN (by simpa [PyData.hasDict] using c))
def rRepr (K : PySem.W.Frag) : List V → Hp → VK → Prop := fun xs H Q => ∃ x d, xs = [x] ∧ Dp K H x d ∧ d.showable = true ∧ d.hasDict = false ∧ d.depth ≤ 60 ∧ d.shown.length ≤ sizeLine ∧ Q (.str d.shown) H
theorem call_repr {X : Cx} (hg : X.A.guards = some []) (hu : X.A.units + 64 < cLine) : CallR X (.builtin "repr") (rRepr X.K) := by
  intro pins s σ H xs us Q I rs h
  obtain ⟨x, d, e1, dp, sh, nd, dep, len, q⟩ := h
  subst e1
  obtain ⟨u, e2, ru⟩ := vals1 rs
  subst e2
  have fin : ∀ (G : Heap) (t : Nat) (tk : Tok), (∀ b o, s.heap.get? b = some o → G.get? b = some o) → EP X pins σ Q (.str d.shown tk) { s with heap := G, toks := t } :=
    fun G t tk k => ⟨.str d.shown, H, I.kept (t' := t) k, ⟨tk, rfl⟩, q⟩
  obtain ⟨as, r⟩ := Dp.reads I d x u dp ru
  cases dp with
  | non =>
    cases ru
    exact PySem.P.repr_of_none (fin s.heap _ _ fun _ _ e => e)
  | bl b =>
    cases ru
    refine PySem.P.repr_of_bool ?_
    have z := fin s.heap (s.toks + 1) s.toks fun _ _ e => e
    cases b <;> exact z
  | int i =>
    obtain ⟨t, rfl⟩ := ru
    exact PySem.P.repr_of_int (by simpa [PyData.showable] using sh) (fin s.heap _ _ fun _ _ e => e)
  | str y =>
    obtain ⟨t, rfl⟩ := ru
    exact PySem.P.repr_of_str (fin s.heap _ _ fun _ _ e => e) (by simpa [PyData.shown] using len)
  | lst h1 h2 =>
    cases ru
    exact repr_of_reads' r sh (PyData.noDict_hsm nd) hg (by omega) (fun _ _ e => e) (fun G tk t k => fin G t tk k) len
  | tup h1 h2 =>
    cases ru
    exact repr_of_reads' r sh (PyData.noDict_hsm nd) hg (by omega) (fun _ _ e => e) (fun G tk t k => fin G t tk k) len
def shows (d : PyData) : Bool := d.showable && !d.hasDict && decide (d.depth ≤ 60) && decide (d.shown.length ≤ 10000000)
def oRepr : Op1 := fun d => if shows d = true then some (.dat (.str d.shown)) else none
theorem oRepr_ok {K : PySem.W.Frag} : UnOk K (fun v H Q => rRepr K [v] H Q) oRepr := fun g H HF f x d rv a t z Q k => by
  obtain ⟨c, rfl⟩ := ite_some z
  unfold shows at c
  simp only [Bool.and_eq_true, Bool.not_eq_true', decide_eq_true_eq] at c
  exact ⟨x, d, rfl, t.dpN a.sub c.1.1.2, c.1.1.1, c.1.1.2, c.1.2, Nat.le_trans c.2 (by decide), k.now a (.str _)⟩
/-! isinstance of a built-in class -/
def tyName : PyData → String
  | .none => "NoneType"
  | .bool _ => "bool"
  | .int _ => "int"
  | .str _ => "str"
  | .list _ => "list"
  | .tuple _ => "tuple"
  | .dict _ => "dict"
/-- no exception -/
def okTy : PyData → Bool
  | .dict ((.none, _) :: _) => false
  | _ => true
theorem Top.ty {K : PySem.W.Frag} {g : Gh} {H HF : Hp} {v : V} {d : PyData} (t : Top K g H HF v d) (l : Le HF H) (ok : okTy d = true) : TyX K H v (.type (tyName d)) := by
  rcases t with h | ⟨p, vs, ds, rfl, rfl, _, h4, h5⟩
  · cases h with
    | non => exact .base .non
    | bl b => exact .base (.bl b)
    | int i => exact .base (.int i)
    | str x => exact .base (.str x)
    | lst h r => exact .base (.lst (l _ _ h))
    | dic h _ _ => exact .base (.dK (l _ _ h))
    | exc _ _ _ _ => cases ok
    | tup h r =>
      rcases h with (h | ⟨o, h⟩) | ⟨o, its, n, h1, h2, _⟩
      · exact .base (.tup (l _ _ h))
      · exact .fTuple (l _ _ h)
      · exact .kTuple h1 h2
  · exact .base (.lst h4)
/-- T's own and what counts as one -/
def isOf (T : String) (d : PyData) : Bool := tyName d == T || (T == "int" && tyName d == "bool")
def known (T : String) : Bool := ["int", "bool", "str", "list", "tuple", "dict"].contains T
theorem isOf_kit {T : String} (h : known T = true) (d : PyData) : kitB (tyName d) T = some (isOf T d) := by
  have hT : T = "int" ∨ T = "bool" ∨ T = "str" ∨ T = "list" ∨ T = "tuple" ∨ T = "dict" := by
    simpa [known] using h
  rcases hT with rfl | rfl | rfl | rfl | rfl | rfl <;> cases d <;> (simp only [isOf, tyName]; decide +kernel)
def oIsi (T : String) : Op1 := fun d => if okTy d = true then some (.dat (.bool (isOf T d))) else none
section
variable {X : Cx} {W : Wish} {fa : Ex} {e : Expr} {p p2 pos : Pos}
theorem de_isi {T : String} (x : Str) (hT : known T = true) (hg : Gl X "isinstance") (hm : X.mg "isinstance" = none) (hg2 : Gl X x) (hm2 : X.mg x = none) (hv : bootBuiltins x = some (.type T)) (ha : DE X W e fa)
    (hn2 : x ≠ "__name__" := by decide) (hdb2 : (x == ("__debug__" : Str)) = false := by decide)
    (he : starEach [e, .Name x p2] X.env = (false, eval e X.env) :: starEach [.Name x p2] X.env := by rfl) (he2 : starEach [.Name x p2] X.env = (false, eval (.Name x p2) X.env) :: starEach [] X.env := by rfl)
    (hpl : (backTo pos (starEach [.Name x p2] X.env)).any (·.1) = false := by rfl) : DE X W (.Call (.Name "isinstance" p) [e, .Name x p2] [] pos) (cUn (oIsi T) fa) :=
  pe_mono (pe_callB call_isi hg hm (by decide +kernel) (pa_cons ha (pa_cons (pe_bltn (v := .ty T) hg2 hm2 hv rfl hn2 hdb2) pa_nil he2) he) (by decide) (by decide) he hpl) fun σ H Q h =>
    un_read (r := fun v H Q => rIsi X.K [v, .ty T] H Q) (fun g H HF f v d rv a t z Q k => by
      obtain ⟨c, rfl⟩ := ite_some z
      exact ⟨v, .ty T, _, _, _, rfl, .ty T, t.ty a.sub c, kit_ty (isOf_kit hT d), k.now a (.bl _)⟩) h
/-! the module's constants -/
theorem de_glob {x : Str} {v : V} {u : Value} {d : PyData} (hg : Gl X x) (hm : X.mg x = some u) (r : RelV v u) (hd : ∀ HF, DR X.K HF v d) (hdb : (x == ("__debug__" : Str)) = false := by decide) : DE X W (.Name x p) (cC d) :=
  de_const (pe_glob hg hm r hdb) hd
end
theorem DR.ratK {K : PySem.W.Frag} {a : Addr} {od : Option Addr} {i j : Int} {t u : Tok} {n : Nat} {sl : Array (Option Value)} (h : K.lookup a = some ⟨.type "tuple", od, .seq #[.int i t, .int j u] n, sl⟩) (HF : Hp) : DR K HF (.ref a) (.tuple [.int i, .int j]) :=
  .tup (xs := [.int i, .int j]) (.inr ⟨_, #[.int i t, .int j u], n, h, rfl, rfl, by show 2 ≤ sizeLine; decide, .cons ⟨t, rfl⟩ (.cons ⟨u, rfl⟩ .nil)⟩) (.cons (.int i) (.cons (.int j) .nil))
/-! ### the feed's fields -/
def Feed.get (f : Feed) (k : Str) : Option RV :=
  if k = "turn" then some (.dat (.int f.turn)) else if k = "at" then some (.dat (.int f.spot)) else if k = "left" then some (.dat (.int f.left)) else if k = "cells" then some (.dat (.list (f.cells.map .int))) else none
def Feed.put (f : Feed) (k : Str) (i : Int) : Option Feed :=
  if k = "turn" then some { f with turn := i } else if k = "at" then some { f with spot := i } else if k = "left" then some { f with left := i } else none
def cFeed (k : Str) (e : Ex) : Ex := fun ρ f => (e ρ f).bind fun rv f1 => match rv with
  | .feed => give (f1.get k) f1
  | _ => .no
theorem kne {a b : Str} (h : ¬ a = b) : ¬ (Sum.inr a : Key) = Sum.inr b := fun e => h (Sum.inr.inj e)
theorem feed_at {g : Gh} {H HF : Hp} {f : Feed} (h : FeedAt g H HF f) : DGet H g.fa (.str "turn") (some (.int f.turn)) ∧ DGet H g.fa (.str "at") (some (.int f.spot)) ∧ DGet H g.fa (.str "left") (some (.int f.left)) ∧ DGet H g.fa (.str "cells") (some (.ref g.ca)) := by
  refine ⟨.inl ⟨_, Sum.inr "turn", .inl h.d, rfl, ?_⟩, .inl ⟨_, Sum.inr "at", .inl h.d, rfl, ?_⟩, .inl ⟨_, Sum.inr "left", .inl h.d, rfl, ?_⟩, .inl ⟨_, Sum.inr "cells", .inl h.d, rfl, ?_⟩⟩
  · rw [valV_neg (kne (a := "cells") (b := "turn") (by decide)), valV_neg (kne (a := "at") (b := "turn") (by decide)), valV_neg (kne (a := "left") (b := "turn") (by decide)), valV_pos rfl]
  · rw [valV_neg (kne (a := "cells") (b := "at") (by decide)), valV_pos rfl]
  · rw [valV_neg (kne (a := "cells") (b := "left") (by decide)), valV_neg (kne (a := "at") (b := "left") (by decide)), valV_pos rfl]
  · rw [valV_pos rfl]
theorem feed_get {K : PySem.W.Frag} {g : Gh} {H HF : Hp} {f : Feed} {k : Str} {rv : RV} (h : FeedAt g H HF f) (e : f.get k = some rv) : ∃ v d, rv = .dat d ∧ DGet H g.fa (.str k) (some v) ∧ DR K HF v d := by
  obtain ⟨h1, h2, h3, h4⟩ := feed_at h
  unfold Feed.get at e
  split at e
  · rename_i c
    cases e
    subst c
    exact ⟨_, _, rfl, h1, .int _⟩
  · split at e
    · rename_i c
      cases e
      subst c
      exact ⟨_, _, rfl, h2, .int _⟩
    · split at e
      · rename_i c
        cases e
        subst c
        exact ⟨_, _, rfl, h3, .int _⟩
      · split at e
        · rename_i c
          cases e
          subst c
          exact ⟨_, _, rfl, h4, .lst h.c (DRs.ints _)⟩
        · cases e
theorem feed_put {g : Gh} {H HF : Hp} {f f2 : Feed} {k : Str} {i : Int} (h : FeedAt g H HF f) (e : f.put k i = some f2) : DPut H g.fa (.str k) (.int i) (upd H g.fa (feedO g f2)) := by
  have go : ∀ kvs : List (Key × V), putK [((Sum.inr "cells" : Key), V.ref g.ca), (Sum.inr "at", .int f.spot), (Sum.inr "left", .int f.left), (Sum.inr "turn", .int f.turn)] (Sum.inr k) (.int i) = kvs → feedO g f2 = .dK kvs → DPut H g.fa (.str k) (.int i) (upd H g.fa (feedO g f2)) := fun kvs e1 e2 => by
    rw [e2]
    subst e1
    exact .inl ⟨_, Sum.inr k, h.d, rfl, by show 4 < sizeLine; decide, rfl⟩
  unfold Feed.put at e
  split at e
  · rename_i c
    cases e
    subst c
    exact go _ rfl rfl
  · split at e
    · rename_i c
      cases e
      subst c
      exact go _ rfl rfl
    · split at e
      · rename_i c
        cases e
        subst c
        exact go _ rfl rfl
      · cases e
theorem feed_read {K : PySem.W.Frag} {mg : Str → Option Value} {W : Wish} {k : Str} {x : Ex} {σ : St} {H : Hp} {Q : VK} (h : tD K mg W (cFeed k x) σ H Q) : tDGet (tD K mg W x) (tC (.str k)) σ H Q := by
  obtain ⟨g, HF, ρ, f, rel, q⟩ := h
  refine tD_bind rel q fun rv f1 v G GF r1 s1 rr q1 => ?_
  cases rv with
  | feed =>
    obtain ⟨rv2, z, k2⟩ := give_end r1.feed s1 q1
    obtain ⟨u, d, rfl, dg, dr⟩ := feed_get (K := K) r1.feed z
    exact ⟨g.fa, u, rr, dg, k2.now ⟨r1.sub, r1.feed⟩ dr⟩
  | _ => exact (show False from q1).elim
theorem de_feed {X : Cx} {W : Wish} {o : Expr} {x : Ex} {k : Str} {j : Nat} {kp pos : Pos} (hu : X.A.units + 1 < cLine) (ho : DE X W o x) (hs : NoSl (.Constant (.str k) j kp)) : DE X W (.Subscript o (.Constant (.str k) j kp) pos) (cFeed k x) :=
  pe_mono (pe_dget hu ho pe_str hs) fun _ _ _ h => feed_read h
/-- feed[k] = e -/
def sFeed (k : Str) (o e : Ex) : Sm := fun ρ f => pk (e ρ f) fun d f1 => (o ρ f1).bind fun rv f2 => match d, rv with
  | .int i, .feed => match f2.put k i with
    | some f3 => .ok (.nx ρ) f3
    | none => .no
  | _, _ => .no
theorem Feed.put_cells {f f2 : Feed} {k : Str} {i : Int} (e : f.put k i = some f2) : f2.cells = f.cells := by
  unfold Feed.put at e
  split at e
  · cases e; rfl
  · split at e
    · cases e; rfl
    · split at e
      · cases e; rfl
      · cases e
theorem fput_read {K : PySem.W.Frag} {mg : Str → Option Value} {E : XK} {k : Str} {x o : Ex} {D : Ends} {σ : St} {H : Hp} (h : tDS K mg E (sFeed k o x) D σ H) : sDPut (tD K mg (fun _ => E) o) (tC (.str k)) (tD K mg (fun _ => E) x) D σ H := by
  obtain ⟨g, HF, ρ, f, rel, q⟩ := h
  refine tD_Spk rel q fun d f1 v G GF r1 s1 t1 q1 => tD_S r1 q1 fun rv f2 w I IF r2 s2 rr q2 => ?_
  cases d <;> try exact (show False from q2).elim
  rename_i i
  cases rv with
  | feed =>
    simp only at q2
    cases z : f2.put k i with
    | none =>
      simp only [z] at q2
      exact (show False from q2).elim
    | some f3 =>
      simp only [z] at q2
      have ev := t1.int
      subst ev
      refine ⟨g.fa, _, rr, feed_put r2.feed z, (show FinS K g D (.nx ρ) f3 from q2) σ _ IF ⟨fun a y e => ?_, ⟨upd_same, r2.feed.nf, ?_⟩, fun a y na e => ?_, r2.le, r2.new, r2.len, fun j s e => ?_, r2.sep, r2.sepD⟩⟩
      · rw [upd_ne (ne_of_none e r2.feed.nf)]
        exact r2.sub a y e
      · rw [Feed.put_cells z]
        exact r2.feed.c
      · rw [upd_ne na]
        exact r2.ext a y na e
      · have kk := r2.slot j s e
        cases s with
        | emp => trivial
        | dat d => exact kk
        | own ds =>
          obtain ⟨p, vs, z1, z2, z3, z4, z5⟩ := kk
          exact ⟨p, vs, z1, z2, z3, by rw [upd_ne (ne_fa r2.feed z4)]; exact z4, z5⟩
        | feed => exact kk
        | scr ns => exact kk
        | dct q =>
          obtain ⟨p, z1, z2, z3, z4⟩ := kk
          exact ⟨p, z1, z2, z3, z4.mono (fun o e => by rw [upd_ne (z4.ne r2.feed)]; exact e) (Le.refl _)⟩
        | key ks => exact kk
  | _ => exact (show False from q2).elim
theorem ds_feed {X : Cx} {E : XK} {o e : Expr} {x y : Ex} {k : Str} {j : Nat} {kp pos pos2 : Pos} (hu : X.A.units + 1 < cLine) (ho : DE X (fun _ => E) o x) (he : DE X (fun _ => E) e y)
    (hs : swapsWith e (some (.Subscript o (.Constant (.str k) j kp) pos2)) pos.line X.env = pure false := by rfl) : DS X E (.Assign [.Subscript o (.Constant (.str k) j kp) pos2] e pos) (sFeed k x y) :=
  ps_mono (ps_dput hu ho pe_str he hs) fun _ _ _ h => fput_read h
end Dn

end
section
set_option maxHeartbeats 4000000
/-! the law's own def and the end -/
namespace Dn
open PySem PySem.Spec L2
/-! the feed is made -/
def spFeed (K : PySem.W.Frag) : Sp := fun vs H Q _ => ∃ (a : Addr) (ns : List Int), vs = [.ref a] ∧ SqL K H a (ns.map V.int) ∧ ns.length ≤ 63 ∧
  ∀ (fa ca : Addr) (G : Hp), Le H G → fa ≠ ca → G fa = some (.dK [(Sum.inr "cells", .ref ca), (Sum.inr "at", .int 0), (Sum.inr "left", .int 0), (Sum.inr "turn", .int 0)]) → G ca = some (.lst (ns.map V.int)) → Q (.ref fa) G
theorem le_new {H : Hp} {p : Addr} {o : HO} (h : H p = none) : Le H (upd H p o) := fun a x e => by
  rw [upd_ne (ne_of_none e h)]
  exact e
theorem cut63 {ns : List Int} (h : ns.length ≤ 63) : cutV (ns.map V.int) none (some 63) = ns.map V.int := by
  unfold cutV
  rw [HT.sIx_none]
  have e : HT.sIx (ns.map V.int).length (ns.map V.int).length (some 63) = (ns.map V.int).length := by
    have := HT.sIx_nat (ns.map V.int).length (ns.map V.int).length 63
    rw [show ((63 : Nat) : Int) = 63 from rfl] at this
    rw [this, List.length_map]
    omega
  rw [e, Nat.sub_zero, List.drop_zero, List.take_length]
theorem feed_made {K : PySem.W.Frag} {vs : List V} {H : Hp} {Q : VK} {E : XK} (h : spFeed K vs H Q E) :
    tRet (tDisp [(tC (.str "cells"), tCB (fun xs H Q => ∃ p ys, xs = [.ref p] ∧ (SqL K H p ys ∨ SqT K H p ys) ∧ ∀ l, H l = none → Q (.ref l) (upd H l (.lst ys))) (tCons (tSl (rSlL K) (tVar 0) tNoPart (tPart (tC (.int 63)))) tNil)),
      (tC (.str "at"), tC (.int 0)), (tC (.str "left"), tC (.int 0)), (tC (.str "turn"), tC (.int 0))]) { nx := fun _ G => Q .non G, rt := Q } (L2.start ["_law_script"] vs) H := by
  obtain ⟨a, ns, rfl, hs, hl, q⟩ := h
  intro p hp
  have l1 : Le H (upd H p (.dK [])) := le_new hp
  have hs1 : SqL K (upd H p (.dK [])) a (ns.map V.int) := by
    rcases hs with (h | ⟨o, h⟩) | h
    · exact .inl (.inl (l1 _ _ h))
    · exact .inl (.inr ⟨o, l1 _ _ h⟩)
    · exact .inr h
  refine ⟨.ref a, rfl, 63, rfl, a, ns.map V.int, rfl, hs1, fun c hc => ⟨c, _, rfl, .inl (.inl (.inl upd_same)), fun l hl2 => ?_⟩⟩
  rw [cut63 hl] at hl2 ⊢
  have l2 := le_new (o := .lst (ns.map V.int)) hc
  have l3 := le_new (o := .lst (ns.map V.int)) hl2
  have ep := l3 _ _ (l2 _ _ (upd_same (H := H) (a := p) (o := .dK [])))
  have npl : p ≠ l := fun z => by
    have e2 := l2 _ _ (upd_same (H := H) (a := p) (o := .dK []))
    exact ne_of_none e2 hl2 z
  refine ⟨ep, [(Sum.inr "cells", .ref l), (Sum.inr "at", .int 0), (Sum.inr "left", .int 0), (Sum.inr "turn", .int 0)], rfl, by show 4 ≤ 15; decide, ?_⟩
  have em : mergeK [] [((Sum.inr "cells" : Key), V.ref l), (Sum.inr "at", .int 0), (Sum.inr "left", .int 0), (Sum.inr "turn", .int 0)] = [((Sum.inr "cells" : Key), V.ref l), (Sum.inr "at", .int 0), (Sum.inr "left", .int 0), (Sum.inr "turn", .int 0)] := rfl
  rw [em]
  refine q p l _ (fun x o e => ?_) npl upd_same ?_
  · have e2 := l3 _ _ (l2 _ _ (l1 _ _ e))
    rw [upd_ne (ne_of_none e hp)]
    exact e2
  · rw [upd_ne npl.symm]
    exact upd_same
/-! the law -/
def spLaw (K : PySem.W.Frag) : Sp := fun vs H Q _ => ∃ (a : Addr) (ns : List Int), vs = [.ref a] ∧ SqL K H a (ns.map V.int) ∧ ns.length ≤ 63 ∧ ∀ G, Q (.bl true) G
def feed0 (ns : List Int) : Feed := ⟨ns, 0, 0, 0⟩
/-- from the feed on -/
def tLaw (K : PySem.W.Frag) (mg : Str → Option Value) (s : Sm) : TS := tDS K mg (fun _ _ _ => False) s
theorem law_rest {K : PySem.W.Frag} {mg : Str → Option Value} {s : Sm} {n : Nat} {fa ca a : Addr} {ns : List Int} {H : Hp} {Q : VK} (N : List Str) (hN : N.length = n + 2) (hfc : fa ≠ ca)
    (h1 : H fa = some (.dK [(Sum.inr "cells", .ref ca), (Sum.inr "at", .int 0), (Sum.inr "left", .int 0), (Sum.inr "turn", .int 0)])) (h2 : H ca = some (.lst (ns.map V.int)))
    (fin : ∃ f, s (.emp :: .feed :: List.replicate n .emp) (feed0 ns) = .ok (.rt (.dat (.bool true))) f) (q : ∀ G, Q (.bl true) G) :
    tDS K mg (fun _ _ _ => False) s { nx := fun _ G => Q .non G, rt := Q } ((L2.start N [.ref a]).set 1 (some (.ref fa))) H := by
  obtain ⟨f, e⟩ := fin
  have hs : (L2.start N [.ref a]).set 1 (some (.ref fa)) = some (.ref a) :: some (.ref fa) :: List.replicate n none := by
    unfold L2.start
    rw [hN]
    rfl
  rw [hs]
  refine ⟨⟨fa, ca, H, fun b => if b = ca then H ca else none⟩, fun b => if b = ca then H ca else none, .emp :: .feed :: List.replicate n .emp, feed0 ns, ⟨fun b o z => ?_, ⟨h1, ?_, ?_⟩, fun _ _ _ z => z, Le.refl _, fun _ _ z => z, ?_, fun i x z => ?_, fun i j ds es z => ?_, fun i j ds es z => ?_⟩, ?_⟩
  · by_cases c : b = ca
    · rw [if_pos c] at z
      rw [c]
      exact z
    · rw [if_neg c] at z
      cases z
  · exact if_neg hfc
  · show (if ca = ca then H ca else none) = _
    rw [if_pos rfl]
    exact h2
  · simp
  · match i, z with
    | 0, z => cases z; trivial
    | 1, z => cases z; rfl
    | i + 2, z =>
      have z2 : (List.replicate n Slot.emp)[i]? = some x := z
      rw [rep_get z2]
      trivial
  · match i, z with
    | 0, z => cases z
    | 1, z => cases z
    | i + 2, z =>
      have z2 : (List.replicate n Slot.emp)[i]? = some (.own ds) := z
      cases rep_get z2
  · match i, z with
    | 0, z => cases z
    | 1, z => cases z
    | i + 2, z =>
      have z2 : (List.replicate n Slot.emp)[i]? = some (.dct ds) := z
      cases rep_get z2
  · rw [e]
    intro v G GF r
    cases (show DR K GF v (.bool true) from r.val)
    exact q G
section
variable {P : Program} {w : World} {K : PySem.W.Frag} {mg mb : Str → Option Value} {k : Nat} {fa a : Addr} {fd : FuncData} {x : Str} {s : Shared} {vs : List Value} {ns : List Int}
/-- the call of the law's def, at the heap behind the top -/
theorem law_go (KX : K.In s.heap) (hns : s.heap.Ns mainGlobals mg) (hb : s.heap.Ns builtinsNs mb) (hbb : ∀ x : Str, x ≠ "__name__" → mb x = bootBuiltins x) (hlim : s.heap.NoLimit) (hg : s.gens = #[])
    (ha : s.heap.get? a = some { cls := .type "list", data := .seq vs.toArray }) (hi : PyProof.Rows.IntsAre vs ns) (hl : ns.length ≤ 63) (hr : Room k callerA)
    (F : ∀ base : Heap, K.In base → base.Ns mainGlobals mg → FnG P w K mg base CX0 k fa fd [x] (spLaw K)) (bnd : ∀ (s : Shared) (u : Value), BindsTo s fd ⟨[u], []⟩ [(x, u)]) :
    codeAny (model P w) callerA (.call (.ref fa) ⟨[.ref a], []⟩) (fun r s2 => r = .ok (.ret (.bool true)) ∧ OldK s.heap s2.heap ∧ s2.os = s.os ∧ PyProof.Rows.AllBare s2.gens) s := by
  have rv := L2.vals_ints hi
  have go : ∀ H : Hp, Only H → SqL K H a (ns.map V.int) → HOk P w H s.heap → (∀ b, H b ≠ none → b = a ∧ K.lookup a = none) →
      codeAny (model P w) callerA (.call (.ref fa) ⟨[.ref a], []⟩) (fun r s2 => r = .ok (.ret (.bool true)) ∧ OldK s.heap s2.heap ∧ s2.os = s.os ∧ PyProof.Rows.AllBare s2.gens) s := by
    intro H hO hS hok hA
    have nodict : ∀ {b : Addr} {o : Obj} {es : Array DictEntry} {ep : Nat}, s.heap.get? b = some o → o.data = .dict es ep → H b = none := by
      intro b o es ep e d
      cases q : H b with
      | none => rfl
      | some u =>
        obtain ⟨e2, _⟩ := hA b (by rw [q]; exact Option.some_ne_none _)
        subst e2
        rw [ha] at e
        cases e
        cases (show Data.seq vs.toArray _ = Data.dict es ep from d)
    have nsB : ∀ {b : Addr} {m : Str → Option Value}, s.heap.Ns b m → (hidT s.heap H).Ns b m := by
      rintro b m ⟨o, es, ep, e, d, r⟩
      exact ⟨o, es, ep, hidT_get e (nodict e d), d, r⟩
    have KB : K.In (hidT s.heap H) := by
      intro b o e
      refine hidT_get (KX b o e) ?_
      cases q : H b with
      | none => rfl
      | some u =>
        obtain ⟨e2, e3⟩ := hA b (by rw [q]; exact Option.some_ne_none _)
        subst e2
        rw [e3] at e
        cases e
    obtain ⟨mc, n1, n2⟩ := hlim
    have env : Env0 P w K mg (hidT s.heap H) callerA [] s H := {
      frames := rfl
      mod := ⟨KB, nsB hns, ⟨mb, nsB hb, hbb⟩, ⟨mc, nsB n1, n2⟩⟩
      bs := fun b o e => of_hidT e
      bsz := Nat.le_of_eq (hidT_size _ _)
      funs := trivial
      frf := fun b hb => by cases (show b ∈ ([] : List Addr) from hb)
      hok := hok
      bare := .of_eq hg }
    refine codeAny_mono ((F _ KB (nsB hns)).go callerA [] s H ⟨[.ref a], []⟩ [.ref a] [.ref a] (fun v _ => v = .bl true) (fun _ _ _ => False) rfl hr env (bnd s (.ref a)) (.cons rfl .nil) ⟨a, ns, rfl, hS, hl, fun _ => rfl⟩) ?_
    intro r s2 h
    cases r with
    | error e => exact (show False from h).elim
    | ok fl =>
      cases fl with
      | next => exact (show False from h).elim
      | brk => exact (show False from h).elim
      | cont => exact (show False from h).elim
      | ret u =>
        obtain ⟨v, G, os, bare, un, hok2, r2, q⟩ := h
        obtain rfl : v = .bl true := q
        obtain rfl : u = Value.bool true := r2
        refine ⟨rfl, OldK.of_keep ?_, os, bare⟩
        intro b o e
        cases q : H b with
        | none => exact un.keep b o e q (fun z => by cases (show b ∈ ([] : List Addr) from z)) (fun z => by cases z)
        | some u =>
          rcases hO b with z | ⟨ob, xs, z⟩
          · rw [q] at z
            cases z
          · have e1 := (hok b _ z).1
            have e2 := (hok2 b _ (un.frzs b ob _ z)).1
            rw [e] at e1
            cases e1
            exact e2
  cases hk : K.lookup a with
  | some o =>
    have e := KX a o hk
    rw [ha] at e
    cases e
    refine go (fun _ => none) (fun _ => .inl rfl) (.inr ⟨_, vs.toArray, _, hk, rfl, rfl, rfl, ?_, rv⟩) (fun b u z => by cases z) (fun b z => absurd rfl z)
    rw [List.size_toArray, hi.length]
    exact Nat.le_trans hl (by decide)
  | none =>
    let o : Obj := { cls := .type "list", data := .seq vs.toArray }
    refine go (fun b => if b = a then some (.frz o (.lst (ns.map V.int))) else none) (fun b => ?_) (.inl (.inr ⟨o, if_pos rfl⟩)) (fun b u z => ?_) (fun b z => ?_)
    · by_cases c : b = a
      · exact .inr ⟨_, _, if_pos c⟩
      · exact .inl (if_neg c)
    · by_cases c : b = a
      · subst c
        replace z : (if b = b then some (HO.frz o (.lst (ns.map V.int))) else none) = some u := z
        rw [if_pos rfl] at z
        cases z
        exact ⟨ha, by rw [List.length_map]; exact Nat.le_trans hl (by decide), vs, _, rv, ha⟩
      · replace z : (if b = a then some (HO.frz o (.lst (ns.map V.int))) else none) = some u := z
        rw [if_neg c] at z
        cases z
    · by_cases c : b = a
      · exact ⟨c, hk⟩
      · exact absurd (if_neg c) z
end
/-- what k_head leaves -/
theorem walkG {l : PySem.W.OpenLaw} {k : Nat} {q : Program} {loose : List Str} {XP : (Str → Option Value) → Heap → Prop} {YP : World → Heap → Prop} {d : DefRec} {K : Params → PySem.W.Frag} {x : Str}
    (hn : l.most = some 63) (hdf : d.params.defaults = []) (hr : Room k callerA) (hY : ∀ (w : World) (h : Heap), YP w h → (K w.params).In h)
    (F : ∀ (w : World) (mg : Str → Option Value) (fa : Addr) (h : Heap), (K w.params).In h → h.Ns mainGlobals mg → mg d.name = some (.ref fa) →
      ∃ fd : FuncData, (∀ (s : Shared) (u : Value), BindsTo s fd ⟨[u], []⟩ [(x, u)]) ∧
        ∀ base : Heap, (K w.params).In base → base.Ns mainGlobals mg → FnG l.prog w (K w.params) mg base CX0 k fa fd [x] (spLaw (K w.params))) :
    PySem.W.WalkO q loose XP YP l.row.toRowW d [] (fun f vs => PySem.call f vs) := by
  refine Att.attach_call hn hdf ?_
  intro w s0 s1 mg mb fa o pm cd doc a vs ns G Y ho hd hcd hmg hobj hints hlen hg
  obtain ⟨fd, hb, hF⟩ := F w mg fa _ (hY w _ Y) G.T.g hmg
  exact law_go (hY w _ Y) G.T.g G.T.b G.T.builtins G.T.nolimit hg hobj hints hlen hr hF hb
end Dn

end
section
set_option maxHeartbeats 4000000
/-! the rules as a printer writes them -/
namespace Dn
open PySem PySem.Spec L2
section
variable {X : Cx} {W : Wish} {a b : Expr} {fa fb : Ex} {pos : Pos}
theorem de_add (ha : DE X W a fa) (hb : DE X W b fb) : DE X W (.BinOp a .Add b pos) (cBin oAdd fa fb) := de_bin (op_add.or (op_cat.or (op_catA.or op_add_str))) (intsI_ok.or (catL_ok.or (catT_ok.or catS_ok))) ha hb
theorem de_sub (ha : DE X W a fa) (hb : DE X W b fb) : DE X W (.BinOp a .Sub b pos) (cBin oSub fa fb) := de_bin op_sub intsI_ok ha hb
theorem mulC_of {i j : Int} (h : mulC i j = true) : CMulW i j := show i.natAbs.log2 + j.natAbs.log2 < 1000000 from of_decide_eq_true h
theorem divC_of {i j : Int} (h : divC i j = true) : CDivW i j := by
  obtain ⟨h1, h2⟩ := Bool.and_eq_true_iff.mp h
  exact ⟨of_decide_eq_true h1, of_decide_eq_true h2⟩
theorem powC_of {i j : Int} (h : powC i j = true) : CPow i j := by
  obtain ⟨h1, h2⟩ := Bool.and_eq_true_iff.mp h
  obtain ⟨h3, h4⟩ := Bool.and_eq_true_iff.mp h1
  exact ⟨of_decide_eq_true h3, of_decide_eq_true h4, of_decide_eq_true h2⟩
theorem de_mul (ha : DE X W a fa) (hb : DE X W b fb) : DE X W (.BinOp a .Mult b pos) (cBin oMul fa fb) := de_bin (op_mulW.or (op_rep.or op_repA)) ((intsOp_ok fun _ _ => mulC_of).or (repL_ok.or repT_ok)) ha hb
theorem de_fdiv (ha : DE X W a fa) (hb : DE X W b fb) : DE X W (.BinOp a .FloorDiv b pos) (cBin oDiv fa fb) := de_bin op_fdivW (intsOp_ok fun _ _ => divC_of) ha hb
theorem de_mod (ha : DE X W a fa) (hb : DE X W b fb) : DE X W (.BinOp a .Mod b pos) (cBin oMod fa fb) := de_bin op_mod (intsOp_ok fun _ _ h => of_decide_eq_true h) ha hb
theorem de_pow (ha : DE X W a fa) (hb : DE X W b fb) : DE X W (.BinOp a .Pow b pos) (cBin oPow fa fb) := de_bin op_pow (intsOp_ok fun _ _ => powC_of) ha hb
theorem de_neg (ha : DE X W a fa) : DE X W (.UnaryOp .USub a pos) (cUn oNeg fa) := de_un un_neg oNeg_ok ha
theorem op_leA (hu : X.A.units + 64 < cLine) : OpR X (compareOp .LtE) (fun x y H Q => rI0 (fun i j => .bl (decide (i ≤ j))) x y H Q ∨ rLeT X.K x y H Q) := op_le.or (op_leT (by omega))
theorem leA_ok {K : PySem.W.Frag} : BinOk K (fun x y H Q => rI0 (fun i j => .bl (decide (i ≤ j))) x y H Q ∨ rLeT K x y H Q) oLeA := intsB_ok.or leT_ok
theorem op_eqA (hu : X.A.units + 64 < cLine) : OpR X (compareOp .Eq) (fun x y H Q => rEq x y H Q ∨ rEqD X.K x y H Q) := op_eq.or (op_eqD hu)
theorem op_neA (hu : X.A.units + 64 < cLine) : OpR X (compareOp .NotEq) (fun x y H Q => rNe x y H Q ∨ rNeD X.K x y H Q) := op_ne.or (op_neD hu)
/-! comparisons: as a value, as a test -/
theorem de_eq (hu : X.A.units + 64 < cLine) (ha : DE X W a fa) (hb : DE X W b fb) : DE X W (.Compare a [.Eq] [b] pos) (cBin oEq fa fb) := de_cmp (op_eqA hu) oEq_ok ha hb (nomark _)
theorem de_ne (hu : X.A.units + 64 < cLine) (ha : DE X W a fa) (hb : DE X W b fb) : DE X W (.Compare a [.NotEq] [b] pos) (cBin oNe fa fb) := de_cmp (op_neA hu) oNe_ok ha hb (nomark _)
theorem de_lt (ha : DE X W a fa) (hb : DE X W b fb) : DE X W (.Compare a [.Lt] [b] pos) (cBin oLt fa fb) := de_cmp op_lt intsB_ok ha hb (nomark _)
theorem de_le (hu : X.A.units + 64 < cLine) (ha : DE X W a fa) (hb : DE X W b fb) : DE X W (.Compare a [.LtE] [b] pos) (cBin oLeA fa fb) := de_cmp (op_leA hu) leA_ok ha hb (nomark _)
theorem de_gt (ha : DE X W a fa) (hb : DE X W b fb) : DE X W (.Compare a [.Gt] [b] pos) (cBin oGt fa fb) := de_cmp op_gt intsB_ok ha hb (nomark _)
theorem de_ge (ha : DE X W a fa) (hb : DE X W b fb) : DE X W (.Compare a [.GtE] [b] pos) (cBin oGe fa fb) := de_cmp op_ge intsB_ok ha hb (nomark _)
theorem de_in (ha : DE X W a fa) (hb : DE X W b fb) (hm : behindInMarks .In b = false := by rfl) : DE X W (.Compare a [.In] [b] pos) (cBin (oInF false) fa fb) := de_cmp op_in_seq oInF_ok ha hb hm
theorem de_nin (ha : DE X W a fa) (hb : DE X W b fb) (hm : behindInMarks .NotIn b = false := by rfl) : DE X W (.Compare a [.NotIn] [b] pos) (cBin (oInF true) fa fb) := de_cmp op_notIn_seq oInF_ok ha hb hm
theorem de_isN (ha : DE X W a fa) {j p2} : DE X W (.Compare a [.Is] [.Constant .none j p2] pos) (cBin (oIsN false) fa (cC .none)) := de_cmp op_isN isN_ok ha de_non (nomark _)
theorem de_notN (ha : DE X W a fa) {j p2} : DE X W (.Compare a [.IsNot] [.Constant .none j p2] pos) (cBin (oIsN true) fa (cC .none)) := de_cmp op_notN notN_ok ha de_non (nomark _)
theorem de_isB (ha : DE X W a fa) (hb : DE X W b fb) : DE X W (.Compare a [.Is] [b] pos) (cBin (oIsB false) fa fb) := de_cmp op_isBl isB_ok ha hb (nomark _)
theorem de_notB (ha : DE X W a fa) (hb : DE X W b fb) : DE X W (.Compare a [.IsNot] [b] pos) (cBin (oIsB true) fa fb) := de_cmp op_notBl notB_ok ha hb (nomark _)
theorem dt_eq (hu : X.A.units + 64 < cLine) (ha : DE X W a fa) (hb : DE X W b fb) : DT X W (.Compare a [.Eq] [b] pos) (cT (cBin oEq fa fb)) := dt_cmp (op_eqA hu) oEq_ok ha hb (nomark _)
theorem dt_ne (hu : X.A.units + 64 < cLine) (ha : DE X W a fa) (hb : DE X W b fb) : DT X W (.Compare a [.NotEq] [b] pos) (cT (cBin oNe fa fb)) := dt_cmp (op_neA hu) oNe_ok ha hb (nomark _)
theorem dt_lt (ha : DE X W a fa) (hb : DE X W b fb) : DT X W (.Compare a [.Lt] [b] pos) (cT (cBin oLt fa fb)) := dt_cmp op_lt intsB_ok ha hb (nomark _)
theorem dt_le (hu : X.A.units + 64 < cLine) (ha : DE X W a fa) (hb : DE X W b fb) : DT X W (.Compare a [.LtE] [b] pos) (cT (cBin oLeA fa fb)) := dt_cmp (op_leA hu) leA_ok ha hb (nomark _)
theorem dt_gt (ha : DE X W a fa) (hb : DE X W b fb) : DT X W (.Compare a [.Gt] [b] pos) (cT (cBin oGt fa fb)) := dt_cmp op_gt intsB_ok ha hb (nomark _)
theorem dt_ge (ha : DE X W a fa) (hb : DE X W b fb) : DT X W (.Compare a [.GtE] [b] pos) (cT (cBin oGe fa fb)) := dt_cmp op_ge intsB_ok ha hb (nomark _)
theorem dt_in (ha : DE X W a fa) (hb : DE X W b fb) (hm : behindInMarks .In b = false := by rfl) : DT X W (.Compare a [.In] [b] pos) (cT (cBin (oInF false) fa fb)) := dt_cmp op_in_seq oInF_ok ha hb hm
theorem dt_nin (ha : DE X W a fa) (hb : DE X W b fb) (hm : behindInMarks .NotIn b = false := by rfl) : DT X W (.Compare a [.NotIn] [b] pos) (cT (cBin (oInF true) fa fb)) := dt_cmp op_notIn_seq oInF_ok ha hb hm
theorem dt_isN (ha : DE X W a fa) {j p2} : DT X W (.Compare a [.Is] [.Constant .none j p2] pos) (cT (cBin (oIsN false) fa (cC .none))) := dt_cmp op_isN isN_ok ha de_non (nomark _)
theorem dt_notN (ha : DE X W a fa) {j p2} : DT X W (.Compare a [.IsNot] [.Constant .none j p2] pos) (cT (cBin (oIsN true) fa (cC .none))) := dt_cmp op_notN notN_ok ha de_non (nomark _)
theorem dt_isB (ha : DE X W a fa) (hb : DE X W b fb) : DT X W (.Compare a [.Is] [b] pos) (cT (cBin (oIsB false) fa fb)) := dt_cmp op_isBl isB_ok ha hb (nomark _)
theorem dt_notB (ha : DE X W a fa) (hb : DE X W b fb) : DT X W (.Compare a [.IsNot] [b] pos) (cT (cBin (oIsB true) fa fb)) := dt_cmp op_notBl notB_ok ha hb (nomark _)
end
section
variable {X : Cx} {W : Wish} {a b : Expr} {fa fb : Ex} {p pos : Pos}
theorem de_abs (hg : Gl X "abs") (hm : X.mg "abs" = none) (ha : DE X W a fa) (he : starEach [a] X.env = (false, eval a X.env) :: starEach [] X.env := by rfl) : DE X W (.Call (.Name "abs" p) [a] [] pos) (cUn oAbs fa) :=
  de_call1 call_abs oAbs_ok hg hm (by decide +kernel) ha (by decide) (by decide) he
theorem de_len (hg : Gl X "len") (hm : X.mg "len" = none) (ha : DE X W a fa) (he : starEach [a] X.env = (false, eval a X.env) :: starEach [] X.env := by rfl) : DE X W (.Call (.Name "len" p) [a] [] pos) (cUn oLen fa) :=
  de_call1 call_len_seq oLen_ok hg hm (by decide +kernel) ha (by decide) (by decide) he
theorem de_sum (hc : X.calm = true) (hg : Gl X "sum") (hm : X.mg "sum" = none) (ha : DE X W a fa) (he : starEach [a] X.env = (false, eval a X.env) :: starEach [] X.env := by rfl) : DE X W (.Call (.Name "sum" p) [a] [] pos) (cUn oSum fa) :=
  de_call1 (cr_sum hc) oSum_ok hg hm (by decide +kernel) ha (by decide) (by decide) he
theorem de_repr (gd : X.A.guards = some []) (hu : X.A.units + 64 < cLine) (hg : Gl X "repr") (hm : X.mg "repr" = none) (ha : DE X W a fa) (he : starEach [a] X.env = (false, eval a X.env) :: starEach [] X.env := by rfl) : DE X W (.Call (.Name "repr" p) [a] [] pos) (cUn oRepr fa) :=
  de_call1 (call_repr gd hu) oRepr_ok hg hm (by decide +kernel) ha (by decide) (by decide) he
theorem de_int1 (hg : Gl X "int") (hm : X.mg "int" = none) (ha : DE X W a fa) (he : starEach [a] X.env = (false, eval a X.env) :: starEach [] X.env := by rfl) : DE X W (.Call (.Name "int" p) [a] [] pos) (cUn oInt fa) :=
  de_callTy1 call_int1 oInt_ok hg hm (by decide +kernel) ha (by decide) (by decide) he
theorem de_tuple (hg : Gl X "tuple") (hm : X.mg "tuple" = none) (ha : DE X W a fa) (he : starEach [a] X.env = (false, eval a X.env) :: starEach [] X.env := by rfl) : DE X W (.Call (.Name "tuple" p) [a] [] pos) (cUn oTuple fa) :=
  de_callTy1 call_tuple_of oTuple_ok hg hm (by decide +kernel) ha (by decide) (by decide) he
theorem de_list (hg : Gl X "list") (hm : X.mg "list" = none) (ha : DE X W a fa) (he : starEach [a] X.env = (false, eval a X.env) :: starEach [] X.env := by rfl) : DE X W (.Call (.Name "list" p) [a] [] pos) (cUn oList fa) :=
  de_callTy1 call_list_of oList_ok hg hm (by decide +kernel) ha (by decide) (by decide) he
theorem de_max2 (hc : X.calm = true) (hg : Gl X "max") (hm : X.mg "max" = none) (ha : DE X W a fa) (hb : DE X W b fb) (he : starEach [a, b] X.env = (false, eval a X.env) :: starEach [b] X.env := by rfl)
    (he2 : starEach [b] X.env = (false, eval b X.env) :: starEach [] X.env := by rfl) (hpl : (backTo pos (starEach [b] X.env)).any (·.1) = false := by rfl) : DE X W (.Call (.Name "max" p) [a, b] [] pos) (cBin oMax fa fb) :=
  de_call2 (call_max2 hc) oMax_ok hg hm (by decide +kernel) ha hb (by decide) (by decide) he he2 hpl
theorem de_min2 (hc : X.calm = true) (hg : Gl X "min") (hm : X.mg "min" = none) (ha : DE X W a fa) (hb : DE X W b fb) (he : starEach [a, b] X.env = (false, eval a X.env) :: starEach [b] X.env := by rfl)
    (he2 : starEach [b] X.env = (false, eval b X.env) :: starEach [] X.env := by rfl) (hpl : (backTo pos (starEach [b] X.env)).any (·.1) = false := by rfl) : DE X W (.Call (.Name "min" p) [a, b] [] pos) (cBin oMin fa fb) :=
  de_call2 (call_min2 hc) oMin_ok hg hm (by decide +kernel) ha hb (by decide) (by decide) he he2 hpl
end
/-! all(list of truths) -/
def boolsOf : List PyData → Option (List Bool)
  | [] => some []
  | .bool b :: r => (boolsOf r).map (b :: ·)
  | _ :: _ => none
theorem boolsOf_some : ∀ {ds : List PyData} {bs : List Bool}, boolsOf ds = some bs → ds = bs.map PyData.bool
  | [], bs, h => by cases h; rfl
  | d :: r, bs, h => by
    cases d <;> try cases h
    rename_i b
    cases q : boolsOf r with
    | none =>
      simp only [boolsOf, q] at h
      cases h
    | some ms =>
      simp only [boolsOf, q] at h
      cases h
      rw [List.map_cons, ← boolsOf_some q]
theorem DRs.toBools {K : PySem.W.Frag} {H : Hp} : ∀ {bs : List Bool} {vs : List V}, DRs K H vs (bs.map PyData.bool) → vs = bs.map V.bl
  | [], _, .nil => rfl
  | b :: r, _, .cons h t => by
    cases h
    rw [List.map_cons, ← DRs.toBools t]
def oAll : Op1 := fun d => match d with
  | .list xs => (boolsOf xs).map fun bs => .dat (.bool (bs.all id))
  | _ => none
theorem oAll_ok {K : PySem.W.Frag} : UnOk K (fun v H Q => rAll K [v] H Q) oAll := fun g H HF f x d rv a t z Q k => by
  cases d <;> try cases z
  rename_i xs
  unfold oAll at z
  cases q : boolsOf xs with
  | none => simp only [q] at z; cases z
  | some bs =>
    simp only [q] at z
    cases z
    have e1 := boolsOf_some q
    subst e1
    obtain ⟨p, vs, rfl, hp, rp⟩ := t.lst a.sub
    have v1 := rp.toBools
    subst v1
    exact ⟨p, bs, rfl, .inl (.inl hp), k.now a (.bl _)⟩
theorem de_all {X : Cx} {W : Wish} {a : Expr} {fa : Ex} {p pos : Pos} (hc : X.calm = true) (hg : Gl X "all") (hm : X.mg "all" = none) (ha : DE X W a fa) (he : starEach [a] X.env = (false, eval a X.env) :: starEach [] X.env := by rfl) : DE X W (.Call (.Name "all" p) [a] [] pos) (cUn oAll fa) :=
  de_call1 (cr_all hc) oAll_ok hg hm (by decide +kernel) ha (by decide) (by decide) he
/-! targets -/
section
variable {X : Cx} {es : List Expr} {l : List Nat} {i : Nat} {y : Str} {pos : Pos}
abbrev DG (X : Cx) (tg : Expr) (T : Tgt) : Prop := PG X tg (T.rd X.K)
theorem dg_one (hN : X.N.Nodup) (hi : X.N[i]? = some y) (hx : Loc X.env.scope y) (hf : X.fn y = true ∨ X.env.scope.names.lookup y = some .local := by first | exact .inl rfl | exact .inr rfl | assumption) : DG X (.Name y pos) (.one i) := pg_name hN hi hx hf
theorem dga_nil : PGs X [] (gAll []) := pgs_nil
theorem dga_cons {e : Expr} (h : PG X e (gName i)) (h2 : PGs X es (gAll l)) (hs : (assignEach (e :: es) X.env).map (·.2) = assign e X.env :: (assignEach es X.env).map (·.2) := by rfl) : PGs X (e :: es) (gAll (i :: l)) := pgs_cons h h2 hs
theorem dg_many {k : Nat} (hc : X.calm = true) (h : PGs X es (gAll l)) (hn : (assignEach es X.env).length = l.length := by rfl) (hst : (assignEach es X.env).findIdx? (·.1) = none := by rfl) : DG X (.Tuple es k pos) (.many l) := pg_tup hc h hn hst
end
/-! a def that is there -/
def Has (P : Program) (w : World) (K : PySem.W.Frag) (mg : Str → Option Value) (base : Heap) (k : Nat) (x : Str) (ps : List Str) (F : Fn) : Prop :=
  ∃ f fd, mg x = some (.ref f) ∧ PySem.W.keepIn K (.ref f) = true ∧ Binds K fd ps [] ∧ FnG P w K mg base CX0 k f fd ps (spD K mg ps.length F) ∧ ∀ as f c v f2, F as f ≠ .ex c v f2
/-- its text as it stands behind the top -/
structure Src (K : PySem.W.Frag) (mg : Str → Option Value) (x qual : Str) (st : Stmt) (ps : List Str) : Prop where
  src : ∃ f fd, mg x = some (.ref f) ∧ Fun K qual qual st f fd ∧ Binds K fd ps []
theorem Has.named {P : Program} {w : World} {K : PySem.W.Frag} {mg : Str → Option Value} {base : Heap} {k : Nat} {x y : Str} {ps : List Str} {F : Fn} (h : Has P w K mg base k x ps F) (e : mg y = mg x) : Has P w K mg base k y ps F := by
  obtain ⟨f, fd, h1, h2⟩ := h
  exact ⟨f, fd, e.trans h1, h2⟩
theorem has_mk {P : Program} {w : World} {K : PySem.W.Frag} {mg : Str → Option Value} {base : Heap} {x qual : Str} {st : Stmt} {N ps : List Str} {k : Nat} {s : Sm} (T : Src K mg x qual st ps) (S : FnScope N ps (defScope st))
    (body : ∀ (f : Addr) (cdv : Value) (A : Around) (outer : List Env) (s0 : Shared) (H : Hp) (E : XK), A.guards = some [] → Room k (A.deeper (PyProof.Rows.envOfC qual (defScope st) s0.heap.objs.size f cdv)) →
      DSs (cxOf CX0 P w K mg base N qual (defScope st) f cdv A outer s0 H E).nox (fun _ _ _ => False) (defBody st) s) : Has P w K mg base (k + 1) x ps (dBody N.length s) := by
  obtain ⟨f, fd, hm, F, hb⟩ := T.src
  exact ⟨f, fd, hm, F.kp, hb, fnD F S fun X _ _ _ _ _ _ ⟨cdv, A, outer, s0, H, E, gd, room, e⟩ => e ▸ body f cdv A outer s0 H E gd room, dBody_noex _ _⟩
theorem de_has {X : Cx} {W : Wish} {k : Nat} {x : Str} {ps : List Str} {F : Fn} {p pos : Pos} {e : Expr} {es : List Expr} {xs : List Ex} (h : Has X.prog X.w X.K X.mg X.base k x ps F) (gd : X.A.guards = some []) (hr : Room k X.A) (hg : Gl X x)
    (ha : DA X W (e :: es) xs) (hn : xs.length = ps.length := by rfl) (hdb : (x == ("__debug__" : Str)) = false := by decide) (he : starEach (e :: es) X.env = (false, eval e X.env) :: starEach es X.env := by rfl) (hpl : (backTo pos (starEach es X.env)).any (·.1) = false := by rfl) :
    DE X W (.Call (.Name x p) (e :: es) [] pos) (cCall F xs) := by
  obtain ⟨f, fd, hm, hk, hb, G, hno⟩ := h
  exact de_call G gd hr hg hm hk hb ha hno hn hdb he hpl
end Dn

end
section
set_option maxHeartbeats 4000000
/-! what the top has written -/
namespace Dn
open PySem PySem.Spec L2
theorem hu1 {n : Nat} (h : n + 64 < cLine) : n + 1 < cLine := by omega
theorem src_mk {K : PySem.W.Frag} {h : Heap} {mg : Str → Option Value} {x qual : Str} {st : Stmt} {ps : List Str} {f : Addr} {od an : Option Addr} {sl : Array (Option Value)} {oc kV dc pm cd ct : Value} (X : K.In h) (G : h.Ns mainGlobals mg)
    (a1 : PySem.W.nsIn K mainGlobals x = some (some (.ref f))) (l1 : K.lookup f = some ⟨oc, od, .func (PySem.W.fnOf qual qual (defArgs st) (defBody st) (defScope st) .none kV dc pm an cd ct), sl⟩) (c1 : PySem.W.codeIn K cd qual = true) (k1 : PySem.W.keepIn K (.ref f) = true)
    (hb : ∀ (kV doc pm : Value) (an : Option Addr) (cdv ct : Value) (us : List Value), us.length = ps.length → bindArgs (PySem.W.fnOf qual qual (defArgs st) (defBody st) (defScope st) .none kV doc pm an cdv ct) ⟨us, []⟩ = pure (ps.zip us)) : Src K mg x qual st ps :=
  ⟨⟨f, _, PySem.W.mg_of X G a1, fun_mk l1 c1 k1, (fun_mk l1 c1 k1).binds hb⟩⟩
theorem same_mk {K : PySem.W.Frag} {h : Heap} {mg : Str → Option Value} {x y : Str} {f : Value} (X : K.In h) (G : h.Ns mainGlobals mg) (a : PySem.W.nsIn K mainGlobals x = some (some f)) (b : PySem.W.nsIn K mainGlobals y = some (some f)) : mg x = mg y :=
  (PySem.W.mg_of X G a).trans (PySem.W.mg_of X G b).symm
theorem rat_mk {K : PySem.W.Frag} {h : Heap} {mg : Str → Option Value} {x : Str} {a : Addr} {od : Option Addr} {i j : Int} {t u : Tok} {n : Nat} {sl : Array (Option Value)} (X : K.In h) (G : h.Ns mainGlobals mg) (e : PySem.W.nsIn K mainGlobals x = some (some (.ref a))) (l : K.lookup a = some ⟨.type "tuple", od, .seq #[.int i t, .int j u] n, sl⟩) :
    ∃ a, mg x = some (.ref a) ∧ ∀ HF, DR K HF (.ref a) (.tuple [.int i, .int j]) := ⟨a, PySem.W.mg_of X G e, DR.ratK l⟩
theorem int_mk {K : PySem.W.Frag} {h : Heap} {mg : Str → Option Value} {x : Str} {i : Int} {t : Tok} (X : K.In h) (G : h.Ns mainGlobals mg) (e : PySem.W.nsIn K mainGlobals x = some (some (.int i t))) : ∃ t, mg x = some (.int i t) := ⟨t, PySem.W.mg_of X G e⟩
theorem txt_mk {K : PySem.W.Frag} {h : Heap} {mg : Str → Option Value} {x : Str} {i : Str} {t : Tok} (X : K.In h) (G : h.Ns mainGlobals mg) (e : PySem.W.nsIn K mainGlobals x = some (some (.str i t))) : ∃ t, mg x = some (.str i t) := ⟨t, PySem.W.mg_of X G e⟩
end Dn

end
section
set_option maxHeartbeats 4000000
/-! shifts, three names at once, falling ranges, pop -/
namespace Dn
open PySem PySem.Spec L2
def oShl : Op2 := intsOp powC fun i j => .int (i * 2 ^ j.toNat)
section
variable {X : Cx} {W : Wish} {a b : Expr} {fa fb : Ex} {pos : Pos}
theorem de_shl (ha : DE X W a fa) (hb : DE X W b fb) : DE X W (.BinOp a .LShift b pos) (cBin oShl fa fb) := de_bin op_shl (intsOp_ok fun _ _ => powC_of) ha hb
end
def sPar3 (i j l : Nat) (a b c : Ex) : Sm := fun ρ f => (cArgs [a, b, c] ρ f).bind fun ds f1 => match ds with
  | [d, e, h] => .ok (.nx (((ρ.set i (.dat d)).set j (.dat e)).set l (.dat h))) f1
  | _ => .no
section
variable {X : Cx} {E : XK} {pos : Pos}
theorem ds_par3 {i j l : Nat} {x y z : Str} {ea eb ec : Expr} {xa xb xc : Ex} {px py pz pt : Pos} {kt k2 pt2} (hc : X.calm = true) (hN : X.N.Nodup) (hi : X.N[i]? = some x) (hj : X.N[j]? = some y) (hl : X.N[l]? = some z) (hij : i ≠ j) (hil : i ≠ l) (hjl : j ≠ l)
    (hx : X.env.scope.names.lookup x = some .local) (hy : X.env.scope.names.lookup y = some .local) (hz : X.env.scope.names.lookup z = some .local) (ha : DA X (fun _ => E) [ea, eb, ec] [xa, xb, xc])
    (hw : swappedStores [.Tuple [.Name x px, .Name y py, .Name z pz] kt pt] (.Tuple [ea, eb, ec] k2 pt2) X.env = pure (some [x, y, z]))
    (hs : swapsWithSole [.Tuple [.Name x px, .Name y py, .Name z pz] kt pt] (.Tuple [ea, eb, ec] k2 pt2) pos.line X.env = pure false := by rfl) :
    DS X E (.Assign [.Tuple [.Name x px, .Name y py, .Name z pz] kt pt] (.Tuple [ea, eb, ec] k2 pt2) pos) (sPar3 i j l xa xb xc) := ps_mono (ps_par3 hc hN hi hj hl hij hil hjl hx hy hz ha hw hs) fun D σ H ⟨g, HF, ρ, f, rel, q⟩ =>
  args_readS [xa, xb, xc] rel q fun ds f1 vs G GF r1 s1 drs q1 => by
    cases drs with
    | nil => exact (show False from q1).elim
    | cons h1 t1 =>
      cases t1 with
      | nil => exact (show False from q1).elim
      | cons h2 t2 =>
        cases t2 with
        | nil => exact (show False from q1).elim
        | cons h3 t3 =>
          cases t3 with
          | cons _ _ => exact (show False from q1).elim
          | nil => exact ⟨_, _, _, rfl, (show FinS X.K g D (.nx _) f1 from q1) _ G GF (((r1.putD h1).putD h2).putD h3)⟩
end
/-! range(a, b, -1) -/
def downD (lo : Int) (n : Nat) : List PyData := (List.range n).map fun (k : Nat) => .int (lo + (k : Nat) * (-1))
theorem downD_length {lo : Int} {n : Nat} : (downD lo n).length = n := by simp [downD]
theorem downD_get {lo : Int} {n i : Nat} (h : i < n) : (downD lo n)[i]? = some (.int (lo + (i : Nat) * (-1))) := by
  unfold downD
  rw [List.getElem?_map, List.getElem?_range h]
  rfl
theorem yields_down {K : PySem.W.Frag} {GF : Hp} {lo : Int} {n : Nat} : Yields K (Itc lo (-1) n) GF (downD lo n) where
  go := fun i I IF l1 l2 hi => by
    rw [downD_length] at hi
    exact hi
  yld := fun i I IF x I2 l1 l2 hi y => by
    rw [downD_length] at hi
    obtain ⟨e1, e2⟩ := y
    subst e1
    subst e2
    exact ⟨IF, _, downD_get hi, New.refl l2, .int _⟩
  stop := fun i I IF l1 l2 hi => by
    rw [downD_length] at hi
    exact Nat.le_of_eq hi.symm
def iDown (a b c : Ex) : Ix := fun ρ f => pk (a ρ f) fun d f1 => pk (b ρ f1) fun d2 f2 => pk (c ρ f2) fun d3 f3 => match d, d2, d3 with
  | .int i, .int j, .int k => if (smallI i && smallI j && decide (k = -1)) = true then .ok (downD i (i - j).toNat) f3 else .no
  | _, _, _ => .no
section
variable {X : Cx} {W : Wish} {tg : Expr} {p pos : Pos} {e e2 e3 : Expr} {x y z : Ex}
theorem di_down (hg : Gl X "range") (hm : X.mg "range" = none) (h : DE X W e x) (h2 : DE X W e2 y) (h3 : DE X W e3 z) (hs : starEach [e, e2, e3] X.env = (false, eval e X.env) :: starEach [e2, e3] X.env := by rfl)
    (hs2 : starEach [e2, e3] X.env = (false, eval e2 X.env) :: starEach [e3] X.env := by rfl) (hs3 : starEach [e3] X.env = (false, eval e3 X.env) :: starEach [] X.env := by rfl) (hpl : (backTo pos (starEach [e2, e3] X.env)).any (·.1) = false := by rfl) :
    DI X W tg (.Call (.Name "range" p) [e, e2, e3] [] pos) (iDown x y z) :=
  pi_mono (pi_range3 hg hm (pa_cons h (pa_cons h2 (pa_cons h3 pa_nil hs3) hs2) hs) hs hpl) fun σ H Z ⟨g, HF, ρ, f, rel, q⟩ => tD_pk rel q fun d f1 v G GF r1 s1 t1 q1 => tD_pk r1 q1 fun d2 f2 w I IF r2 s2 t2 q2 => tD_pk r2 q2 fun d3 f3 u J JF r3 s3 t3 q3 => by
    cases d <;> cases d2 <;> cases d3 <;> try exact (show False from q3).elim
    rename_i i j k
    simp only at q3
    by_cases c : (smallI i && smallI j && decide (k = -1)) = true
    · rw [if_pos c] at q3
      obtain ⟨c0, c3⟩ := Bool.and_eq_true_iff.mp c
      obtain ⟨c1, c2⟩ := Bool.and_eq_true_iff.mp c0
      have e1 := t1.int
      have e2 := t2.int
      have e3 := t3.int
      have e4 : k = -1 := of_decide_eq_true c3
      subst e1
      subst e2
      subst e3
      subst e4
      exact ⟨i, j, -1, (i - j).toNat, rfl, RgC.neg (smallI_of c1).1 (smallI_of c1).2 (smallI_of c2).1 (smallI_of c2).2, (show ∀ J G2 GF2, Step g H HF G2 GF2 → FeedAt g G2 GF2 f3 → Yields X.K J GF2 (downD i (i - j).toNat) → Z J G2 from q3) _ J JF (s1.trans r1.feed (s2.trans r2.feed s3)) r3.feed yields_down⟩
    · rw [if_neg c] at q3
      exact (show False from q3).elim
end
/-! the last one goes out -/
def popped (i : Nat) (ρ : Rho) : Option (PyData × Rho) := match ρ[i]? with
  | some (.own ds) => match ds[ds.length - 1]? with
    | some d => some (d, ρ.set i (.own ds.dropLast))
    | none => none
  | _ => none
def sPop (i : Nat) (T : Tgt) : Sm := fun ρ f => match popped i ρ with
  | some (d, ρ1) => match T.put d ρ1 with
    | some ρ2 => .ok (.nx ρ2) f
    | none => .no
  | none => .no
def sPopD (i : Nat) : Sm := fun ρ f => match popped i ρ with
  | some (_, ρ1) => .ok (.nx ρ1) f
  | none => .no
theorem DRs.dropLast {K : PySem.W.Frag} {H : Hp} {vs : List V} {ds : List PyData} (r : DRs K H vs ds) : DRs K H vs.dropLast ds.dropLast := by
  rw [List.dropLast_eq_take, List.dropLast_eq_take, r.length]
  exact r.take _
theorem pop_here {K : PySem.W.Frag} {g : Gh} {σ : St} {H HF : Hp} {ρ ρ1 : Rho} {f : Feed} {i : Nat} {d : PyData} (rel : Rel K g σ H HF ρ f) (e : popped i ρ = some (d, ρ1)) :
    ∃ p vs y, σ[i]? = some (some (.ref p)) ∧ H p = some (.lst vs) ∧ vs[vs.length - 1]? = some y ∧ DR K HF y d ∧ Rel K g σ (upd H p (.lst vs.dropLast)) HF ρ1 f := by
  unfold popped at e
  cases z : ρ[i]? with
  | none =>
    simp only [z] at e
    cases e
  | some s =>
    cases s with
    | own ds =>
      simp only [z] at e
      cases z2 : ds[ds.length - 1]? with
      | none =>
        simp only [z2] at e
        cases e
      | some d2 =>
        simp only [z2] at e
        cases e
        obtain ⟨p, vs, e1, e2, e3, e4⟩ := own_here rel z
        obtain ⟨y, y1, y2⟩ := e4.get z2
        exact ⟨p, vs, y, e1, e3, by rw [e4.length]; exact y1, y2, rel.write z e1 e2 e3 e4.dropLast⟩
    | _ =>
      simp only [z] at e
      cases e
section
variable {X : Cx} {E : XK} {o : Expr} {i : Nat} {apos cpos pos : Pos}
theorem popD_read {K : PySem.W.Frag} {mg : Str → Option Value} {D : Ends} {σ : St} {H : Hp} (h : tDS K mg E (sPopD i) D σ H) : tDrop (tBM0 K "list" rPop (tVar i)) D σ H := by
  obtain ⟨g, HF, ρ, f, rel, q⟩ := h
  unfold sPopD at q
  cases z : popped i ρ with
  | none =>
    simp only [z] at q
    exact (show False from q).elim
  | some pr =>
    obtain ⟨d, ρ1⟩ := pr
    simp only [z] at q
    obtain ⟨p, vs, y, e1, e2, e3, e4, r1⟩ := pop_here rel z
    exact ⟨.ref p, e1, .inl ⟨rfl, vs, .inl (.inl e2)⟩, p, vs, y, rfl, rfl, e2, e3, (show FinS K g D (.nx ρ1) f from q) _ _ HF r1⟩
theorem ds_popD (ho : PE X o (tVar i)) (hbase : attributeBase o "pop" X.env (eval o X.env) = eval o X.env := by rfl) (hline : (apos.endLine == cpos.line) = true := by rfl)
    (hs : swapsWith (.Call (.Attribute o "pop" apos) [] [] cpos) none pos.line X.env = pure false := by rfl) : DS X E (.Expr (.Call (.Attribute o "pop" apos) [] [] cpos) pos) (sPopD i) :=
  ps_mono (ps_expr (pe_bm0 PySem.F.plainAttrs_list PySem.F.slot_list_pop PySem.F.type_list_pop mt_pop ho hbase hline) hs) fun _ _ _ q => popD_read q
theorem pop_read {K : PySem.W.Frag} {mg : Str → Option Value} {T : Tgt} {D : Ends} {σ : St} {H : Hp} (h : tDS K mg E (sPop i T) D σ H) : tAsg (tBM0 K "list" rPop (tVar i)) (T.rd K) D σ H := by
  obtain ⟨g, HF, ρ, f, rel, q⟩ := h
  unfold sPop at q
  cases z : popped i ρ with
  | none =>
    simp only [z] at q
    exact (show False from q).elim
  | some pr =>
    obtain ⟨d, ρ1⟩ := pr
    simp only [z] at q
    cases z2 : T.put d ρ1 with
    | none =>
      simp only [z2] at q
      exact (show False from q).elim
    | some ρ2 =>
      simp only [z2] at q
      obtain ⟨p, vs, y, e1, e2, e3, e4, r1⟩ := pop_here rel z
      exact ⟨.ref p, e1, .inl ⟨rfl, vs, .inl (.inl e2)⟩, p, vs, y, rfl, rfl, e2, e3, T.read r1 e4 z2 fun σ2 r2 => (show FinS K g D (.nx ρ2) f from q) σ2 _ HF r2⟩
theorem ds_pop {tg : Expr} {T : Tgt} (ho : PE X o (tVar i)) (hg : PG X tg (T.rd X.K)) (hbase : attributeBase o "pop" X.env (eval o X.env) = eval o X.env := by rfl) (hline : (apos.endLine == cpos.line) = true := by rfl)
    (hs : swapsWithSole [tg] (.Call (.Attribute o "pop" apos) [] [] cpos) pos.line X.env = pure false := by rfl) (hw : swappedStores [tg] (.Call (.Attribute o "pop" apos) [] [] cpos) X.env = pure none := by rfl)
    (h1 : (assignEach [tg] X.env).map (·.2) = [assign tg X.env] := by rfl) : DS X E (.Assign [tg] (.Call (.Attribute o "pop" apos) [] [] cpos) pos) (sPop i T) :=
  ps_mono (ps_asg (pe_bm0 PySem.F.plainAttrs_list PySem.F.slot_list_pop PySem.F.type_list_pop mt_pop ho hbase hline) hg hs hw h1) fun _ _ _ q => pop_read q
end
/-! max of a list of whole numbers -/
def oMaxL : Op1 := fun d => match d with
  | .list xs => match intsOf xs with
    | some (n :: ns) => some (.dat (.int (ns.foldl max n)))
    | _ => none
  | _ => none
theorem foldl_max_le {a : Int} : ∀ {ns : List Int} {n : Int}, n ≤ ns.foldl max n ∧ (a ∈ ns → a ≤ ns.foldl max n)
  | [], n => ⟨Int.le_refl n, fun h => by cases h⟩
  | x :: ns, n => by
    obtain ⟨h1, h2⟩ := foldl_max_le (a := a) (ns := ns) (n := max n x)
    refine ⟨?_, fun h => ?_⟩
    · rw [List.foldl_cons]
      omega
    · rw [List.foldl_cons]
      rcases List.mem_cons.mp h with rfl | h
      · omega
      · exact h2 h
theorem foldl_max_mem : ∀ {ns : List Int} {n : Int}, ns.foldl max n ∈ n :: ns
  | [], n => List.mem_cons_self
  | x :: ns, n => by
    rw [List.foldl_cons]
    have h := foldl_max_mem (ns := ns) (n := max n x)
    rcases List.mem_cons.mp h with h | h
    · rw [h]
      rcases Int.le_total n x with q | q
      · rw [Int.max_eq_right q]
        simp
      · rw [Int.max_eq_left q]
        simp
    · simp [h]
theorem best_ge (val : Nat → Int) : ∀ k, argBest (fun i j => decide (val i > val j)) k ≤ k ∧ ∀ i, i ≤ k → val i ≤ val (argBest (fun i j => decide (val i > val j)) k)
  | 0 => ⟨Nat.le_refl 0, fun i hi => by
    rw [show i = 0 by omega]
    exact Int.le_refl _⟩
  | k + 1 => by
    obtain ⟨h1, h2⟩ := best_ge val k
    unfold argBest
    by_cases q : val (k + 1) > val (argBest (fun i j => decide (val i > val j)) k)
    · rw [if_pos (decide_eq_true q)]
      refine ⟨Nat.le_refl _, fun i hi => ?_⟩
      by_cases e : i = k + 1
      · rw [e]
        exact Int.le_refl _
      · have := h2 i (by omega)
        omega
    · rw [if_neg (by simpa using q)]
      refine ⟨by omega, fun i hi => ?_⟩
      by_cases e : i = k + 1
      · rw [e]
        omega
      · exact h2 i (by omega)
theorem vals_ints : ∀ {ns : List Int} {us : List Value}, Vals (ns.map V.int) us → ∃ ps : List (Int × Tok), ps.map (·.1) = ns ∧ us = ps.map fun p => .int p.1 p.2
  | [], _, .nil => ⟨[], rfl, rfl⟩
  | n :: ns, _, .cons h t => by
    obtain ⟨ps, e1, e2⟩ := vals_ints t
    obtain ⟨tk, rfl⟩ := h
    exact ⟨(n, tk) :: ps, by rw [List.map_cons, e1], by rw [List.map_cons, e2]⟩
def rMaxL (K : PySem.W.Frag) : List V → Hp → VK → Prop := fun vs H Q => ∃ (p : Addr) (n : Int) (ns : List Int), vs = [.ref p] ∧ SqL K H p ((n :: ns).map V.int) ∧ Q (.int (ns.foldl max n)) H
theorem call_maxL {X : Cx} (hc : X.calm = true) : CallR X (.builtin "max") (rMaxL X.K) := by
  intro pins s σ H vs us Q I r h
  obtain ⟨p, n, ns, rfl, hs, q⟩ := h
  obtain ⟨its, rv, hl, _⟩ := I.list hs
  rw [Vals.ref1 r]
  obtain ⟨ps, e1, rfl⟩ := vals_ints rv
  have hA : (ps.map fun p => Value.int p.1 p.2).toArray = intItems ps.toArray := by
    unfold intItems
    simp
  have hl2 : s.heap.IsList p (intItems ps.toArray) := by
    rw [← hA]
    exact hl.isList
  have hn : ps.length = ns.length + 1 := by
    have := congrArg List.length e1
    simpa using this
  have na : ∀ i, i < ps.length → (n :: ns)[i]? = some (numAt ps.toArray i) := fun i hi => by
    rw [← e1, List.getElem?_map]
    unfold numAt
    simp [List.getElem?_eq_getElem hi]
  refine max_intList (I.ok.hd hc) hl2 (by simp; omega) fun v h' tk hv k => ⟨_, H, I.kept k, ?_, q⟩
  obtain ⟨t, rfl⟩ := intItems_at hv
  obtain ⟨b1, b2⟩ := best_ge (numAt ps.toArray) (ps.toArray.size - 1)
  generalize argBest (fun i j => decide (numAt ps.toArray i > numAt ps.toArray j)) (ps.toArray.size - 1) = j at *
  have hz : ps.toArray.size = ps.length := by simp
  rw [hz] at b1 b2
  have hj := na j (by omega)
  have m1 : numAt ps.toArray j ∈ n :: ns := List.mem_of_getElem? hj
  have m2 : numAt ps.toArray j ≤ ns.foldl max n := by
    rcases List.mem_cons.mp m1 with e | e
    · rw [e]
      exact (foldl_max_le (a := 0)).1
    · exact foldl_max_le.2 e
  have m3 : ns.foldl max n ≤ numAt ps.toArray j := by
    obtain ⟨i, hi⟩ := List.mem_iff_getElem?.mp (foldl_max_mem (ns := ns) (n := n))
    have il : i < ps.length := by
      have := (List.getElem?_eq_some_iff.mp hi).1
      rw [List.length_cons] at this
      omega
    have e := na i il
    rw [hi] at e
    rw [Option.some.inj e]
    exact b2 i (by omega)
  have : numAt ps.toArray j = ns.foldl max n := by omega
  rw [this]
  exact ⟨t, rfl⟩
theorem oMaxL_ok {K : PySem.W.Frag} : UnOk K (fun v H Q => rMaxL K [v] H Q) oMaxL := fun g H HF f x d rv a t z Q k => by
  cases d <;> try cases z
  rename_i xs
  unfold oMaxL at z
  cases q : intsOf xs with
  | none =>
    simp only [q] at z
    cases z
  | some ms =>
    cases ms with
    | nil =>
      simp only [q] at z
      cases z
    | cons n ns =>
      simp only [q] at z
      cases z
      have e1 := intsOf_some q
      subst e1
      obtain ⟨p, vs, rfl, hp, rp⟩ := t.lst a.sub
      have v1 := rp.toInts
      subst v1
      exact ⟨p, n, ns, rfl, .inl (.inl hp), k.now a (.int _)⟩
theorem de_maxL {X : Cx} {W : Wish} {a : Expr} {fa : Ex} {p pos : Pos} (hc : X.calm = true) (hg : Gl X "max") (hm : X.mg "max" = none) (ha : DE X W a fa) (he : starEach [a] X.env = (false, eval a X.env) :: starEach [] X.env := by rfl) : DE X W (.Call (.Name "max" p) [a] [] pos) (cUn oMaxL fa) :=
  de_call1 (call_maxL hc) oMaxL_ok hg hm (by decide +kernel) ha (by decide) (by decide) he
end Dn

end
section
set_option maxHeartbeats 4000000
/-! Dn: a call that is lent a growing list as its last argument -/
namespace Dn
open PySem PySem.Spec L2
mutual
/-- no list in it -/
def flat : PyData → Bool
  | .list _ => false
  | .tuple ds => flatAll ds
  | .dict (_ :: _) => false
  | _ => true
def flatAll : List PyData → Bool
  | [] => true
  | d :: ds => flat d && flatAll ds
end
section
variable {K : PySem.W.Frag} {G G2 : Hp} {p : Addr}
theorem offT (h : ∀ a o, a ≠ p → G a = some o → G2 a = some o) (e : ∃ vs, G p = some (.lst vs)) {a : Addr} {xs : List V} (t : SqT K G a xs) : SqT K G2 a xs := by
  obtain ⟨vs, e⟩ := e
  rcases t with (t | ⟨o, t⟩) | t
  · refine .inl (.inl (h _ _ ?_ t))
    rintro rfl
    rw [e] at t
    cases t
  · refine .inl (.inr ⟨o, h _ _ ?_ t⟩)
    rintro rfl
    rw [e] at t
    cases t
  · exact .inr t
theorem offD {o : HO} (h : ∀ a o, a ≠ p → G a = some o → G2 a = some o) (e : ∃ vs, G p = some (.lst vs)) (n : ∀ vs, o ≠ .lst vs) {a : Addr} (t : G a = some o) : G2 a = some o := by
  obtain ⟨vs, e⟩ := e
  refine h _ _ ?_ t
  rintro rfl
  rw [e] at t
  exact n vs (Option.some.inj t).symm
mutual
theorem DR.off (h : ∀ a o, a ≠ p → G a = some o → G2 a = some o) (e : ∃ vs, G p = some (.lst vs)) : ∀ {v : V} {d : PyData}, DR K G v d → flat d = true → DR K G2 v d
  | _, _, .non, _ => .non
  | _, _, .bl b, _ => .bl b
  | _, _, .int i, _ => .int i
  | _, _, .str x, _ => .str x
  | _, _, .lst _ _, f => by
    rw [flat] at f
    cases f
  | _, _, .tup t r, f => .tup (offT h e t) (DRs.off h e r (by rw [flat] at f; exact f))
  | _, .dict ks, @Dn.DR.dic _ _ _ _ _ t y r, f => .dic (offD h e (by intro _ z; cases z) t) y (DRs.off h e r (by cases ks with
    | nil => rfl
    | cons a b => rw [flat] at f; cases f))
  | _, _, .exc _ _ _ _, f => by
    rw [flat] at f
    cases f
theorem DRs.off (h : ∀ a o, a ≠ p → G a = some o → G2 a = some o) (e : ∃ vs, G p = some (.lst vs)) : ∀ {vs : List V} {ds : List PyData}, DRs K G vs ds → flatAll ds = true → DRs K G2 vs ds
  | _, _, .nil, _ => .nil
  | _, _, .cons d r, f => .cons (DR.off h e d (by rw [flatAll, Bool.and_eq_true] at f; exact f.1)) (DRs.off h e r (by rw [flatAll, Bool.and_eq_true] at f; exact f.2))
end
end
def keepF : RV → Feed → R RV
  | .dat d, f => if flat d then .ok (.dat d) f else .no
  | .own ds, f => if flatAll ds then .ok (.own ds) f else .no
  | _, _ => .no
theorem keepF_dat {d : PyData} {f : Feed} : keepF (.dat d) f = if flat d = true then .ok (.dat d) f else .no := rfl
theorem keepF_own {ds : List PyData} {f : Feed} : keepF (.own ds) f = if flatAll ds = true then .ok (.own ds) f else .no := rfl
/-- a call: xs, then the growing list i -/
def cCallL (F : Fn) (xs : List Ex) (i : Nat) : Ex := fun ρ f => (cVals xs ρ f).bind fun as f1 => match ρ[i]? with
  | some (.own ds) => (F (as ++ [.dat (.list ds)]) f1).bind keepF
  | _ => .no
section
variable {K : PySem.W.Frag} {mg : Str → Option Value} {W : Wish}
theorem vals_readL {β : Type} {P : β → Feed → Prop} {zs : List Ex} : ∀ (xs : List Ex) {k : List RV → Feed → R β} {g : Gh} {σ : St} {H HF : Hp} {ρ : Rho} {f : Feed} {Q : List V → Hp → Prop}, Rel K g σ H HF ρ f →
    ROk K mg g H HF (W σ) ((cVals xs ρ f).bind k) P → (∀ as f1 vs G GF, vs.length = xs.length → Rel K g σ G GF ρ f1 → Step g H HF G GF → Paired (ARel K g GF) vs as → ROk K mg g G GF (W σ) (k as f1) P → argT K mg W zs σ G fun ws H1 => Q (vs ++ ws) H1) → argT K mg W (xs ++ zs) σ H Q
  | [], k, g, σ, H, HF, ρ, f, Q, r, h, c => c [] f [] H HF rfl r (Step.refl r.sub) .nil h
  | x :: xs, k, g, σ, H, HF, ρ, f, Q, r, h, c => by
    have h2 : ROk K mg g H HF (W σ) ((x ρ f).bind fun rv f1 => match toArg rv with
        | some a => (cVals xs ρ f1).bind fun as f2 => k (a :: as) f2
        | none => .no) P := by
      have e : ((cVals (x :: xs) ρ f).bind k) = ((x ρ f).bind fun rv f1 => match toArg rv with
          | some a => (cVals xs ρ f1).bind fun as f2 => k (a :: as) f2
          | none => .no) := by
        show ((x ρ f).bind _).bind k = _
        rw [bind_bind]
        congr 1
        funext rv f1
        cases toArg rv with
        | none => rfl
        | some a => exact bind_bind _ _ _
      rw [← e]
      exact h
    have go : ∀ {a : RV} {f1 : Feed} {v : V} {G GF : Hp}, Rel K g σ G GF ρ f1 → Step g H HF G GF → ARel K g GF v a → ROk K mg g G GF (W σ) ((cVals xs ρ f1).bind fun as f2 => k (a :: as) f2) P → argT K mg W (xs ++ zs) σ G fun vs H1 => Q (v :: vs) H1 :=
      fun {a f1 v G GF} r1 s1 ha q1 => vals_readL xs r1 q1 fun as f2 vs I IF hl r2 s2 drs q3 => c (a :: as) f2 (v :: vs) I IF (congrArg (· + 1) hl) r2 (s1.trans r1.feed s2) (.cons (ha.mono s2.le) drs) q3
    refine ⟨g, HF, ρ, f, r, h2.of_bind.mono fun rv f1 q v G GF s hf rr => ?_⟩
    cases rv with
    | dat d => exact go (a := .dat d) (r.step s hf) s rr (ROk.later q hf s)
    | feed => exact go (a := .feed) (r.step s hf) s rr (ROk.later q hf s)
    | own ds =>
      obtain ⟨IF, s2, h3, dr⟩ := rr.frz hf s (d := .list ds) rfl
      exact go (a := .dat (.list ds)) (r.step s2 h3) s2 dr (ROk.later q h3 s2)
    | lent i ds => exact (show False from q).elim
theorem paired_app {α β : Type} {F : α → β → Prop} : ∀ {as : List α} {bs : List β} {a : α} {b : β}, Paired F as bs → F a b → Paired F (as ++ [a]) (bs ++ [b]) := fun h q => h.snoc q
end
section
variable {X : Cx} {W : Wish} {k : Nat} {f : Addr} {fd : FuncData} {ps : List Str} {F : Fn} {x : Str} {p pos : Pos} {e : Expr} {es : List Expr} {xs : List Ex} {i : Nat}
theorem de_callL (G : FnG X.prog X.w X.K X.mg X.base CX0 k f fd ps (spD X.K X.mg ps.length F)) (gd : X.A.guards = some []) (hr : Room k X.A) (hg : Gl X x) (hm : X.mg x = some (.ref f)) (hk : PySem.W.keepIn X.K (.ref f) = true) (hb : Binds X.K fd ps [])
    (ha : DA X W (e :: es) (xs ++ [cVar i])) (hno : ∀ as f c v f2, F as f ≠ .ex c v f2) (hn : xs.length + 1 = ps.length := by rfl) (hdb : (x == ("__debug__" : Str)) = false := by decide) (he : starEach (e :: es) X.env = (false, eval e X.env) :: starEach es X.env := by rfl) (hpl : (backTo pos (starEach es X.env)).any (·.1) = false := by rfl) :
    DE X W (.Call (.Name x p) (e :: es) [] pos) (cCallL F xs i) := pe_mono (callG (E := fun _ _ _ => False) G gd hr hg hm hk hb pass0 ha hdb he hpl) fun σ H Q ⟨g, HF, ρ, fe, rel, q⟩ =>
  vals_readL xs rel q fun as f1 vs I IF hl r1 s1 drs q1 => by
    cases z : ρ[i]? with
    | none =>
      simp only [z] at q1
      exact (show False from q1).elim
    | some s =>
      cases s with
      | emp =>
        simp only [z] at q1
        exact (show False from q1).elim
      | dat d =>
        simp only [z] at q1
        exact (show False from q1).elim
      | feed =>
        simp only [z] at q1
        exact (show False from q1).elim
      | scr ns =>
        simp only [z] at q1
        exact (show False from q1).elim
      | dct ns =>
        simp only [z] at q1
        exact (show False from q1).elim
      | key ns =>
        simp only [z] at q1
        exact (show False from q1).elim
      | own ds =>
        simp only [z] at q1
        refine ⟨g, IF, ρ, f1, r1, ?_⟩
        unfold cVar
        simp only [z]
        intro v J JF s2 h2 rr
        obtain ⟨pp, ws, e1, e2, e0, e3, e4, e5⟩ := rr
        subst e1
        have r2 := r1.step s2 h2
        have np : g.fa ≠ pp := fun y => ne_fa h2 e4 y.symm
        have l1 : Le JF (upd JF pp (.lst ws)) := fun a o y => by
          rw [upd_ne (ne_of_none y e3)]
          exact y
        have sub1 : Le (upd JF pp (.lst ws)) J := fun a o y => by
          by_cases zz : a = pp
          · subst zz
            rw [upd_same] at y
            rw [e4]
            exact y
          · rw [upd_ne zz] at y
            exact s2.sub a o y
        have fe1 : FeedAt g J (upd JF pp (.lst ws)) f1 := ⟨h2.d, by rw [upd_ne np]; exact h2.nf, by rw [upd_ne (ne_of_none h2.c e3)]; exact h2.c⟩
        have drl : ARel X.K g (upd JF pp (.lst ws)) (.ref pp) (.dat (.list ds)) := .lst upd_same (e5.mono l1)
        refine ⟨by rw [List.length_append, hl, List.length_singleton]; exact hn, g, upd JF pp (.lst ws), as ++ [.dat (.list ds)], f1, ⟨sub1, fe1, paired_app (ARels.mono (s2.le.trans l1) drs) drl⟩, ?_⟩
        have q2 := ROk.later q1 h2 s2
        cases zF : F (as ++ [.dat (.list ds)]) f1 with
        | no =>
          rw [zF] at q2
          exact q2
        | ex c v f => exact (show False from hno _ f1 c v f zF).elim
        | ok rv f2 =>
          rw [zF] at q2
          intro v L LF s3 h3 rr3
          -- the list is let go
          have pin : LF pp = some (.lst ws) := s3.le _ _ upd_same
          have off : ∀ a o, a ≠ pp → LF a = some o → (fun a => if a = pp then none else LF a) a = some o := fun a o na y => by
            show (if a = pp then none else LF a) = some o
            rw [if_neg na]
            exact y
          have s4 : Step g J JF L (fun a => if a = pp then none else LF a) := by
            refine ⟨s3.ext, fun a o y => ?_, fun a y1 y2 => ?_, fun a o y => ?_⟩
            · have na := ne_of_none y e3
              exact off a o na (s3.le a o (by rw [upd_ne na]; exact y))
            · show (if a = pp then none else LF a) = none
              by_cases zz : a = pp
              · rw [if_pos zz]
              · rw [if_neg zz]
                exact s3.new a y1 (by rw [upd_ne zz]; exact y2)
            · have y2 : (if a = pp then none else LF a) = some o := y
              by_cases zz : a = pp
              · rw [if_pos zz] at y2
                cases y2
              · rw [if_neg zz] at y2
                exact s3.sub a o y2
          have h4 : FeedAt g L (fun a => if a = pp then none else LF a) f2 := by
            refine ⟨h3.d, ?_, ?_⟩
            · show (if g.fa = pp then none else LF g.fa) = none
              rw [if_neg np]
              exact h3.nf
            · exact off _ _ (by
                intro y
                have := h2.c
                rw [y, e3] at this
                cases this) h3.c
          have s5 := s1.trans r1.feed (s2.trans h2 s4)
          have fin : ∀ rv2, keepF rv f2 = .ok rv2 f2 → RR X.K g σ H L (fun a => if a = pp then none else LF a) v rv2 → Q v L := fun rv2 kq rr4 => by
            have q3 : ROk X.K X.mg g J JF (W σ) (keepF rv f2) (Fin X.K g σ H HF Q) := q2
            rw [kq] at q3
            exact (show Fin X.K g σ H HF Q rv2 f2 from q3) v L _ s5 h4 rr4
          have q3 : ROk X.K X.mg g J JF (W σ) (keepF rv f2) (Fin X.K g σ H HF Q) := q2
          cases rv with
          | feed => exact (show False from q3).elim
          | lent j es => exact (show False from q3).elim
          | dat d =>
            rw [keepF_dat] at q3
            by_cases c : flat d = true
            · exact fin (.dat d) (by rw [keepF_dat, if_pos c]) (DR.off off ⟨ws, pin⟩ rr3 c)
            · rw [if_neg c] at q3
              exact (show False from q3).elim
          | own es =>
            rw [keepF_own] at q3
            by_cases c : flatAll es = true
            · refine fin (.own es) (by rw [keepF_own, if_pos c]) ?_
              obtain ⟨a, us, a1, a2, a3, a4, a5⟩ := rr3
              refine ⟨a, us, a1, ?_, ?_, a4, DRs.off off ⟨ws, pin⟩ a5 c⟩
              · exact (s1.trans r1.feed s2).dead h2 a2
              · show (if a = pp then none else LF a) = none
                split
                · rfl
                · exact a3
            · rw [if_neg c] at q3
              exact (show False from q3).elim
theorem de_hasL {k : Nat} (h : Has X.prog X.w X.K X.mg X.base k x ps F) (gd : X.A.guards = some []) (hr : Room k X.A) (hg : Gl X x)
    (ha : DA X W (e :: es) (xs ++ [cVar i])) (hn : xs.length + 1 = ps.length := by rfl) (hdb : (x == ("__debug__" : Str)) = false := by decide) (he : starEach (e :: es) X.env = (false, eval e X.env) :: starEach es X.env := by rfl) (hpl : (backTo pos (starEach es X.env)).any (·.1) = false := by rfl) :
    DE X W (.Call (.Name x p) (e :: es) [] pos) (cCallL F xs i) := by
  obtain ⟨f, fd, hm, hk, hb, G, hno⟩ := h
  exact de_callL G gd hr hg hm hk hb ha hno hn hdb he hpl
end
end Dn

end
section
set_option maxHeartbeats 4000000
/-! Dn: >>, &, a list from its end -/
namespace Dn
open PySem PySem.Spec L2
def oShr : Op2 := intsOp (fun _ j => decide (0 ≤ j)) fun i j => .int (i / 2 ^ j.toNat)
def oAnd : Op2 := intsOp (fun _ _ => true) fun i j => .int (Builtin.bitAnd i j)
def oRev : Op1
  | .list xs => some (.own xs.reverse)
  | _ => none
section
variable {X : Cx} {W : Wish} {a b : Expr} {fa fb : Ex} {pos : Pos}
theorem de_shr (ha : DE X W a fa) (hb : DE X W b fb) : DE X W (.BinOp a .RShift b pos) (cBin oShr fa fb) := de_bin op_shr (intsOp_ok fun _ _ h => of_decide_eq_true h) ha hb
theorem de_bitand (ha : DE X W a fa) (hb : DE X W b fb) : DE X W (.BinOp a .BitAnd b pos) (cBin oAnd fa fb) := de_bin op_and intsI_ok ha hb
theorem de_revL {k : Nat} {p1 p2 p3 : Pos} (he : DE X W a fa) : DE X W (.Subscript a (.Slice none none (some (.UnaryOp .USub (.Constant (.int 1) k p1) p2)) p3) pos) (cUn oRev fa) := pe_mono (pe_revL he) fun σ H Q ⟨g, HF, ρ, f, rel, q⟩ => tD_pk rel q fun d f1 x G GF r1 s1 t1 q1 => by
  obtain ⟨rv, z, k⟩ := give_end r1.feed s1 q1
  have a : At X.K g G GF f1 := ⟨r1.sub, r1.feed⟩
  cases d <;> try cases z
  obtain ⟨p, vs, rfl, hp, rp⟩ := t1.lst a.sub
  exact ⟨p, vs, rfl, .inl (.inl hp), fun l hl => k.newL a rp.rev l hl⟩
theorem bitAnd_one (n : Nat) : Builtin.bitAnd (n : Int) 1 = ((n % 2 : Nat) : Int) := by
  rw [PyProof.Rows.bitAnd_m1]
  omega
end
end Dn

end
section
set_option maxHeartbeats 4000000
/-! errors of the program's own classes: made, raised, let out of a def -/
namespace Dn
open PySem PySem.Spec L2
/-! ### B.__init__(self, e) where B is a class above -/
section
variable {X : Cx} {e : Expr} {es : List Expr} {ta : TA} {p1 p2 pos : Pos}
theorem pe_finit {y : Str} {B : Addr} {pl : Sem Bool} (hg : Gl X y) (hm : X.mg y = some (.ref B)) (sg : PySem.W.specialIn X.K (.ref B) "__getattribute__" = some (some (.builtin "type.__getattribute__"))) (rd : PySem.W.readsIn X.K B (.type "type") = true)
    (vV : PySem.W.findCls X.K (.ref B) (.type "type") "__init__" = some (.val (.builtin "ValueError.__init__"))) (ha : PA X (e :: es) ta) (hdb : (y == ("__debug__" : Str)) = false := by decide)
    (hc : eval (.Call (.Attribute (.Name y p1) "__init__" p2) (e :: es) [] pos) X.env = (do
      let ov ← eval (.Name y p1) X.env
      standAt p2.atName
      let (f, first) ← holding [ov] (getMethod ov "__init__" pl)
      callWith pos f first (backTo pos (starEach (e :: es) X.env)) (backToKw pos (keywordEach [] X.env))) := by rfl)
    (he : starEach (e :: es) X.env = (false, eval e X.env) :: starEach es X.env := by rfl) (hpl : (backTo pos (starEach es X.env)).any (·.1) = false := by rfl) :
    PE X (.Call (.Attribute (.Name y p1) "__init__" p2) (e :: es) [] pos) (tVeI X.K ta) := by
  refine ⟨fun pins s σ H Q I h => ?_⟩
  refine PySem.W.methodCall_KW (ld_glob I hg hm ?_ hdb) hc
  refine PySem.W.method_cls I.kIn sg (PySem.W.cls_value I.kIn rd vV (by decide +kernel) ?_)
  show wpAny _ _ (callWith pos (Value.builtin "ValueError.__init__") [] (backTo pos (starEach (e :: es) X.env)) []) _ _ _
  refine PyProof.Rows.callWith_method1 (thn (ha.run pos pins _ σ H _ (I.tok _) h) fun us s1 ⟨vs, H1, I1, r1, a, C, ws, ev, hl, T, ea, q⟩ => ?_) he hpl
  subst ev
  cases r1 with
  | @cons _ u0 _ ur ra rw' =>
    obtain rfl : u0 = Value.ref a := ra
    have hlen : ur.length ≤ sizeLine := by
      rw [← Paired.length rw', sizeLine_eq]
      omega
    exact oinit_ok T I1 ea hlen fun s' J => ⟨.non, H1, J, rfl, q⟩
end
/-! ### C(..) where C's own __init__ sets fields, perhaps none -/
theorem at_ne' {H : Hp} {a b : Addr} {o u : HO} (ha : H a = some o) (hb : H b = some u) (d : o ≠ u) : b ≠ a := fun z => by
  rw [z, ha] at hb
  exact d (Option.some.inj hb)
section
variable {X : Cx} {pins : List (Addr × Obj)} {σ : St} {H1 H2 : Hp} {Q : XK} {hp hp2 h2 : Heap} {g1 g2 : Array GenState} {d1 d2 : Drawn} {t1 t2 : Nat} {os1 os2 : OsState} {a C : Addr}
theorem mk_endN (T : Raises X (.ref C)) (I1 : Inv X pins σ H1 ⟨hp, g1, d1, t1, os1⟩)
    (ha : hp.objs.size ≤ a) (k : ∀ b o, hp.get? b = some o → hp2.get? b = some o) (un : Un (frs X.stack) [] (upd H1 a (exo a C none)) H2 hp2 h2) (hok : HOk X.prog X.w H2 h2) (ho : os2 = os1) (hb : PyProof.Rows.AllBare g2)
    (ea : H2 a = some (exo a C none)) (q : Q (.ref C) none (del H2 a)) : MkP X pins σ Q (.ref a) ⟨h2, g2, d2, t2, os2⟩ := by
  obtain ⟨t0, hoe⟩ := exo_at hok ea
  have hn : H1 a = none := I1.hok.fresh ha
  obtain ⟨G, g1', g2'⟩ := restrict h2 fun b => decide (b ≠ a)
  have gk : ∀ b, b ≠ a → G.get? b = h2.get? b := fun b hb => g1' b (decide_eq_true hb)
  have ge : G.get? a = none := g2' a (by simp)
  have nha : ∀ {b : Addr} {o : Obj}, hp.get? b = some o → b ≠ a := fun {b o} z => Nat.ne_of_lt (Nat.lt_of_lt_of_le (Heap.lt_size z) ha)
  have up : ∀ {b : Addr}, b ≠ a → H1 b = none → upd H1 a (exo a C none) b = none := fun {b} hb n => by rw [upd_ne hb]; exact n
  have U : Un (frs X.stack) [] H1 (del H2 a) hp G := {
    keep := fun b o z n hf hx => by
      rw [gk b (nha z)]
      exact un.keep b o (k b o z) (up (nha z) n) hf hx
    slot := fun b o z n hf hx => by
      rw [gk b (nha z)]
      exact un.slot b o (k b o z) (up (nha z) n) hf hx
    free := fun b o z n hx => by
      rw [del_ne (nha z)]
      exact un.free b o (k b o z) (up (nha z) n) hx
    there := fun b o z hx => by
      rw [gk b (nha z)]
      exact un.there b o (k b o z) hx
    tups := fun b xs z => by
      rw [del_ne (ne_of_none z hn)]
      exact un.tups b xs (by rw [upd_ne (ne_of_none z hn)]; exact z)
    frzs := fun b o v z => by
      rw [del_ne (ne_of_none z hn)]
      exact un.frzs b o v (by rw [upd_ne (ne_of_none z hn)]; exact z)
    tbls := fun b ps z => by
      rw [del_ne (ne_of_none z hn)]
      exact un.tbls b ps (by rw [upd_ne (ne_of_none z hn)]; exact z) }
  have hok3 : HOk X.prog X.w (del H2 a) G := fun b o z => by
    have hba : b ≠ a := fun e => by
      rw [e, del_same] at z
      cases z
    rw [del_ne hba] at z
    have noa : ∀ {c : Addr}, H2 c = some (.own b) → c ≠ a := fun {c} hc => at_ne' ea hc exo_own
    exact (hok b o z).stay (fun c v hc y => by
        have hca : c ≠ a := by
          rcases hc with hc | hc
          · rw [hc]
            exact hba
          · exact noa hc
        rw [gk c hca]
        exact y)
      (fun c hc => by rw [del_ne (noa hc)]; exact hc) (fun c xs hc => by rw [del_ne (at_ne' ea hc exo_tup)]; exact hc)
  have J : Inv X pins σ (del H2 a) ⟨G, g2, d2, t2, os2⟩ := I1.call' (ch := []) ho U hok3 hb (fun b z => absurd z (by simp))
  refine ⟨a, _, _, ⟨G, g2, d2, t2, os2⟩, _, .ref C, none, rfl, J, fun b o z => ?_, ge, hoe, ⟨rfl, rfl⟩, rfl, rfl, del_same, rfl, hb, T, q⟩
  by_cases hba : b = a
  · rw [hba] at z
    rw [ge] at z
    cases z
  · exact (gk b hba).symm.trans z
end
/-- C(e, ..), C's own __init__ keeping sp, fields or none -/
def tMkE (C : Addr) (sp : Sp) (ta : TA) : St → Hp → XK → Prop := fun σ H Q => ta σ H fun vs H1 => vs.length ≤ 1000 ∧ ∀ a, H1 a = none → sp (.ref a :: vs) (upd H1 a (exo a C none))
  (fun v H2 => v = .non ∧ ((∃ (d : Addr) (fs : List (Str × V)), H2 a = some (exo a C (some d)) ∧ H2 d = some (exd d fs) ∧ H1 d = none ∧ Q (.ref C) (some d) (upd (del H2 a) d (.xd fs))) ∨ (H2 a = some (exo a C none) ∧ Q (.ref C) none (del H2 a)))) (fun _ _ _ => False)
section
variable {X : Cx} {x : Str} {e : Expr} {es : List Expr} {ta : TA} {p pos : Pos} {C fI : Addr} {k : Nat} {fd : FuncData} {ps : List Str} {sp : Sp}
theorem mk_goes {pins : List (Addr × Obj)} {σ : St} {H1 : Hp} {Q : XK} {s1 : Shared} {us : List Value} {vs : List V} (T : OexC X.K C) (iC : PySem.W.findIn X.K (.ref C) "__init__" = some (some (.ref fI))) (tI : PySem.W.typeIn X.K (.ref fI) = some (.type "function"))
    (F1 : FnOk X.prog X.w X.K X.mg X.base CX0 k fI fd ps sp) (hr : Room (k + 1) X.A) (hb : Binds X.K fd ps []) (I1 : Inv X pins σ H1 s1) (r1 : Vals vs us) (hz : vs.length ≤ 1000)
    (q1 : ∀ a, H1 a = none → sp (.ref a :: vs) (upd H1 a (exo a C none)) (fun v H2 => v = .non ∧ ((∃ (d : Addr) (fs : List (Str × V)), H2 a = some (exo a C (some d)) ∧ H2 d = some (exd d fs) ∧ H1 d = none ∧ Q (.ref C) (some d) (upd (del H2 a) d (.xd fs))) ∨ (H2 a = some (exo a C none) ∧ Q (.ref C) none (del H2 a)))) (fun _ _ _ => False)) :
    wpAny (model X.prog X.w) X.A (call (.ref C) us) (MkP X pins σ Q) X.xe s1 := by
  obtain ⟨nm, q, N, bs, bm, sn, sub, ab, col, dd, k0, k1, k2, k3, k5, hC, hbm⟩ := T.cls
  obtain ⟨hp, g, dr, tk, os⟩ := s1
  have hsz : hp.objs.size ≤ hp.objs.size + 1 := Nat.le_succ _
  have hn : H1 (hp.objs.size + 1) = none := I1.hok.fresh hsz
  have hq := q1 (hp.objs.size + 1) hn
  have kk : ∀ b o, hp.get? b = some o → ((hp.push (PySem.W.kdv_tup us)).push (PySem.HandSPX.excO C hp.objs.size)).get? b = some o := fun b o e => Heap.get?_push_of_some _ (Heap.get?_push_of_some _ e)
  have hget : ((hp.push (PySem.W.kdv_tup us)).push (PySem.HandSPX.excO C hp.objs.size)).get? (hp.objs.size + 1) = some (PySem.HandSPX.excO C hp.objs.size) := by heap_get
  have I2 : Inv X pins σ (upd H1 (hp.objs.size + 1) (exo (hp.objs.size + 1) C none)) ⟨(hp.push (PySem.W.kdv_tup us)).push (PySem.HandSPX.excO C hp.objs.size), g, dr, tk, os⟩ :=
    I1.laid (t' := tk) (a := hp.objs.size + 1) (o := exo (hp.objs.size + 1) C none) (h' := (hp.push (PySem.W.kdv_tup us)).push (PySem.HandSPX.excO C hp.objs.size)) kk hsz (exo_ok hget)
  have r2 : Vals (V.ref (hp.objs.size + 1) :: vs) (Value.ref (hp.objs.size + 1) :: us ++ []) := by
    rw [List.append_nil]
    exact .cons rfl r1
  have hl : (Value.ref (hp.objs.size + 1) :: us ++ []).length = ps.length := by
    have e := r2.length
    rw [F1.len _ _ _ _ hq] at e
    exact e.symm
  have hus : us.length ≤ sizeLine := by
    rw [← Paired.length r1, sizeLine_eq]
    omega
  refine wpAny_call (PySem.HandSPX.call_own F.excBase_ValueError (fun Y => PySem.HandSPX.refsVE_contains Y bm hbm) (I1.kIn _ _ hC) (PySem.W.looks_findIn I1.kIn iC) (fun self => PySem.W.bind_fn I1.kIn self tI) hus
    (codeAny_mono (F1.run _ X.stack _ _ ⟨Value.ref (hp.objs.size + 1) :: us, []⟩ (Value.ref (hp.objs.size + 1) :: us ++ []) _ _ (fun _ _ _ => False) (hr.make C us []) (I2.env0.make C us []) (hb _ (Value.ref (hp.objs.size + 1) :: us) I2.kIn hl) r2 hq) fun r s' hq' => ?_))
  cases r with
  | error er => exact (pass0 pins σ _ _ er s' I2 hq')
  | ok fl =>
    cases fl with
    | ret u =>
      obtain ⟨v, H2, os2, bare2, un2, hok2, rv, ev, q2⟩ := hq'
      subst ev
      obtain ⟨h2, g2, d2, t2, os'⟩ := s'
      rcases q2 with ⟨d, fs, ea, ed, hd1, q2⟩ | ⟨ea, q2⟩
      · exact ⟨rv, mk_end (raises_own T.exC T.tyC) I1 hsz kk un2 hok2 os2 bare2 ea ed hd1 q2⟩
      · exact ⟨rv, mk_endN (raises_own T.exC T.tyC) I1 hsz kk un2 hok2 os2 bare2 ea q2⟩
    | next => exact False.elim hq'
    | brk => exact False.elim hq'
    | cont => exact False.elim hq'
theorem pmk_e (T : OexC X.K C) (iC : PySem.W.findIn X.K (.ref C) "__init__" = some (some (.ref fI))) (tI : PySem.W.typeIn X.K (.ref fI) = some (.type "function"))
    (F1 : FnOk X.prog X.w X.K X.mg X.base CX0 k fI fd ps sp) (hr : Room (k + 1) X.A) (hb : Binds X.K fd ps []) (hg : Gl X x) (hm : X.mg x = some (.ref C)) (ha : PA X (e :: es) ta)
    (hdb : (x == ("__debug__" : Str)) = false := by decide) (he : starEach (e :: es) X.env = (false, eval e X.env) :: starEach es X.env := by rfl) (hpl : (backTo pos (starEach es X.env)).any (·.1) = false := by rfl) :
    PMk X (.Call (.Name x p) (e :: es) [] pos) (tMkE C sp ta) := by
  intro pins s σ H Q I h
  refine wpAny_Call_Name_kw (ld_glob I hg hm ?_ hdb)
  refine PySem.W.callWith_K (h₀ := X.base) I.ok.mod.kin T.kC (thn (ha.run pos pins s σ H _ I h) fun us s1 ⟨vs, H1, I1, r1, hz, q1⟩ => ⟨I1.kIn, ?_⟩) he hpl
  exact mk_goes T iC tI F1 hr hb I1 r1 hz q1
theorem pmk_e0 (T : OexC X.K C) (iC : PySem.W.findIn X.K (.ref C) "__init__" = some (some (.ref fI))) (tI : PySem.W.typeIn X.K (.ref fI) = some (.type "function"))
    (F1 : FnOk X.prog X.w X.K X.mg X.base CX0 k fI fd ps sp) (hr : Room (k + 1) X.A) (hb : Binds X.K fd ps []) (hg : Gl X x) (hm : X.mg x = some (.ref C))
    (hdb : (x == ("__debug__" : Str)) = false := by decide) :
    PMk X (.Call (.Name x p) [] [] pos) (tMkE C sp tNil) := by
  intro pins s σ H Q I h
  refine wpAny_Call_Name_kw (ld_glob I hg hm ?_ hdb)
  obtain ⟨hz, q1⟩ := h
  exact PySem.W.callWith_K0 I.kIn T.kC (mk_goes (us := []) T iC tI F1 hr hb I .nil hz q1)
end

/-! ### the promise of such an __init__ -/
def spIni (K : PySem.W.Frag) (C : Addr) (fs : List Str) : Sp := fun vs H Q _ => ∃ a ws, vs = .ref a :: ws ∧ ws.length = fs.length ∧ OexC K C ∧ (∀ f ∈ fs, PySem.W.findIn K (.ref C) f = some none) ∧ H a = some (exo a C none) ∧
  (match fs with
  | [] => Q .non H
  | _ => ∀ d, H d = none → d ≠ a → Q .non (upd (upd H d (exd d (fs.zip ws).reverse)) a (exo a C (some d))))
def tI0 (K : PySem.W.Frag) (s : Str) : TS := tDrop (tVeI K (tCons (tVar 0) (tCons (tC (.str s)) tNil)))
def tI1 (K : PySem.W.Frag) (s f : Str) : TS := tSeq (tI0 K s) (tOst K f (tVar 0) (tVar 1))
def tI2 (K : PySem.W.Frag) (s f g : Str) : TS := tSeq (tI0 K s) (tSeq (tOst K f (tVar 0) (tVar 1)) (tOst K g (tVar 0) (tVar 2)))
section
variable {K : PySem.W.Frag} {C : Addr} {vs : List V} {H : Hp} {Q : VK} {E : XK} {s x y : Str}
theorem ini0 (h : spIni K C [] vs H Q E) : tI0 K s { nx := fun _ G => Q .non G, rt := Q } (L2.start ["self"] vs) H := by
  obtain ⟨a, ws, rfl, hl, T, no, ha, q⟩ := h
  obtain rfl : ws = [] := List.eq_nil_of_length_eq_zero hl
  exact ⟨_, rfl, a, C, _, rfl, Nat.le_add_left 1 999, T, ha, q⟩
theorem ini1 (h : spIni K C [x] vs H Q E) : tI1 K s x { nx := fun _ G => Q .non G, rt := Q } (L2.start ["self", x] vs) H := by
  obtain ⟨a, ws, rfl, hl, T, no, ha, q⟩ := h
  match ws, hl with
  | [v], _ => exact ⟨_, rfl, a, C, _, rfl, Nat.le_add_left 1 999, T, ha, v, rfl, _, rfl, a, C, rfl, T, no x (by simp), .inl ⟨ha, fun d hd hne => q d hd hne⟩⟩
theorem upd_two {H : Hp} {a d : Addr} {o u v : HO} (h : d ≠ a) : upd (upd (upd H d o) a u) d v = upd (upd H d v) a u := by
  funext b
  by_cases e1 : b = a
  · subst e1
    rw [upd_ne (Ne.symm h), upd_same, upd_same]
  · by_cases e2 : b = d
    · subst e2
      rw [upd_same, upd_ne e1, upd_same]
    · rw [upd_ne e2, upd_ne e1, upd_ne e2, upd_ne e1, upd_ne e2]
theorem ini2 (h : spIni K C [x, y] vs H Q E) : tI2 K s x y { nx := fun _ G => Q .non G, rt := Q } (L2.start ["self", x, y] vs) H := by
  obtain ⟨a, ws, rfl, hl, T, no, ha, q⟩ := h
  match ws, hl with
  | [v, w], _ =>
    refine ⟨_, rfl, a, C, _, rfl, Nat.le_add_left 1 999, T, ha, v, rfl, _, rfl, a, C, rfl, T, no x (by simp), .inl ⟨ha, fun d hd hne => ?_⟩⟩
    refine ⟨w, rfl, _, rfl, a, C, rfl, T, no y (by simp), .inr ⟨d, _, upd_same, by rw [upd_ne hne, upd_same], by show 1 ≤ 900; decide, ?_⟩⟩
    rw [upd_two hne]
    exact q d hd hne
end
/-- a class of errors as it stands behind the top: x its name, fs its fields -/
structure ErrI (P : Program) (w : World) (K : PySem.W.Frag) (mg : Str → Option Value) (base : Heap) (x : Str) (fs : List Str) : Prop where
  ex : ∃ C fI fd, mg x = some (.ref C) ∧ OexC K C ∧ (∀ f ∈ fs, PySem.W.findIn K (.ref C) f = some none) ∧ PySem.W.findIn K (.ref C) "__init__" = some (some (.ref fI)) ∧ PySem.W.typeIn K (.ref fI) = some (.type "function") ∧
    FnOk P w K mg base CX0 1 fI fd ("self" :: fs) (spIni K C fs) ∧ Binds K fd ("self" :: fs) []
def sRaise (x : Str) (fs : List Str) (xs : List Ex) : Sm := fun ρ f => (cArgs xs ρ f).bind fun ds f1 => if ds.length = fs.length ∧ fs.length ≤ 900 then .ex x (fs.zip ds).reverse f1 else .no
theorem lay_new {g : Gh} {H HF : Hp} {f : Feed} {p : Addr} {o : HO} (sub : Le HF H) (h : FeedAt g H HF f) (hp : H p = none) : Step g H HF (upd H p o) (upd HF p o) ∧ FeedAt g (upd H p o) (upd HF p o) f := by
  have hf : HF p = none := by
    cases z : HF p with
    | none => rfl
    | some o => rw [sub _ _ z] at hp; cases hp
  have l : Le HF (upd HF p o) := fun b o e => by
    rw [upd_ne (ne_of_none e hf)]
    exact e
  refine ⟨⟨fun b o _ e => ?_, l, fun b x y => ?_, fun b o e => ?_⟩, ⟨?_, ?_, ?_⟩⟩
  · rw [upd_ne (ne_of_none e hp)]
    exact e
  · rw [upd_ne (fun z => x.some (by rw [z]; exact hp))]
    exact y
  · by_cases z : b = p
    · subst z
      rw [upd_same] at e ⊢
      exact e
    · rw [upd_ne z] at e ⊢
      exact sub _ _ e
  · rw [upd_ne (ne_of_none h.d hp)]
    exact h.d
  · rw [upd_ne (ne_of_none h.d hp)]
    exact h.nf
  · exact l _ _ h.c
theorem map_zip1 : ∀ {fs : List Str} {α : Type} {vs : List α}, vs.length = fs.length → (fs.zip vs).map (·.1) = fs
  | [], _, _, _ => rfl
  | _ :: _, _, [], h => by cases h
  | f :: fs, _, v :: vs, h => by
    exact congrArg (f :: ·) (map_zip1 (by simpa using h))
theorem map_zip2 : ∀ {fs : List Str} {α : Type} {vs : List α}, vs.length = fs.length → (fs.zip vs).map (·.2) = vs
  | [], _, [], _ => rfl
  | [], _, _ :: _, h => by cases h
  | _ :: _, _, [], h => by cases h
  | f :: fs, _, v :: vs, h => by
    exact congrArg (v :: ·) (map_zip2 (by simpa using h))
section
variable {X : Cx} {E : XK} {x : Str} {fs : List Str} {e : Expr} {es : List Expr} {xs : List Ex} {p pos pos2 : Pos}
theorem raise_read {D : Ends} {σ : St} {H : Hp} {C : Addr} (hm : X.mg x = some (.ref C)) (T : OexC X.K C) (no : ∀ f ∈ fs, PySem.W.findIn X.K (.ref C) f = some none)
    (q : tDS X.K X.mg E (sRaise x fs xs) D σ H) : tMkE C (spIni X.K C fs) (argT X.K X.mg (fun _ => E) xs) σ H fun cls d H' => E cls d H' := by
  obtain ⟨g, HF, ρ, f, rel, q⟩ := q
  unfold sRaise at q
  refine args_read xs rel (rel.toE q) fun ds f1 vs G GF r1 s1 drs q1 => ?_
  by_cases c : ds.length = fs.length ∧ fs.length ≤ 900
  · rw [if_pos c] at q1
    have hl : vs.length = fs.length := drs.length.trans c.1
    refine ⟨by omega, fun a ha => ⟨a, vs, rfl, hl, T, no, upd_same, ?_⟩⟩
    have go : ∀ od G2 GF2, Step g G GF G2 GF2 → FeedAt g G2 GF2 f1 → Xd X.K G2 GF2 od (fs.zip ds).reverse → E (.ref C) od G2 := fun od G2 GF2 s2 h2 xd => q1 C od G2 GF2 hm s2 h2 xd
    match fs, hl with
    | [], hl =>
      obtain rfl : vs = [] := List.eq_nil_of_length_eq_zero hl
      refine ⟨rfl, .inr ⟨upd_same, ?_⟩⟩
      have e : del (upd G a (exo a C none)) a = G := by
        funext b
        by_cases z : b = a
        · rw [z, del_same, ha]
        · rw [del_ne z, upd_ne z]
      rw [e]
      exact go none G GF (Step.refl r1.sub) r1.feed ⟨[], .inl ⟨rfl, rfl⟩, by simp, by simpa using DRs.nil⟩
    | w :: ws, hl =>
      intro d hd hne
      have hd1 : G d = none := by rw [upd_ne hne] at hd; exact hd
      refine ⟨rfl, .inl ⟨d, _, upd_same, by rw [upd_ne hne, upd_same], hd1, ?_⟩⟩
      have e : upd (del (upd (upd (upd G a (exo a C none)) d (exd d ((w :: ws).zip vs).reverse)) a (exo a C (some d))) a) d (.xd ((w :: ws).zip vs).reverse) = upd G d (.xd ((w :: ws).zip vs).reverse) := by
        funext b
        by_cases z : b = d
        · rw [z, upd_same, upd_same]
        · rw [upd_ne z, upd_ne z]
          by_cases y : b = a
          · rw [y, del_same, ha]
          · rw [del_ne y, upd_ne y, upd_ne z, upd_ne y]
      rw [e]
      obtain ⟨s2, h2⟩ := lay_new (o := .xd ((w :: ws).zip vs).reverse) r1.sub r1.feed hd1
      refine go (some d) _ _ s2 h2 ⟨((w :: ws).zip vs).reverse, .inr ⟨d, rfl, upd_same⟩, ?_, ?_⟩
      · rw [List.map_reverse, List.map_reverse, map_zip1 hl, map_zip1 c.1]
      · rw [List.map_reverse, List.map_reverse, map_zip2 hl, map_zip2 c.1]
        exact (drs.mono s2.le).rev
  · rw [if_neg c] at q1
    exact (show False from q1).elim
theorem ds_raise (h : ErrI X.prog X.w X.K X.mg X.base x fs) (hc : X.calm = true) (tk : Takes X fun cls d _ H => E cls d H) (hr : Room 2 X.A) (hg : Gl X x) (ha : DA X (fun _ => E) (e :: es) xs)
    (hdb : (x == ("__debug__" : Str)) = false := by decide) (he : starEach (e :: es) X.env = (false, eval e X.env) :: starEach es X.env := by rfl) (hpl : (backTo pos (starEach es X.env)).any (·.1) = false := by rfl) :
    DS X E (.Raise (some (.Call (.Name x p) (e :: es) [] pos)) none pos2) (sRaise x fs xs) := by
  obtain ⟨C, fI, fd, hm, T, no, iC, tI, F, hb⟩ := h.ex
  exact ps_mono (ps_raise hc tk (pmk_e (k := 1) T iC tI F hr hb hg hm ha hdb he hpl)) fun D σ H q => raise_read hm T no q
theorem ds_raise0 (h : ErrI X.prog X.w X.K X.mg X.base x []) (hc : X.calm = true) (tk : Takes X fun cls d _ H => E cls d H) (hr : Room 2 X.A) (hg : Gl X x)
    (hdb : (x == ("__debug__" : Str)) = false := by decide) :
    DS X E (.Raise (some (.Call (.Name x p) [] [] pos)) none pos2) (sRaise x [] []) := by
  obtain ⟨C, fI, fd, hm, T, no, iC, tI, F, hb⟩ := h.ex
  exact ps_mono (ps_raise hc tk (pmk_e0 (k := 1) T iC tI F hr hb hg hm hdb)) fun D σ H q => raise_read hm T no q
end
/-! ### defs that let errors out -/
section
variable {P : Program} {w : World} {K : PySem.W.Frag} {mg : Str → Option Value} {base : Heap}
theorem fnX_ok {x qual : Str} {st : Stmt} {f : Addr} {fd : FuncData} {N ps : List Str} {k : Nat} {sp : Sp} (F : Fun K x qual st f fd) (S : FnScope N ps (defScope st)) (size : ∀ vs H Q E, sp vs H Q E → vs.length = ps.length)
    (body : ∀ (cdv : Value) (A : Around) (outer : List Env) (s : Shared) (H : Hp) (vs : List V) (Q : VK) (E : XK), A.guards = some [] → Room k (A.deeper (PyProof.Rows.envOfC qual (defScope st) s.heap.objs.size f cdv)) → sp vs H Q E →
      ∃ t, PSs (cxOf (L2.CX P w) P w K mg base N qual (defScope st) f cdv A outer s H E) (defBody st) t ∧ t { nx := fun _ G => Q .non G, rt := Q } (L2.start N vs) H) : FnG P w K mg base (L2.CX P w) (k + 1) f fd ps sp := by
  obtain ⟨oc, od, kV, doc, pm, an, cdv, ct, osl, rfl, lk, hcd⟩ := F.ex
  refine ⟨size, fun A outer s H args us vs Q E gd room e0 bnd rel hsp => ?_⟩
  have KX : K.In s.heap := e0.mod.kin.keeps (fun b o e => (e0.bs b o e).1)
  have par : ∀ y ∈ ps.zip us, (defScope st).names.lookup y.1 = some .local ∨
      ((defScope st).names.lookup y.1 = some .cell ∧ ((cellsFrom (s.heap.objs.size + 1) (defScope st).names []).lookup y.1).isSome = true) := by
    intro y hy
    rcases S.par y.1 (List.of_mem_zip hy).1 with q | q
    · exact .inl q
    · exact .inr ⟨q, PySem.W.cellsFrom_some _ _ _ (.inl q)⟩
  refine codeAny_call_function room.depth (KX _ _ lk) rfl S.co S.gen rfl
    (PySem.W.codeRec_of KX hcd) (bnd _ _ _ _ ?_)
  refine wpAny_newFunctionEnv_cells S.kind par ?_
  intro env he s1 x
  subst he
  have lim : s.heap.NoLimit := e0.mod.nolimit.keeps (fun b o e => (e0.bs b o e).1)
  refine ⟨lim.keeps x.toInCall.keep, codeAny_func ?_⟩
  obtain ⟨t, ht, hq⟩ := body cdv A outer s H vs Q E gd (room.deeper _) hsp
  have J0 := inv_start (CX := L2.CX P w) (E := E) S room.hd e0 (size _ _ _ _ hsp) rel x
  refine wpAny_mono (ht.run [] s1 (L2.start N vs) H _ J0 hq) ?_ (fun e s' hs => hs)
  intro fl s' hs
  cases fl with
  | next =>
    obtain ⟨σ2, H2, J, q⟩ := hs
    exact ⟨.non, H2, J.os, J.bare, J.base, J.hok, rfl, q⟩
  | ret u =>
    obtain ⟨v, σ2, H2, J, rv, q⟩ := hs
    exact ⟨v, H2, J.os, J.bare, J.base, J.hok, rv, q⟩
  | brk =>
    obtain ⟨_, _, _, q⟩ := hs
    exact q.elim
  | cont =>
    obtain ⟨_, _, _, q⟩ := hs
    exact q.elim
end
def dEndX : R Ctl → R RV := fun r => r.bind fun c f1 => match c with
  | .nx _ => .ok (.dat .none) f1
  | .rt v => .ok v.up f1
  | _ => .no
def dBodyX (n : Nat) (s : Sm) : Fn := fun as f => dEndX (s (as.map fnSlot ++ List.replicate (n - as.length) .emp) f)
def HasX (P : Program) (w : World) (K : PySem.W.Frag) (mg : Str → Option Value) (base : Heap) (k : Nat) (x : Str) (ps : List Str) (F : Fn) : Prop :=
  ∃ f fd, mg x = some (.ref f) ∧ PySem.W.keepIn K (.ref f) = true ∧ Binds K fd ps [] ∧ FnG P w K mg base (L2.CX P w) k f fd ps (spD K mg ps.length F)
theorem HasX.named {P : Program} {w : World} {K : PySem.W.Frag} {mg : Str → Option Value} {base : Heap} {k : Nat} {x y : Str} {ps : List Str} {F : Fn} (h : HasX P w K mg base k x ps F) (e : mg y = mg x) : HasX P w K mg base k y ps F := by
  obtain ⟨f, fd, h1, h2⟩ := h
  exact ⟨f, fd, e.trans h1, h2⟩
theorem has_mkX {P : Program} {w : World} {K : PySem.W.Frag} {mg : Str → Option Value} {base : Heap} {x qual : Str} {st : Stmt} {N ps : List Str} {k : Nat} {s : Sm} (T : Src K mg x qual st ps) (S : FnScope N ps (defScope st))
    (body : ∀ (f : Addr) (cdv : Value) (A : Around) (outer : List Env) (s0 : Shared) (H : Hp) (E : XK), A.guards = some [] → Room k (A.deeper (PyProof.Rows.envOfC qual (defScope st) s0.heap.objs.size f cdv)) →
      DSs (cxOf (L2.CX P w) P w K mg base N qual (defScope st) f cdv A outer s0 H E) E (defBody st) s) : HasX P w K mg base (k + 1) x ps (dBodyX N.length s) := by
  obtain ⟨f, fd, hm, F, hb⟩ := T.src
  refine ⟨f, fd, hm, F.kp, hb, fnX_ok F S (fun vs H Q E h => h.1) fun cdv A outer s0 H vs Q E gd room h => ?_⟩
  obtain ⟨hl, g, HF, as, fe, hG, hR⟩ := h
  refine ⟨_, body f cdv A outer s0 H E gd room, { g with H0 := H, HF0 := HF }, HF, _, fe, start_rel N hG, ?_⟩
  unfold dBodyX dEndX at hR
  cases z : s (as.map fnSlot ++ List.replicate (N.length - as.length) .emp) fe with
  | no =>
    rw [z] at hR
    exact (show False from hR).elim
  | ex c v f =>
    rw [z] at hR
    exact fun C od G GF q r xd => hR C od G GF q ⟨r.ext, r.le, r.new, r.sub⟩ ⟨r.feed.d, r.feed.nf, r.feed.c⟩ xd
  | ok c f1 =>
    rw [z] at hR
    cases c with
    | nx ρ => exact fun σ G GF r => (show Back K g H HF Q (.dat .none) f1 from hR) .non G GF ⟨r.ext, r.le, r.new, r.sub⟩ ⟨r.feed.d, r.feed.nf, r.feed.c⟩ .non
    | rt rv => exact fun v G GF r => (show Back K g H HF Q rv.up f1 from hR) v G GF ⟨r.ext, r.le, r.new, r.sub⟩ ⟨r.feed.d, r.feed.nf, r.feed.c⟩ (by
        have q := r.val
        cases hq : rv.up with
        | dat d =>
          rw [hq] at q
          exact q
        | own ds =>
          rw [hq] at q
          exact q
        | lent i ds => cases rv <;> cases hq
        | feed =>
          rw [hq] at q
          exact q)
    | bk ρ => exact (show False from hR).elim
    | ct ρ => exact (show False from hR).elim
section
variable {X : Cx} {k : Nat} {x : Str} {ps : List Str} {F : Fn} {p pos : Pos} {e : Expr} {es : List Expr} {xs : List Ex} {W : Wish}
theorem de_hasX (h : HasX X.prog X.w X.K X.mg X.base k x ps F) (tk : Takes X fun cls d σ H => W σ cls d H) (gd : X.A.guards = some []) (hr : Room k X.A) (hg : Gl X x)
    (ha : DA X W (e :: es) xs) (hn : xs.length = ps.length := by rfl) (hdb : (x == ("__debug__" : Str)) = false := by decide) (he : starEach (e :: es) X.env = (false, eval e X.env) :: starEach es X.env := by rfl) (hpl : (backTo pos (starEach es X.env)).any (·.1) = false := by rfl) :
    DE X W (.Call (.Name x p) (e :: es) [] pos) (cCall F xs) := by
  obtain ⟨f, fd, hm, hk, hb, G⟩ := h
  refine pe_mono (t := fun σ H Q => argT X.K X.mg W xs σ H fun vs I => spD X.K X.mg ps.length F vs I Q (W σ)) ⟨fun pins s σ H Q I h => wpAny_Call_Name_kw (ld_glob I hg hm ?_ hdb)⟩ ?_
  · refine PySem.W.callWith_K (h₀ := X.base) I.ok.mod.kin hk (thn (ha.run pos pins s σ H _ I h) ?_) he hpl
    rintro us s1 ⟨vs, H1, I1, r, q⟩
    refine ⟨I1.kIn, ?_⟩
    have hl : (us ++ []).length = ps.length := by
      rw [List.append_nil, ← r.length]
      exact G.size _ _ _ _ q
    have hb2 := hb s1 us I1.kIn hl
    rw [List.append_nil] at hb2
    refine wpAny_call (codeAny_mono (G.go X.A X.stack s1 H1 ⟨us, []⟩ us vs Q (W σ) gd hr I1.env0 hb2 r q) ?_)
    intro res s' hq
    cases res with
    | error e => exact tk e s' (XE.of_call I1 (fun _ _ _ h => h) hq)
    | ok fl =>
      cases fl with
      | ret u => exact I1.after hq
      | next => exact hq.elim
      | brk => exact hq.elim
      | cont => exact hq.elim
  · intro σ H Q ⟨g, HF, ρ, fe, rel, q⟩
    refine vals_read xs rel q fun as f1 vs I IF hl r1 s1 drs q1 => ⟨hl.trans hn, g, IF, as, f1, ⟨r1.sub, r1.feed, drs⟩, ?_⟩
    exact ROk.mono q1 fun rv f2 q2 v J JF s2 h2 rr => (show Fin X.K g σ H HF Q rv f2 from q2) v J JF (s1.trans r1.feed s2) h2 (rr.any.back r1.feed s1)
end
end Dn

end
section
set_option maxHeartbeats 4000000
/-! try: one statement; except: a suite; errors held as data -/
namespace Dn
open PySem PySem.Spec L2
theorem takesN {X : Cx} : Takes X (fun _ _ _ _ => False) := fun _ _ x => by
  obtain ⟨_, _, _, _, _, _, _, _, _, _, _, _, _, _, _, _, z⟩ := x
  exact z.elim
/-! ### without a name -/
def sTryS0 (i : Nat) (x : Ex) (names : List Str) (su : Sm) : Sm := fun ρ f => match x ρ f with
  | .no => .no
  | .ok rv f1 => match slotOf rv with
    | some s => .ok (.nx (ρ.set i s)) f1
    | none => .no
  | .ex c _ f1 => if names.contains c then noEx (su ρ f1) else .no
section
variable {K : PySem.W.Frag} {mg : Str → Option Value} {g : Gh} {E E2 : XK}
theorem noEx_XF {α : Type} {r : R α} {P : α → Feed → Prop} (h : XF K mg g E (noEx r) P) : XF K mg g E2 r P := by
  cases r with
  | no => exact h
  | ok a f => exact h
  | ex c vs f => exact (show False from h).elim
end
section
variable {X : Cx} {E : XK} {n y : Str} {e : Expr} {pn2 pos pos' pos2 np : Pos} {b₀ : Stmt} {suite : List Stmt} {x : Ex} {i : Nat} {su : Sm} {cv : Value} {names : List Str}
theorem ds_tryS0 (hs : X.stack = X.env :: X.outer) (hf : X.env.frame = some X.env.locals) (hN : X.N.Nodup) (hi : X.N[i]? = some n) (hx : Loc X.env.scope n) (hc : Names X y cv)
    (hh : ∀ c ∈ names, ∃ C, X.mg c = some (.ref C) ∧ PySem.W.exmOne X.K (.ref C) cv = some true)
    (he : ∀ (W : WX) (pn : List (Addr × Obj)) (xe : Value → Shared → Prop), Takes (X.tr pn xe) W → PassesOwn (model X.prog X.w) X.A X.env xe → DE (X.tr pn xe) (fun σ cls d H => W cls d σ H) e x)
    (hsu : ∀ (a : Addr) (oe : Obj) (pn : List (Addr × Obj)), DSs (X.suite a ((a, oe) :: pn)) (fun _ _ _ => False) (b₀ :: suite) su)
    (hsw : swapsWith e (some (.Name n pn2)) pos2.line X.env = pure false := by rfl)
    (hl : X.fn n = true ∨ X.env.scope.names.lookup n = some .local := by first | exact .inl rfl | exact .inr rfl | assumption) :
    DS X E (.Try [.Assign [.Name n pn2] e pos2] [.ExceptHandler (some (.Name y np)) none (b₀ :: suite) pos'] [] [] pos) (sTryS0 i x names su) := by
  refine ps_mono (ps_try_only (tb := fun W => tAsg (tD X.K X.mg (fun σ cls d H => W cls d σ H) x) (gName i)) (ts := fun _ _ _ => tDS X.K X.mg (fun _ _ _ => False) su) hs hf hc takesN
    (fun W pn xe tk po => pss_one (ps_set (X := X.tr pn xe) hN hi hx (he W pn xe tk po) hsw hl)) (fun a oe cls d pn hz hf => hsu a oe pn)) fun D σ H q => ?_
  obtain ⟨g, HF, ρ, f, rel, q⟩ := q
  refine ⟨g, HF, ρ, f, rel, ?_⟩
  unfold sTryS0 at q
  cases z : x ρ f with
  | no =>
    rw [z] at q
    exact q
  | ok rv f1 =>
    rw [z] at q
    intro v G GF s1 h1 rr
    cases z2 : slotOf rv with
    | none =>
      simp only [z2] at q
      exact (show False from q).elim
    | some s =>
      simp only [z2] at q
      exact (show FinS X.K g D (.nx (ρ.set i s)) f1 from q) _ G GF (rel.put (rel.step s1 h1) rr z2)
  | ex c vs f1 =>
    rw [z] at q
    intro C od G GF hm s1 h1 xd
    by_cases c1 : names.contains c = true
    · simp only [if_pos c1] at q
      obtain ⟨C2, m2, ex⟩ := hh c (by simpa using c1)
      obtain rfl : C2 = C := by
        rw [m2] at hm
        cases hm
        rfl
      exact ⟨true, ex, fun _ a na => ⟨g, GF, ρ, f1, rel.step s1 h1, noEx_XF q⟩, fun z => Bool.noConfusion z⟩
    · simp only [if_neg c1] at q
      exact (show False from q).elim
end
/-! ### with a name: the error is held as a datum -/
def excD (c : Str) (vs : List (Str × PyData)) : PyData := .dict ((.none, .str c) :: vs.map fun p => (.str p.1, p.2))
theorem fld_map : ∀ {xs : List (Str × V)} {vs : List (Str × PyData)}, xs.map (·.1) = vs.map (·.1) → fldD xs (vs.map (·.2)) = vs.map fun p => (.str p.1, p.2)
  | [], [], _ => rfl
  | [], _ :: _, h => by cases h
  | _ :: _, [], h => by cases h
  | x :: xs, v :: vs, h => by
    have h1 : x.1 = v.1 ∧ xs.map (·.1) = vs.map (·.1) := by simpa using h
    show (PyData.str x.1, v.2) :: fldD xs (vs.map (·.2)) = (PyData.str v.1, v.2) :: _
    rw [fld_map h1.2, h1.1]
/-- the name goes -/
def drp (j : Nat) (r : R Ctl) : R Ctl := r.bind fun c f => match c with
  | .nx ρ => .ok (.nx (ρ.set j .emp)) f
  | .bk ρ => .ok (.bk (ρ.set j .emp)) f
  | .ct ρ => .ok (.ct (ρ.set j .emp)) f
  | .rt v => .ok (.rt v) f
def caught (j : Nat) (names : List Str) (su : Sm) (c : Str) (vs : List (Str × PyData)) (ρ : Rho) (f : Feed) : R Ctl :=
  if names.contains c then drp j (noEx (su (ρ.set j (.dat (excD c vs))) f)) else .no
def sTryS (i j : Nat) (x : Ex) (names : List Str) (su : Sm) : Sm := fun ρ f => match x ρ f with
  | .no => .no
  | .ok rv f1 => match slotOf rv with
    | some s => .ok (.nx (ρ.set i s)) f1
    | none => .no
  | .ex c vs f1 => caught j names su c vs ρ f1
def sTryR (j : Nat) (x : Ex) (names : List Str) (su : Sm) : Sm := fun ρ f => match x ρ f with
  | .no => .no
  | .ok rv f1 => .ok (.rt rv) f1
  | .ex c vs f1 => caught j names su c vs ρ f1
section
variable {X : Cx} {pins : List (Addr × Obj)} {σ : St} {H : Hp} {sI s s' : Shared} {B : Heap}
/-- back on the ground, the error's object tracked -/
theorem landedT {a C : Addr} {d : Option Addr} (I : Inv X pins σ H sI) (nb : ∀ b o, sI.heap.get? b = some o → b ∉ frs X.stack → B.get? b = some o) (st : B.StaysIn s'.heap) (up : sI.heap.UpToSlots s'.heap) (os : s'.os = sI.os) (ag : PyProof.Rows.AllBare s'.gens)
    (na : H a = none) (gone : sI.heap.get? a = none) (ha : ∃ oe vs, s'.heap.get? a = some oe ∧ Zc (.ref C) d oe ∧ oe.data = .fields vs) : Inv X pins σ (upd H a (ExH a C d)) s' := by
  have nf : ∀ b ∈ frs X.stack, ∀ o, sI.heap.get? b = some o → ∃ sl, s'.heap.get? b = some { o with slots := sl } := fun b hb o e => by
    obtain ⟨_, o', e', hd⟩ := I.stack.mem hb
    rw [e] at e'; cases e'
    exact up b o e hd
  have hok : HOk X.prog X.w (upd H a (ExH a C d)) s'.heap := by
    have h1 : HOk X.prog X.w H s'.heap := (I.inGround nb).kept st
    intro b u e
    by_cases hb : b = a
    · subst hb
      rw [upd_same] at e
      cases e
      obtain ⟨oe, vs, e1, e2, e3⟩ := ha
      exact ⟨⟨oe, vs, e1, e2, e3⟩, ⟨oe, e1⟩, fun h1 h2 ⟨o, v, q1, q2, q3⟩ k => ⟨o, v, k o q1, q2, q3⟩⟩
    · rw [upd_ne hb] at e
      exact (h1 b u e).stay (fun c v _ q => q) (fun c q => by rw [upd_ne (ne_of_none q na)]; exact q) fun c xs q => by rw [upd_ne (ne_of_none q na)]; exact q
  have J := I.call (ch := []) (h' := s'.heap) (g' := s'.gens) (t' := s'.toks) (d' := s'.drawn) (H' := upd H a (ExH a C d))
    ⟨fun b o e _ hb _ => st b o (nb b o e hb), fun b o e _ hb _ => nf b hb o e, fun b o e n _ => by
      rw [upd_ne (fun z => by rw [z, gone] at e; cases e)]
      exact n, fun b o e _ => by
      by_cases hb : b ∈ frs X.stack
      · obtain ⟨sl, q⟩ := nf b hb o e
        exact ⟨_, q⟩
      · exact ⟨o, st b o (nb b o e hb)⟩, fun b xs e => by rw [upd_ne (ne_of_none e na)]; exact e, fun b o u e => by rw [upd_ne (ne_of_none e na)]; exact e, fun b ps e => ⟨#[], by rw [upd_ne (ne_of_none e na), e]; simp⟩⟩
    hok ag (fun _ z => nomatch z)
  obtain ⟨a1, a2, a3, a4, a5⟩ := s'
  have e5 : a5 = sI.os := os
  subst e5
  exact J
theorem suiteT (I : Inv X pins σ H s) (a : Addr) : Inv (X.suite a (X.pn ++ pins)) [] σ H s :=
  ⟨I.ok.suite _ _, I.os, I.bare, I.base, I.loc, I.cell, I.free, I.freeC, fun p hp => by
    rw [List.append_nil] at hp
    exact I.pin p hp, I.hok, I.len⟩
theorem unsuiteT {a : Addr} {pn' : List (Addr × Obj)} (I : Inv (X.suite a (X.pn ++ pins)) pn' σ H s) (ok : X.Ok) : Inv X pins σ H s :=
  ⟨ok, I.os, I.bare, I.base, I.loc, I.cell, I.free, I.freeC, fun p hp => I.pin p (List.mem_append_left _ hp), I.hok, I.len⟩
end
/-- what the clause wishes of an exception of the body; every one is caught -/
def wT (K : PySem.W.Frag) (c : Value) (i : Nat) (ts : TS) (D : Ends) : WX := fun cls d σ H =>
  ∃ C, cls = .ref C ∧ PySem.W.exmOne K (.ref C) c = some true ∧ ∀ a, H a = none → ts { nx := fun σ' H' => D.nx (σ'.set i none) H', rt := D.rt, bk := fun σ' H' => D.bk (σ'.set i none) H', ct := fun σ' H' => D.ct (σ'.set i none) H' } (σ.set i (some (.ref a))) (upd H a (ExH a C d))
section
variable {X : Cx} {x n : Str} {c : Value} {i : Nat} {body suite : List Stmt} {b₀ : Stmt} {np pos pos' : Pos} {tb : WX → TS} {ts : TS}
theorem ps_tryT (hs : X.stack = X.env :: X.outer) (hf : X.env.frame = some X.env.locals) (hN : X.N.Nodup) (hi : X.N[i]? = some n) (hln : X.env.kindOf n = some .local) (hc : Names X x c)
    (hb : ∀ (W : WX) (pn : List (Addr × Obj)) (xe : Value → Shared → Prop), Takes (X.tr pn xe) W → PassesOwn (model X.prog X.w) X.A X.env xe → PSs (X.tr pn xe) body (tb W))
    (hsu : ∀ (a : Addr) (pn : List (Addr × Obj)), PSs (X.suite a pn) (b₀ :: suite) ts) :
    PS X (.Try body [.ExceptHandler (some (.Name x np)) (some n) (b₀ :: suite) pos'] [] [] pos) (fun D σ H => tb (wT X.K c i ts D) D σ H) := by
  refine ⟨fun pins s σ H D I h => ?_⟩
  have ok := I.ok
  have hfr : X.A.frames = some (X.env :: X.outer) := by rw [ok.frames, hs]
  have hloc : Loc X.env.scope n := .inl hln
  refine wpAny_Try_except ?_
  refine wpAny_mono ((hb (wT X.K c i ts D) (X.pn ++ pins) (fun e s₁ => wpAny (model X.prog X.w) X.A (noteFrame e X.env) (fun _ s₂ => wpAny (model X.prog X.w) X.A (setFlight e none) (fun _ s₃ =>
    wpAny (model X.prog X.w) X.A (handleBy e X.env [.ExceptHandler (some (.Name x np)) (some n) (b₀ :: suite) pos']) (SP X pins D) X.xe s₃) X.xe s₂) X.xe s₁) (fun u s' xx => ?_) PassesOwn.looking).run [] s σ H D (I.toTry _) h) (fun f s1 hsp => ?_) (fun e s1 he => he)
  · -- the catch
    obtain ⟨a, B, sI, pins', σ', H', cls, d, rfl, J', nb, up, sky, na, os, ag, C, rfl, hb1, hyes⟩ := xx
    have J : Inv X pins σ' H' sI := J'.ofTry ok
    have sky' : Sky B (X.env :: X.outer) a (Zc (.ref C) d) X.env.locals s'.heap := by rw [← hs]; exact sky
    show wpAny (model X.prog X.w) X.A (noteFrame (.ref a) X.env) _ _ _
    refine Sky.land Zc.steady hfr hf sky' fun h3 fl3 up3 => ?_
    have J3 : Inv X pins σ' H' { s' with heap := h3 } := J.landed nb fl3.1 (up.trans up3) os ag
    obtain ⟨oe3, vs3, he3, hz3, hd3⟩ := fl3.there
    have notFr : ∀ {h : Heap} {o : Obj} {vs : Array Value}, h.FunFrames B (X.env :: X.outer) → h.get? a = some o → o.data = .fields vs → a ∉ frs (X.env :: X.outer) := fun {h o vs} ff e dd hm => by
      obtain ⟨_, o', e', hnf⟩ := ff.mem hm
      rw [e] at e'; cases e'
      exact hnf _ dd
    have nfr := notFr fl3.2.2.1 he3 hd3
    have nL : a ≠ X.env.locals := fun z => nfr (List.mem_filterMap.mpr ⟨X.env, List.mem_cons_self, by rw [hf, z]⟩)
    have nF : a ∉ X.fs := fun hm => by
      obtain ⟨e, he, q⟩ := List.mem_filterMap.mp hm
      exact nfr (List.mem_filterMap.mpr ⟨e, List.mem_cons_of_mem _ he, q⟩)
    have gone : sI.heap.get? a = none := by
      cases z : sI.heap.get? a with
      | none => rfl
      | some o =>
        have z2 := nb a o z (by rw [hs]; exact nfr)
        rw [fl3.2.1] at z2
        cases z2
    have S3 := J3.suite he3 hd3 na nL nF
    refine wpAny_handleBy_cons (codeAny_handlers_test ?_) (by intro q; cases q)
    have LT : PySem.W.Looks (model X.prog X.w) h3 (typeOf (.ref a)) (.ref C) := fun A Q E s k q => wpAny_typeOf_ref (k _ _ he3) (by rw [hz3.1]; exact q)
    have LM := PySem.W.exm_one (M := model X.prog X.w) (J3.kIn) LT hb1
    have test : ∀ {Q : Value → Shared → Prop} {E : Value → Shared → Prop}, Q c { s' with heap := h3 } → wpAny (model X.prog X.w) (X.A.mark (some (.ref a))) (eval (.Name x np) X.env) Q E { s' with heap := h3 } := fun {Q E} q => by
      obtain ⟨hg, hdbg, hm | ⟨hm, hv, hnn⟩⟩ := hc
      · exact ld_glob (X := X.suite a ((a, oe3) :: (X.pn ++ pins))) S3 hg hm q hdbg
      · exact ld_blt (X := X.suite a ((a, oe3) :: (X.pn ++ pins))) S3 hg hm hv q hnn hdbg
    refine test (LM.here ?_)
    refine codeAny_handlers_suite_as ?_
    refine HandSPX.lands_againZ fl3 fun h4 fl4 up4 => ?_
    obtain ⟨oe4, vs4, he4, hz4, hd4⟩ := fl4.there
    have J4 : Inv X pins σ' (upd H' a (ExH a C d)) { s' with heap := h4 } := landedT J nb fl4.1 ((up.trans up3).trans up4) os ag na gone ⟨oe4, vs4, he4, hz4, hd4⟩
    have S4 := suiteT J4 a
    refine store_ok (X := X.suite a (X.pn ++ pins)) (v := .ref a) S4 hN hi hloc rfl (fun s5 S5 => ?_) (.inr hln)
    refine wpAny_mono ((hsu a (X.pn ++ pins)).run [] s5 _ _ _ S5 (hyes a na)) (fun f s6 hsp => ?_) (fun _ _ z => False.elim z)
    have end_ : ∀ {σ6 : St} {H6 : Hp} {Q : Shared → Prop}, Inv (X.suite a (X.pn ++ pins)) [] σ6 H6 s6 → (∀ s7, Inv X pins (σ6.set i none) H6 s7 → Q s7) →
        wpAny (model X.prog X.w) X.A (do bindName X.env n .none; unbindBehindTheSuite X.env n pos') (fun _ s7 => Q s7) X.xe s6 := fun {σ6 H6 Q} S6 hq => gone_ok (unsuiteT S6 ok) hN hi hln hq
    cases f with
    | next =>
      obtain ⟨σ6, H6, S6, q6⟩ := hsp
      exact end_ S6 fun s7 J7 => ⟨_, _, J7, q6⟩
    | brk =>
      obtain ⟨σ6, H6, S6, q6⟩ := hsp
      exact end_ S6 fun s7 J7 => ⟨_, _, J7, q6⟩
    | cont =>
      obtain ⟨σ6, H6, S6, q6⟩ := hsp
      exact end_ S6 fun s7 J7 => ⟨_, _, J7, q6⟩
    | ret u =>
      obtain ⟨v6, σ6, H6, S6, r6, q6⟩ := hsp
      exact end_ S6 fun s7 J7 => ⟨_, _, _, J7, r6, q6⟩
  · cases f with
    | next =>
      obtain ⟨σ', H', J', q⟩ := hsp
      exact wpAny_execs_nil ⟨σ', H', J'.ofTry ok, q⟩
    | brk =>
      obtain ⟨σ', H', J', q⟩ := hsp
      exact ⟨σ', H', J'.ofTry ok, q⟩
    | cont =>
      obtain ⟨σ', H', J', q⟩ := hsp
      exact ⟨σ', H', J'.ofTry ok, q⟩
    | ret u =>
      obtain ⟨v, σ', H', J', r, q⟩ := hsp
      exact ⟨v, σ', H', J'.ofTry ok, r, q⟩
end
end Dn

end
section
set_option maxHeartbeats 4000000
/-! errors held as data: asked of their class, their fields read; try with a name -/
namespace Dn
open PySem PySem.Spec L2
def errNames : List Str := ["NoRatio", "NoAge", "NoBeat", "NoPaper", "TooMany", "NoText", "NoLines", "NoName", "NoRow", "FreshError"]
def errFields : List Str := ["age", "beat", "word", "place", "at", "row", "name"]
def exSub (c t : Str) : Bool := t == "ValueError" || t == "FreshError" || c == t
def excOk (K : PySem.W.Frag) (C : Addr) : Bool := decide (PySem.W.findIn K (.ref C) "__getattribute__" = some (some (.builtin "BaseException.__getattribute__"))) && decide (PySem.W.findIn K (.ref C) "__getattr__" = some none) &&
  decide (PySem.W.subIn K (.ref C) (.type "BaseException") = some true) && PySem.W.hasDictIn K C && decide (PySem.W.findIn K (.ref C) "__class__" = some (some (.builtin "object.__class__"))) && decide (PySem.W.mroIn K C (.type "object") = some true) &&
  decide (PySem.W.typeIn K (.ref C) = some (.type "type")) && errFields.all fun f => decide (PySem.W.findIn K (.ref C) f = some none)
def excAll (K : PySem.W.Frag) : Bool := decide (PySem.W.specialIn K (.builtin "object.__class__") "__get__" = some (some (.builtin "getset_descriptor.__get__"))) && decide (PySem.W.takesIn K (.builtin "object.__class__") = some true) &&
  K.all fun p => match errNm K p.1 with
    | some c => !(errNames.contains c) || excOk K p.1
    | none => true
def isAll (K : PySem.W.Frag) (t : Str) (cv : Value) : Bool := K.all fun p => match errNm K p.1 with
    | some c => !(errNames.contains c) || (decide (PySem.W.kitOne K (.ref p.1) cv = some (exSub c t)) && decide (PySem.W.exmOne K (.ref p.1) cv = some (exSub c t)))
    | none => true
/-- what is asked of a class by its name -/
structure ErrT (K : PySem.W.Frag) (mg : Str → Option Value) (t : Str) (cv : Value) : Prop where
  nm : mg t = some cv ∨ (mg t = none ∧ bootBuiltins t = some cv ∧ t ≠ "__name__")
  all : isAll K t cv = true
theorem errNm_mem {K : PySem.W.Frag} {C : Addr} {c : Str} (h : errNm K C = some c) : ∃ o, (C, o) ∈ K := by
  unfold errNm at h
  cases z : K.lookup C with
  | none =>
    unfold PySem.W.clsIn at h
    rw [z] at h
    cases h
  | some o =>
    refine ⟨o, ?_⟩
    clear h
    induction K with
    | nil => cases z
    | cons p K ih =>
      obtain ⟨b, u⟩ := p
      by_cases e : C = b
      · subst e
        simp [List.lookup] at z
        subst z
        exact List.mem_cons_self
      · have e2 : (C == b) = false := by simpa using e
        simp only [List.lookup, e2] at z
        exact List.mem_cons_of_mem _ (ih z)
theorem excAll_of {K : PySem.W.Frag} {C : Addr} {c : Str} (h : excAll K = true) (e : errNm K C = some c) (hc : errNames.contains c = true) : excOk K C = true := by
  obtain ⟨o, m⟩ := errNm_mem e
  unfold excAll at h
  have h2 := List.all_eq_true.mp (Bool.and_eq_true_iff.mp h).2 _ m
  simp only [e, hc, Bool.not_true, Bool.false_or] at h2
  exact h2
theorem isAll_of {K : PySem.W.Frag} {C : Addr} {c t : Str} {cv : Value} (h : isAll K t cv = true) (e : errNm K C = some c) (hc : errNames.contains c = true) : PySem.W.kitOne K (.ref C) cv = some (exSub c t) ∧ PySem.W.exmOne K (.ref C) cv = some (exSub c t) := by
  obtain ⟨o, m⟩ := errNm_mem e
  unfold isAll at h
  have h2 := List.all_eq_true.mp h _ m
  simp only [e, hc, Bool.not_true, Bool.false_or, Bool.and_eq_true, decide_eq_true_eq] at h2
  exact h2
theorem excOk_of {K : PySem.W.Frag} {C : Addr} (h : excOk K C = true) : PySem.W.findIn K (.ref C) "__getattribute__" = some (some (.builtin "BaseException.__getattribute__")) ∧ PySem.W.findIn K (.ref C) "__getattr__" = some none ∧ PySem.W.subIn K (.ref C) (.type "BaseException") = some true ∧
    PySem.W.hasDictIn K C = true ∧ PySem.W.findIn K (.ref C) "__class__" = some (some (.builtin "object.__class__")) ∧ PySem.W.mroIn K C (.type "object") = some true ∧ ∀ f ∈ errFields, PySem.W.findIn K (.ref C) f = some none := by
  unfold excOk at h
  simp only [Bool.and_eq_true, decide_eq_true_eq, List.all_eq_true] at h
  exact ⟨h.1.1.1.1.1.1.1, h.1.1.1.1.1.1.2, h.1.1.1.1.1.2, h.1.1.1.1.2, h.1.1.1.2, h.1.1.2, h.2⟩
theorem excAll_g {K : PySem.W.Frag} (h : excAll K = true) : PySem.W.specialIn K (.builtin "object.__class__") "__get__" = some (some (.builtin "getset_descriptor.__get__")) ∧ PySem.W.takesIn K (.builtin "object.__class__") = some true := by
  unfold excAll at h
  have h1 := (Bool.and_eq_true_iff.mp h).1
  simpa only [Bool.and_eq_true, decide_eq_true_eq] using h1
theorem errNm_cls {K : PySem.W.Frag} {C : Addr} {c : Str} (h : errNm K C = some c) : (PySem.W.clsIn K C).isSome = true := by
  unfold errNm at h
  cases z : PySem.W.clsIn K C with
  | none => rw [z] at h; cases h
  | some o => rfl
section
variable {X : Cx} {pins : List (Addr × Obj)} {σ : St} {H : Hp} {s : Shared} {a C : Addr} {od : Option Addr} {xs : List (Str × V)} {c : Str}
/-- the instance as the library looks at it -/
theorem inst_at (I : Inv X pins σ H s) (ha : H a = some (ExH a C od)) (hx : XdH H od xs) : ∃ (ox : Obj) (oo : Option Obj), PySem.W.InstAt s.heap a ox C oo := by
  have h1 : ObjOk X.prog X.w H s.heap a (.ext fun h => ∃ oe vs, h.get? a = some oe ∧ Zc (.ref C) od oe ∧ oe.data = .fields vs) := I.hok a _ ha
  obtain ⟨⟨oe, vs, e1, e2, e3⟩, _, _⟩ := h1
  have hn : PySem.W.notCls oe = true := by unfold PySem.W.notCls; rw [e3] <;> rfl
  rcases hx with ⟨rfl, _⟩ | ⟨d, rfl, hd⟩
  · exact ⟨oe, none, e1, e2.1, hn, by rw [e2.2]; trivial⟩
  · have h2 : ObjOk X.prog X.w H s.heap d (.xd xs) := I.hok d _ hd
    obtain ⟨mA, hns, hr⟩ := h2
    obtain ⟨oD, ho, _⟩ := lookIn_ns hns
    exact ⟨oe, some oD, e1, e2.1, hn, by rw [e2.2]; exact ho⟩
end
/-- isinstance(e, c) -/
def rIsX (K : PySem.W.Frag) : List V → Hp → VK → Prop := fun xs H Q => ∃ (a C : Addr) (od : Option Addr) (fs : List (Str × V)) (c : Str) (cl : V) (cv : Value) (b : Bool), xs = [.ref a, cl] ∧ H a = some (ExH a C od) ∧ XdH H od fs ∧ excAll K = true ∧ errNm K C = some c ∧ errNames.contains c = true ∧
  (∀ u, RelV cl u → u = cv) ∧ PySem.W.kitOne K (.ref C) cv = some b ∧ Q (.bl b) H
theorem call_isX {X : Cx} : CallR X (.builtin "isinstance") (rIsX X.K) := by
  intro pins s σ H xs us Q I r h
  obtain ⟨a, C, od, fs, c, cl, cv, b, rfl, ha, hx, al, en, hc, hcv, e, q⟩ := h
  obtain ⟨u1, u2, rfl, r1, r2⟩ := vals2 r
  cases (show u1 = Value.ref a from r1)
  obtain rfl := hcv _ r2
  obtain ⟨h1, h2, h3, h4, h5, h6, h7⟩ := excOk_of (excAll_of al en hc)
  obtain ⟨g1, g2⟩ := excAll_g al
  obtain ⟨ox, oo, J⟩ := inst_at I ha hx
  exact PySem.W.kia_one (PySem.W.kitx_exc (errNm_cls en) h1 h2 h3 h5 g1 g2 h6) I.kIn J e (fun z => nomatch z) fun tk => ⟨.bl b, H, I.tok tk, rfl, q⟩
/-- isinstance(e, (c, d, ..)), classes of the program -/
def rIsXT (K : PySem.W.Frag) : List V → Hp → VK → Prop := fun xs H Q => ∃ (a C tp : Addr) (od : Option Addr) (fs : List (Str × V)) (c : Str) (Cs : List Addr) (b : Bool), xs = [.ref a, .ref tp] ∧ H a = some (ExH a C od) ∧ XdH H od fs ∧ excAll K = true ∧ errNm K C = some c ∧ errNames.contains c = true ∧
  H tp = some (.tup (Cs.map V.ref)) ∧ PySem.W.kitAny K (.ref C) (Cs.map Value.ref) = some b ∧ Q (.bl b) H
theorem vals_refs : ∀ {Cs : List Addr} {us : List Value}, Vals (Cs.map V.ref) us → us = Cs.map Value.ref
  | [], _, .nil => rfl
  | C :: Cs, _, .cons r rs => by
    rw [vals_refs rs, show _ = Value.ref C from r]
    rfl
theorem call_isXT {X : Cx} : CallR X (.builtin "isinstance") (rIsXT X.K) := by
  intro pins s σ H xs us Q I r h
  obtain ⟨a, C, tp, od, fs, c, Cs, b, rfl, ha, hx, al, en, hc, ht, e, q⟩ := h
  obtain ⟨u1, u2, rfl, r1, r2⟩ := vals2 r
  cases (show u1 = Value.ref a from r1)
  cases (show u2 = Value.ref tp from r2)
  obtain ⟨h1, h2, h3, h4, h5, h6, h7⟩ := excOk_of (excAll_of al en hc)
  obtain ⟨g1, g2⟩ := excAll_g al
  obtain ⟨ox, oo, J⟩ := inst_at I ha hx
  obtain ⟨_, its, rv, o, p1, p2, n, p3⟩ := (show ObjOk X.prog X.w H s.heap tp (.tup (Cs.map V.ref)) from I.hok tp _ ht)
  have e3 := vals_refs rv
  subst e3
  obtain ⟨oc, od, dt, sl⟩ := o
  simp only at p2 p3
  subst p2 p3
  exact PySem.W.kia_tup (PySem.W.kitx_exc (errNm_cls en) h1 h2 h3 h5 g1 g2 h6) I.kIn J p1 e (fun z => nomatch z) fun tk => ⟨.bl b, H, I.tok tk, rfl, q⟩
/-! as expressions over data -/
def excNm : PyData → Option Str
  | .dict ((.none, .str c) :: _) => if errNames.contains c then some c else none
  | _ => none
def oIsE (t : Str) : Op1 := fun d => (excNm d).map fun c => .dat (.bool (exSub c t))
def oIsEs (ts : List Str) : Op1 := fun d => (excNm d).map fun c => .dat (.bool (ts.any (exSub c)))
def fldGet (k : Str) : List (PyData × PyData) → Option PyData
  | (.str n, d) :: r => if k = n then some d else fldGet k r
  | _ => none
def oFld (k : Str) : Op1 := fun d => match d with
  | .dict ((.none, .str c) :: r) => if errNames.contains c ∧ errFields.contains k then (fldGet k r).map .dat else none
  | _ => none
theorem excNm_some {d : PyData} {c : Str} (h : excNm d = some c) : ∃ r, d = .dict ((.none, .str c) :: r) ∧ errNames.contains c = true := by
  unfold excNm at h
  split at h
  · rename_i c2 r
    by_cases q : errNames.contains c2 = true
    · rw [if_pos q] at h
      cases h
      exact ⟨r, rfl, q⟩
    · rw [if_neg q] at h
      cases h
  · cases h
theorem Top.exc {K : PySem.W.Frag} {g : Gh} {H HF : Hp} {v : V} {c : Str} {r : List (PyData × PyData)} (t : Top K g H HF v (.dict ((.none, .str c) :: r))) (l : Le HF H) : ∃ a C od xs ds, v = .ref a ∧ H a = some (ExH a C od) ∧ errNm K C = some c ∧ XdH H od xs ∧ DRs K HF (xs.map (·.2)) ds ∧ r = fldD xs ds := by
  rcases t with h | ⟨p, vs, ds, rfl, e, _⟩
  · cases h with
    | @dic _ xs _ h e r =>
      clear r
      cases xs with
      | nil => simp at e
      | cons x xs =>
        obtain ⟨x1 | x1, x2⟩ := x <;> simp [keyD] at e
    | exc h1 h2 h3 h4 => exact ⟨_, _, _, _, _, rfl, l _ _ h1, h2, h3.mono l, h4, rfl⟩
  · cases e
section
variable {X : Cx} {W : Wish} {fa : Ex} {e : Expr} {p p2 pos : Pos}
theorem de_isE {t : Str} {cv : Value} {cl : V} (al : excAll X.K = true) (T : ErrT X.K X.mg t cv) (hcl : (∃ C, cv = .ref C ∧ cl = .ref C) ∨ (∃ n, cv = .type n ∧ cl = .ty n)) (hg : Gl X "isinstance") (hm : X.mg "isinstance" = none) (hg2 : Gl X t) (ha : DE X W e fa) (hdb2 : (t == ("__debug__" : Str)) = false := by decide)
    (he : starEach [e, .Name t p2] X.env = (false, eval e X.env) :: starEach [.Name t p2] X.env := by rfl) (he2 : starEach [.Name t p2] X.env = (false, eval (.Name t p2) X.env) :: starEach [] X.env := by rfl)
    (hpl : (backTo pos (starEach [.Name t p2] X.env)).any (·.1) = false := by rfl) : DE X W (.Call (.Name "isinstance" p) [e, .Name t p2] [] pos) (cUn (oIsE t) fa) := by
  have hr : RelV cl cv := by
    rcases hcl with ⟨C, rfl, rfl⟩ | ⟨n, rfl, rfl⟩ <;> rfl
  have hu : ∀ u, RelV cl u → u = cv := by
    rcases hcl with ⟨C, rfl, rfl⟩ | ⟨n, rfl, rfl⟩ <;> exact fun u q => q
  have hn : PE X (.Name t p2) (tC cl) := by
    rcases T.nm with h | ⟨h1, h2, h3⟩
    · exact pe_glob hg2 h hr hdb2
    · exact pe_bltn hg2 h1 h2 hr h3 hdb2
  exact pe_mono (pe_callB call_isX hg hm (by decide +kernel) (pa_cons ha (pa_cons hn pa_nil he2) he) (by decide) (by decide) he hpl) fun σ H Q h =>
    un_read (r := fun v H Q => rIsX X.K [v, cl] H Q) (fun g H HF f v d rv a t2 z Q k => by
      unfold oIsE at z
      cases y : excNm d with
      | none => rw [y] at z; cases z
      | some c =>
        rw [y] at z
        cases z
        obtain ⟨r, rfl, hc⟩ := excNm_some y
        obtain ⟨b, C, od, xs, ds, rfl, q1, q2, q3, _, _⟩ := t2.exc a.sub
        exact ⟨b, C, od, xs, c, cl, cv, _, rfl, q1, q3, al, q2, hc, hu, (isAll_of T.all q2 hc).1, k.now a (.bl _)⟩) h
end

/-- classes of the program, by name -/
def ErrP (K : PySem.W.Frag) (mg : Str → Option Value) (t : Str) : Prop := ∃ C, mg t = some (.ref C) ∧ isAll K t (.ref C) = true
inductive ClsE (X : Cx) : List Expr → List Str → List Addr → Prop where
  | nil : ClsE X [] [] []
  | cons {t : Str} {p : Pos} {C : Addr} {es : List Expr} {ts : List Str} {Cs : List Addr} : Gl X t → X.mg t = some (.ref C) → isAll X.K t (.ref C) = true → (t == ("__debug__" : Str)) = false →
      starEach (.Name t p :: es) X.env = (false, eval (.Name t p) X.env) :: starEach es X.env → ClsE X es ts Cs → ClsE X (.Name t p :: es) (t :: ts) (C :: Cs)
def ClsN (X : Cx) (es : List Expr) (ts : List Str) : Prop := ∃ Cs, ClsE X es ts Cs
theorem cls_nil {X : Cx} : ClsN X [] [] := ⟨[], .nil⟩
theorem cls_cons {X : Cx} {t : Str} {p : Pos} {es : List Expr} {ts : List Str} (h : ErrP X.K X.mg t) (hg : Gl X t) (r : ClsN X es ts) (hdb : (t == ("__debug__" : Str)) = false := by decide)
    (he : starEach (.Name t p :: es) X.env = (false, eval (.Name t p) X.env) :: starEach es X.env := by rfl) : ClsN X (.Name t p :: es) (t :: ts) := by
  obtain ⟨C, h1, h2⟩ := h
  obtain ⟨Cs, r⟩ := r
  exact ⟨C :: Cs, .cons hg h1 h2 hdb he r⟩
theorem ClsE.pa {X : Cx} : ∀ {es : List Expr} {ts : List Str} {Cs : List Addr}, ClsE X es ts Cs → PA X es fun _ H Q => Q (Cs.map V.ref) H
  | _, _, _, .nil => pa_nil
  | _, _, _, .cons hg hm _ hdb he r => pa_cons (pe_glob (v := .ref _) hg hm rfl hdb) r.pa he
theorem ClsE.any {X : Cx} {C : Addr} {c : Str} (en : errNm X.K C = some c) (hc : errNames.contains c = true) : ∀ {es : List Expr} {ts : List Str} {Cs : List Addr}, ClsE X es ts Cs → PySem.W.kitAny X.K (.ref C) (Cs.map Value.ref) = some (ts.any (exSub c))
  | _, _, _, .nil => rfl
  | _, _, _, .cons (t := t) (ts := ts) hg hm al _ _ r => by
    have ih := r.any en hc
    have k := (isAll_of al en hc).1
    show PySem.W.kitAny X.K (.ref C) (Value.ref _ :: _) = some (exSub c t || ts.any (exSub c))
    unfold PySem.W.kitAny
    rw [k]
    cases exSub c t with
    | true => rfl
    | false => exact ih
section
variable {X : Cx} {W : Wish} {fa : Ex} {e : Expr} {p p2 p3 pos : Pos} {es : List Expr} {ts : List Str}
theorem de_isEs {k : Nat} (al : excAll X.K = true) (T : ClsN X es ts) (hz : es.length ≤ 1000) (hg : Gl X "isinstance") (hm : X.mg "isinstance" = none) (ha : DE X W e fa)
    (ht : ∀ {ta : TA}, PA X es ta → PE X (.Tuple es k p2) (tTup ta))
    (he : starEach [e, .Tuple es k p2] X.env = (false, eval e X.env) :: starEach [.Tuple es k p2] X.env := by rfl) (he2 : starEach [.Tuple es k p2] X.env = (false, eval (.Tuple es k p2) X.env) :: starEach [] X.env := by rfl)
    (hpl : (backTo pos (starEach [.Tuple es k p2] X.env)).any (·.1) = false := by rfl) : DE X W (.Call (.Name "isinstance" p) [e, .Tuple es k p2] [] pos) (cUn (oIsEs ts) fa) := by
  obtain ⟨Cs, T⟩ := T
  have hlen : (Cs.map V.ref).length ≤ sizeLine := by
    have hl : ∀ {es : List Expr} {ts : List Str} {Cs : List Addr}, ClsE X es ts Cs → Cs.length = es.length := fun {es ts Cs} h => by
      induction h with
      | nil => rfl
      | cons _ _ _ _ _ _ ih => simp [ih]
    rw [List.length_map, hl T]
    exact Nat.le_trans hz (by decide)
  refine pe_mono (pe_callB call_isXT hg hm (by decide +kernel) (pa_cons ha (pa_cons (ht T.pa) pa_nil he2) he) (by decide) (by decide) he hpl) fun σ H Q ⟨g, HF, ρ, f, rel, q⟩ => ?_
  refine tD_pk rel q fun d f1 v G GF r1 s1 t1 q1 => ?_
  unfold oIsEs give at q1
  cases y : excNm d with
  | none =>
    rw [y] at q1
    exact (show False from q1).elim
  | some c =>
    rw [y] at q1
    obtain ⟨r, rfl, hc⟩ := excNm_some y
    obtain ⟨b, C, od, xs, ds, rfl, h1, h2, h3, _, _⟩ := t1.exc r1.sub
    refine ⟨hlen, fun tp ntp => ?_⟩
    obtain ⟨s2, f2⟩ := lay_new (o := .tup (Cs.map V.ref)) r1.sub r1.feed ntp
    refine ⟨b, C, tp, od, xs, c, Cs, _, rfl, by rw [upd_ne (ne_of_none h1 ntp)]; exact h1, ?_, al, h2, hc, upd_same, T.any h2 hc, ?_⟩
    · rcases h3 with ⟨e1, e2⟩ | ⟨dd, e1, e2⟩
      · exact .inl ⟨e1, e2⟩
      · exact .inr ⟨dd, e1, by rw [upd_ne (ne_of_none e2 ntp)]; exact e2⟩
    · exact (show Fin X.K g σ H HF Q (.dat (.bool _)) f1 from q1) _ _ _ (s1.trans r1.feed s2) f2 (.bl _)
/-- e.f -/
theorem de_fld {n : Str} (al : excAll X.K = true) (ha : DE X W e fa) (hb : attributeBase e n X.env (eval e X.env) = eval e X.env := by rfl) : DE X W (.Attribute e n pos) (cUn (oFld n) fa) := by
  refine ⟨fun pins s σ H Q I ⟨g, HF, ρ, f, rel, q⟩ => ?_⟩
  have hh : tD X.K X.mg W fa σ H fun v G => ∃ (a C : Addr) (od : Option Addr) (xs : List (Str × V)) (c : Str) (w : V), v = .ref a ∧ G a = some (ExH a C od) ∧ errNm X.K C = some c ∧ errNames.contains c = true ∧ errFields.contains n = true ∧ XdH G od xs ∧ xs.lookup n = some w ∧ Q w G := by
    refine tD_pk rel q fun d f1 v G GF r1 s1 t1 q1 => ?_
    cases y : oFld n d with
    | none =>
      rw [y] at q1
      exact (show False from q1).elim
    | some rv =>
      rw [y] at q1
      unfold oFld at y
      split at y
      · rename_i c r
        by_cases c1 : errNames.contains c = true ∧ errFields.contains n = true
        · rw [if_pos c1] at y
          obtain ⟨b, C, od, xs, ds, rfl, h1, h2, h3, h4, rfl⟩ := t1.exc r1.sub
          cases yy : fldGet n (fldD xs ds) with
          | none => rw [yy] at y; cases y
          | some d2 =>
            rw [yy] at y
            cases y
            have look : ∀ {xs : List (Str × V)} {ds : List PyData}, DRs X.K GF (xs.map (·.2)) ds → fldGet n (fldD xs ds) = some d2 → ∃ w, xs.lookup n = some w ∧ DR X.K GF w d2 := by
              intro xs
              induction xs with
              | nil =>
                intro ds _ e
                cases e
              | cons x xs ih =>
                intro ds hd e
                obtain ⟨k, u⟩ := x
                cases hd with
                | @cons _ _ d3 ds3 hd1 hd2 =>
                  have e2 : (if n = k then some d3 else fldGet n (fldD xs ds3)) = some d2 := e
                  by_cases z : n = k
                  · rw [if_pos z] at e2
                    cases e2
                    exact ⟨u, by subst z; simp [List.lookup], hd1⟩
                  · rw [if_neg z] at e2
                    obtain ⟨w, w1, w2⟩ := ih hd2 e2
                    have z2 : (n == k) = false := by simpa using z
                    exact ⟨w, by simp only [List.lookup, z2]; exact w1, w2⟩
            obtain ⟨w, w1, w2⟩ := look h4 yy
            exact ⟨b, C, od, xs, c, w, rfl, h1, h2, c1.1, c1.2, h3, w1, (show Fin X.K g σ H HF Q (.dat d2) f1 from q1) w G GF s1 r1.feed w2⟩
        · rw [if_neg c1] at y
          cases y
      · cases y
  refine attr_of hb (thn (ha.run pins s σ H _ I hh) fun u s1 hq => ?_)
  obtain ⟨x, H1, I1, rx, a, C, od, xs, c, w, rfl, h1, h2, hc, hf, h3, hw, q2⟩ := hq
  obtain rfl : u = Value.ref a := rx
  obtain ⟨k1, k2, k3, k4, k5, k6, k7⟩ := excOk_of (excAll_of al h2 hc)
  have h0 : ObjOk X.prog X.w H1 s1.heap a (.ext fun h => ∃ oe vs, h.get? a = some oe ∧ Zc (.ref C) od oe ∧ oe.data = .fields vs) := I1.hok a _ h1
  obtain ⟨⟨oe, vs, e1, e2, e3⟩, _, _⟩ := h0
  have hn : PySem.W.notCls oe = true := by unfold PySem.W.notCls; rw [e3] <;> rfl
  rcases h3 with ⟨_, rfl⟩ | ⟨d, rfl, hd⟩
  · cases hw
  · have h2' : ObjOk X.prog X.w H1 s1.heap d (.xd xs) := I1.hok d _ hd
    obtain ⟨mA, hns, hr⟩ := h2'
    obtain ⟨oD, ho, hl⟩ := lookIn_ns hns
    obtain ⟨u2, hu, ru⟩ := RelO.some_of (v := w) (o := mA n) (by rw [← hw]; exact hr n)
    have J : PySem.W.InstAt s1.heap a oe C (some oD) := ⟨e1, e2.1, hn, by rw [e2.2]; exact ho⟩
    exact HandSPX.exc_get I1.kIn J k1 k2 k3 (PySem.W.findObj_own k4 (k7 n (by simpa using hf)) rfl (by rw [hl, hu])) (handed_of ru) ⟨w, H1, I1.tok _, ru, q2⟩
end
/-! ### the rules of try with a name -/
theorem Rel.drop {K : PySem.W.Frag} {g : Gh} {σ : St} {H HF : Hp} {ρ : Rho} {f : Feed} (r : Rel K g σ H HF ρ f) (j : Nat) : Rel K g (σ.set j none) H HF (ρ.set j .emp) f := r.wiped [j]
section
variable {X : Cx} {E : XK} {n y t : Str} {e : Expr} {pn2 pos pos' pos2 np : Pos} {b₀ : Stmt} {suite : List Stmt} {x : Ex} {i j : Nat} {su : Sm} {cv : Value} {names : List Str}
theorem caught_read {g : Gh} {σ : St} {G GF : Hp} {ρ : Rho} {f1 : Feed} {D : Ends} {C : Addr} {c : Str} {od : Option Addr} {vs : List (Str × PyData)} (T : ErrT X.K X.mg t cv) (hh : ∀ c ∈ names, (∃ C, X.mg c = some (.ref C) ∧ errNm X.K C = some c) ∧ errNames.contains c = true ∧ exSub c t = true)
    (r1 : Rel X.K g σ G GF ρ f1) (hm : X.mg c = some (.ref C)) (xd : Xd X.K G GF od vs) (q : XF X.K X.mg g E (caught j names su c vs ρ f1) (FinS X.K g D)) :
    wT X.K cv j (tDS X.K X.mg (fun _ _ _ => False) su) D (.ref C) od σ G := by
  unfold caught at q
  by_cases c1 : names.contains c = true
  · rw [if_pos c1] at q
    obtain ⟨⟨C2, m2, en⟩, hc, ex⟩ := hh c (by simpa using c1)
    obtain rfl : C2 = C := by
      rw [m2] at hm
      cases hm
      rfl
    refine ⟨C2, rfl, by rw [(isAll_of T.all en hc).2, ex], fun a na => ?_⟩
    obtain ⟨s2, h2⟩ := lay_new (o := ExH a C2 od) r1.sub r1.feed na
    obtain ⟨xs, x1, x2, x3⟩ := xd
    have dr : DR X.K (upd GF a (ExH a C2 od)) (.ref a) (excD c vs) := by
      have := DR.exc (a := a) (C := C2) (od := od) (c := c) (xs := xs) upd_same en (x1.mono s2.le) (x3.mono s2.le)
      rw [fld_map x2] at this
      exact this
    refine ⟨g, _, ρ.set j (.dat (excD c vs)), f1, (r1.step s2 h2).putD dr, ?_⟩
    cases z : su (ρ.set j (.dat (excD c vs))) f1 with
    | no =>
      rw [z] at q
      exact q
    | ex _ _ _ =>
      rw [z] at q
      exact (show False from q).elim
    | ok k f2 =>
      rw [z] at q
      cases k with
      | nx ρ2 => exact fun σ2 G2 GF2 r2 => (show FinS X.K g D (.nx (ρ2.set j .emp)) f2 from q) _ G2 GF2 (r2.drop j)
      | bk ρ2 => exact fun σ2 G2 GF2 r2 => (show FinS X.K g D (.bk (ρ2.set j .emp)) f2 from q) _ G2 GF2 (r2.drop j)
      | ct ρ2 => exact fun σ2 G2 GF2 r2 => (show FinS X.K g D (.ct (ρ2.set j .emp)) f2 from q) _ G2 GF2 (r2.drop j)
      | rt v => exact q
  · rw [if_neg c1] at q
    exact (show False from q).elim
theorem ds_tryS (hs : X.stack = X.env :: X.outer) (hf : X.env.frame = some X.env.locals) (hN : X.N.Nodup) (hi : X.N[i]? = some n) (hx : Loc X.env.scope n) (hj : X.N[j]? = some y) (hy : X.env.kindOf y = some .local) (hg : Gl X t) (T : ErrT X.K X.mg t cv)
    (hh : ∀ c ∈ names, (∃ C, X.mg c = some (.ref C) ∧ errNm X.K C = some c) ∧ errNames.contains c = true ∧ exSub c t = true)
    (he : ∀ (W : WX) (pn : List (Addr × Obj)) (xe : Value → Shared → Prop), Takes (X.tr pn xe) W → PassesOwn (model X.prog X.w) X.A X.env xe → DE (X.tr pn xe) (fun σ cls d H => W cls d σ H) e x)
    (hsu : ∀ (a : Addr) (pn : List (Addr × Obj)), DSs (X.suite a pn) (fun _ _ _ => False) (b₀ :: suite) su) (hdb : (t == ("__debug__" : Str)) = false := by decide)
    (hsw : swapsWith e (some (.Name n pn2)) pos2.line X.env = pure false := by rfl)
    (hl : X.fn n = true ∨ X.env.scope.names.lookup n = some .local := by first | exact .inl rfl | exact .inr rfl | assumption) :
    DS X E (.Try [.Assign [.Name n pn2] e pos2] [.ExceptHandler (some (.Name t np)) (some y) (b₀ :: suite) pos'] [] [] pos) (sTryS i j x names su) := by
  refine ps_mono (ps_tryT (tb := fun W => tAsg (tD X.K X.mg (fun σ cls d H => W cls d σ H) x) (gName i)) (ts := tDS X.K X.mg (fun _ _ _ => False) su) hs hf hN hj hy ⟨hg, hdb, T.nm⟩
    (fun W pn xe tk po => pss_one (ps_set (X := X.tr pn xe) hN hi hx (he W pn xe tk po) hsw hl)) hsu) fun D σ H q => ?_
  obtain ⟨g, HF, ρ, f, rel, q⟩ := q
  refine ⟨g, HF, ρ, f, rel, ?_⟩
  unfold sTryS at q
  cases z : x ρ f with
  | no =>
    rw [z] at q
    exact q
  | ok rv f1 =>
    rw [z] at q
    intro v G GF s1 h1 rr
    cases z2 : slotOf rv with
    | none =>
      simp only [z2] at q
      exact (show False from q).elim
    | some s =>
      simp only [z2] at q
      exact (show FinS X.K g D (.nx (ρ.set i s)) f1 from q) _ G GF (rel.put (rel.step s1 h1) rr z2)
  | ex c vs f1 =>
    rw [z] at q
    exact fun C od G GF hm s1 h1 xd => caught_read T hh (rel.step s1 h1) hm xd q
theorem ds_tryR (hs : X.stack = X.env :: X.outer) (hf : X.env.frame = some X.env.locals) (hN : X.N.Nodup) (hj : X.N[j]? = some y) (hy : X.env.kindOf y = some .local) (hg : Gl X t) (T : ErrT X.K X.mg t cv)
    (hh : ∀ c ∈ names, (∃ C, X.mg c = some (.ref C) ∧ errNm X.K C = some c) ∧ errNames.contains c = true ∧ exSub c t = true)
    (he : ∀ (W : WX) (pn : List (Addr × Obj)) (xe : Value → Shared → Prop), Takes (X.tr pn xe) W → PassesOwn (model X.prog X.w) X.A X.env xe → DE (X.tr pn xe) (fun σ cls d H => W cls d σ H) e x)
    (hsu : ∀ (a : Addr) (pn : List (Addr × Obj)), DSs (X.suite a pn) (fun _ _ _ => False) (b₀ :: suite) su) (hdb : (t == ("__debug__" : Str)) = false := by decide) :
    DS X E (.Try [.Return (some e) pos2] [.ExceptHandler (some (.Name t np)) (some y) (b₀ :: suite) pos'] [] [] pos) (sTryR j x names su) := by
  refine ps_mono (ps_tryT (tb := fun W => tRet (tD X.K X.mg (fun σ cls d H => W cls d σ H) x)) (ts := tDS X.K X.mg (fun _ _ _ => False) su) hs hf hN hj hy ⟨hg, hdb, T.nm⟩
    (fun W pn xe tk po => pss_one (ps_ret (X := X.tr pn xe) (he W pn xe tk po))) hsu) fun D σ H q => ?_
  obtain ⟨g, HF, ρ, f, rel, q⟩ := q
  refine ⟨g, HF, ρ, f, rel, ?_⟩
  unfold sTryR at q
  cases z : x ρ f with
  | no =>
    rw [z] at q
    exact q
  | ok rv f1 =>
    rw [z] at q
    intro v G GF s1 h1 rr
    refine (show FinS X.K g D (.rt rv) f1 from q) v G GF ((rel.step s1 h1).ret ?_)
    cases rv with
    | dat d => exact rr
    | own ds =>
      obtain ⟨p, us, z1, z2, z3⟩ := rr
      exact ⟨p, us, z1, rel.dead z2, z3⟩
    | lent k ds =>
      obtain ⟨p, us, z1, z2, z0, z3⟩ := rr
      exact ⟨p, us, z1, z0, z3⟩
    | feed => exact rr
  | ex c vs f1 =>
    rw [z] at q
    exact fun C od G GF hm s1 h1 xd => caught_read T hh (rel.step s1 h1) hm xd q
end
/-! ### the facts, made -/
theorem errT_p {K : PySem.W.Frag} {mg : Str → Option Value} {t : Str} (h : ErrP K mg t) : ∃ C, ErrT K mg t (.ref C) := by
  obtain ⟨C, h1, h2⟩ := h
  exact ⟨C, .inl h1, h2⟩
end Dn
namespace Dn
open PySem PySem.Spec L2
/-- the class above all refusals -/
structure ErrB (K : PySem.W.Frag) (mg : Str → Option Value) : Prop where
  ex : ∃ B, mg "FreshError" = some (.ref B) ∧ PySem.W.specialIn K (.ref B) "__getattribute__" = some (some (.builtin "type.__getattribute__")) ∧ PySem.W.readsIn K B (.type "type") = true ∧
    PySem.W.findCls K (.ref B) (.type "type") "__init__" = some (.val (.builtin "ValueError.__init__"))
/-- a class of refusals and its __init__, as they stand behind the top -/
structure ErrS (K : PySem.W.Frag) (mg : Str → Option Value) (x : Str) (fs : List Str) (q : Str) (st : Stmt) : Prop where
  ex : ∃ C fI fd, mg x = some (.ref C) ∧ OexC K C ∧ (∀ f ∈ fs, PySem.W.findIn K (.ref C) f = some none) ∧ PySem.W.findIn K (.ref C) "__init__" = some (some (.ref fI)) ∧ PySem.W.typeIn K (.ref fI) = some (.type "function") ∧
    Fun K "__init__" q st fI fd ∧ Binds K fd (("self" : Str) :: fs) [] ∧ errNm K C = some x
theorem errB_mk {K : PySem.W.Frag} {h : Heap} {mg : Str → Option Value} {B : Addr} (X : K.In h) (G : h.Ns mainGlobals mg) (a : PySem.W.nsIn K mainGlobals "FreshError" = some (some (.ref B))) (s : PySem.W.specialIn K (.ref B) "__getattribute__" = some (some (.builtin "type.__getattribute__")))
    (r : PySem.W.readsIn K B (.type "type") = true) (f : PySem.W.findCls K (.ref B) (.type "type") "__init__" = some (.val (.builtin "ValueError.__init__"))) : ErrB K mg := ⟨⟨B, PySem.W.mg_of X G a, s, r, f⟩⟩
theorem errS_mk {K : PySem.W.Frag} {h : Heap} {mg : Str → Option Value} {x q0 q : Str} {fs : List Str} {st : Stmt} {C B f1 : Addr} {N bs sn sub ab col dd k0 k1 k2 k3 k5} {oc kV dc pm cd ct : Value} {od an : Option Addr} {sl : Array (Option Value)} (X : K.In h) (G : h.Ns mainGlobals mg)
    (a : PySem.W.nsIn K mainGlobals x = some (some (.ref C)))
    (l : K.lookup C = some (excClassObj x q0 C N bs [.ref B, .type "ValueError", .type "Exception", .type "BaseException", .type "object"] true sn sub ab col dd k0 k1 k2 k3 k5 "ValueError.__new__"))
    (s : PySem.W.findIn K (.ref C) "__setattr__" = some (some (.builtin "object.__setattr__"))) (e : PySem.W.subIn K (.ref C) (.type "BaseException") = some true) (t : PySem.W.typeIn K (.ref C) = some (.type "type")) (k : PySem.W.keepIn K (.ref C) = true)
    (n : (fs.all fun f => decide (PySem.W.findIn K (.ref C) f = some none)) = true) (i : PySem.W.findIn K (.ref C) "__init__" = some (some (.ref f1))) (j : PySem.W.typeIn K (.ref f1) = some (.type "function"))
    (m : K.lookup f1 = some ⟨oc, od, .func (PySem.W.fnOf "__init__" q (defArgs st) (defBody st) (defScope st) .none kV dc pm an cd ct), sl⟩) (c : PySem.W.codeIn K cd q = true) (y : PySem.W.keepIn K (.ref f1) = true)
    (hb : ∀ (kV doc pm : Value) (an : Option Addr) (cdv ct : Value) (us : List Value), us.length = (("self" : Str) :: fs).length → bindArgs (PySem.W.fnOf "__init__" q (defArgs st) (defBody st) (defScope st) .none kV doc pm an cdv ct) ⟨us, []⟩ = pure ((("self" : Str) :: fs).zip us)) : ErrS K mg x fs q st := by
  refine ⟨⟨C, f1, _, PySem.W.mg_of X G a, ⟨⟨_, _, _, _, _, _, _, _, _, _, _, _, _, _, _, l, by unfold PySem.HandSPX.refsVE; decide +kernel⟩, s, e, t, k⟩, fun f hf => of_decide_eq_true (List.all_eq_true.mp n f hf), i, j, fun_mk m c y, (fun_mk m c y).binds hb, ?_⟩⟩
  unfold errNm PySem.W.clsIn
  rw [l]
  rfl
theorem errP_mk {K : PySem.W.Frag} {h : Heap} {mg : Str → Option Value} {x : Str} {C : Addr} (X : K.In h) (G : h.Ns mainGlobals mg) (a : PySem.W.nsIn K mainGlobals x = some (some (.ref C))) (b : isAll K x (.ref C) = true) : ErrP K mg x := ⟨C, PySem.W.mg_of X G a, b⟩
section
variable {P : Program} {w : World} {K : PySem.W.Frag} {mg : Str → Option Value} {base : Heap} {x q : Str} {st : Stmt}
theorem errI_mk {fs : List Str} {tt : TS} (B : ErrB K mg) (S : ErrS K mg x fs q st) (sc : FnScope (("self" : Str) :: fs) (("self" : Str) :: fs) (defScope st))
    (pure_ : ∀ {C : Addr} {vs : List V} {H : Hp} {Q : VK} {E : XK}, spIni K C fs vs H Q E → tt { nx := fun _ G => Q .non G, rt := Q } (L2.start (("self" : Str) :: fs) vs) H)
    (body : ∀ {B : Addr} (_ : mg "FreshError" = some (.ref B)) (_ : PySem.W.specialIn K (.ref B) "__getattribute__" = some (some (.builtin "type.__getattribute__"))) (_ : PySem.W.readsIn K B (.type "type") = true)
      (_ : PySem.W.findCls K (.ref B) (.type "type") "__init__" = some (.val (.builtin "ValueError.__init__"))) (f : Addr) (cdv : Value) (A : Around) (outer : List Env) (s : Shared) (H : Hp) (E : XK),
      PSs (cxOf CX0 P w K mg base (("self" : Str) :: fs) q (defScope st) f cdv A outer s H E).nox (defBody st) tt) : ErrI P w K mg base x fs := by
  obtain ⟨C, fI, fd, h1, h2, h3, h4, h5, F, hb, _⟩ := S.ex
  obtain ⟨B, b1, b2, b3, b4⟩ := B.ex
  exact ⟨C, fI, fd, h1, h2, h3, h4, h5, F.ok (k := 0) sc (fun vs H Q E h => by
    obtain ⟨a, ws, rfl, hl, _⟩ := h
    simp [hl]) fun cdv A outer s H vs Q E hr h => ⟨tt, body b1 b2 b3 b4 fI cdv A outer s H E, pure_ h⟩, hb⟩
end
theorem ErrS.nm {K : PySem.W.Frag} {mg : Str → Option Value} {x q : Str} {fs : List Str} {st : Stmt} (S : ErrS K mg x fs q st) : ∃ C, mg x = some (.ref C) ∧ errNm K C = some x := by
  obtain ⟨C, _, _, h, _, _, _, _, _, _, e⟩ := S.ex
  exact ⟨C, h, e⟩
/-- what try wants of the names that it catches -/
theorem names_nil {K : PySem.W.Frag} {mg : Str → Option Value} {t : Str} : ∀ c ∈ ([] : List Str), (∃ C, mg c = some (.ref C) ∧ errNm K C = some c) ∧ errNames.contains c = true ∧ exSub c t = true := fun c h => nomatch h
theorem names_cons {K : PySem.W.Frag} {mg : Str → Option Value} {t x : Str} {l : List Str} (h : ∃ C, mg x = some (.ref C) ∧ errNm K C = some x) (r : ∀ c ∈ l, (∃ C, mg c = some (.ref C) ∧ errNm K C = some c) ∧ errNames.contains c = true ∧ exSub c t = true)
    (h1 : errNames.contains x = true := by decide) (h2 : exSub x t = true := by decide) : ∀ c ∈ x :: l, (∃ C, mg c = some (.ref C) ∧ errNm K C = some c) ∧ errNames.contains c = true ∧ exSub c t = true := fun c hc => by
  rcases List.mem_cons.mp hc with rfl | hc
  · exact ⟨h, h1, h2⟩
  · exact r c hc
theorem names_ex {K : PySem.W.Frag} {mg : Str → Option Value} {t : Str} {cv : Value} {l : List Str} (T : ErrT K mg t cv) (r : ∀ c ∈ l, (∃ C, mg c = some (.ref C) ∧ errNm K C = some c) ∧ errNames.contains c = true ∧ exSub c t = true) :
    ∀ c ∈ l, ∃ C, mg c = some (.ref C) ∧ PySem.W.exmOne K (.ref C) cv = some true := fun c hc => by
  obtain ⟨⟨C, m, e⟩, h1, h2⟩ := r c hc
  exact ⟨C, m, by rw [(isAll_of T.all e h1).2, h2]⟩
end Dn

end
/-! the mathematics' side: what a den comes to -/
namespace Dn
open PySem PySem.Spec L2
section
variable {α β : Type}
theorem nr {γ : Sort _} {a b : γ} (h : a = b) : a = b := h
theorem nri {a b : Prop} (h : a ↔ b) : a ↔ b := h
/-- it comes to something of this kind -/
def Ev (r : R α) (P : α → Feed → Prop) : Prop := ∃ a f, r = .ok a f ∧ P a f
theorem Ev.mono {r : R α} {P Q : α → Feed → Prop} (h : Ev r P) (m : ∀ a f, P a f → Q a f) : Ev r Q := by
  obtain ⟨a, f, e, p⟩ := h
  exact ⟨a, f, e, m a f p⟩
@[simp] theorem ev_ok {a : α} {f : Feed} {P : α → Feed → Prop} : Ev (.ok a f) P ↔ P a f := by
  constructor
  · rintro ⟨b, g, e, p⟩
    cases e
    exact p
  · exact fun p => ⟨a, f, rfl, p⟩
@[simp] theorem ev_no {P : α → Feed → Prop} : Ev (.no) P ↔ False := by
  constructor
  · rintro ⟨b, g, e, p⟩
    cases e
  · exact False.elim
@[simp] theorem ev_bind {r : R α} {k : α → Feed → R β} {P : β → Feed → Prop} : Ev (r.bind k) P ↔ Ev r fun a f => Ev (k a f) P := by
  cases r with
  | no => exact ⟨fun ⟨_, _, e, _⟩ => (by cases e), fun ⟨_, _, e, _⟩ => (by cases e)⟩
  | ex c v f => exact ⟨fun ⟨_, _, e, _⟩ => (by cases e), fun ⟨_, _, e, _⟩ => (by cases e)⟩
  | ok a f => exact ⟨fun h => ev_ok.mpr h, fun h => ev_ok.mp h⟩
@[simp] theorem bind_ok {a : α} {f : Feed} {k : α → Feed → R β} : (R.ok a f).bind k = k a f := nr rfl
@[simp] theorem pk_ok_dat {d : PyData} {f : Feed} {k : PyData → Feed → R β} : pk (.ok (.dat d) f) k = k d f := nr rfl
@[simp] theorem pk_ok_own {d : List PyData} {f : Feed} {k : PyData → Feed → R β} : pk (.ok (.own d) f) k = k (.list d) f := nr rfl
@[simp] theorem pk_ok_lent {i : Nat} {d : List PyData} {f : Feed} {k : PyData → Feed → R β} : pk (.ok (.lent i d) f) k = k (.list d) f := nr rfl
@[simp] theorem dt_ok_dat {d : PyData} {f : Feed} {k : PyData → Feed → R β} : dt (.ok (.dat d) f) k = k d f := nr rfl
@[simp] theorem dt_ok_own {d : List PyData} {f : Feed} {k : PyData → Feed → R β} : dt (.ok (.own d) f) k = k (.list d) f := nr rfl
section
variable {γ : Type} {r : R RV} {k : PyData → Feed → R RV} {k2 : PyData → Feed → R γ} {q : α → Feed → R RV} {k3 : RV → Feed → R γ} {ra : R α}
@[simp] theorem pk_pk : pk (pk r k) k2 = pk r fun d f => pk (k d f) k2 := by
  unfold pk
  cases r with
  | no => rfl
  | ex c v f => rfl
  | ok a f =>
    simp only [R.bind]
    cases a.peek <;> rfl
@[simp] theorem pk_dt : pk (dt r k) k2 = dt r fun d f => pk (k d f) k2 := by
  unfold pk dt
  cases r with
  | no => rfl
  | ex c v f => rfl
  | ok a f =>
    simp only [R.bind]
    cases a.data <;> rfl
@[simp] theorem dt_pk : dt (pk r k) k2 = pk r fun d f => dt (k d f) k2 := by
  unfold pk dt
  cases r with
  | no => rfl
  | ex c v f => rfl
  | ok a f =>
    simp only [R.bind]
    cases a.peek <;> rfl
@[simp] theorem dt_dt : dt (dt r k) k2 = dt r fun d f => dt (k d f) k2 := by
  unfold dt
  cases r with
  | no => rfl
  | ex c v f => rfl
  | ok a f =>
    simp only [R.bind]
    cases a.data <;> rfl
@[simp] theorem pk_bind2 : pk (ra.bind q) k2 = ra.bind fun a f => pk (q a f) k2 := by
  cases ra <;> rfl
@[simp] theorem dt_bind2 : dt (ra.bind q) k2 = ra.bind fun a f => dt (q a f) k2 := by
  cases ra <;> rfl
@[simp] theorem bind_bind2 {k4 : β → Feed → R γ} {q4 : α → Feed → R β} : (ra.bind q4).bind k4 = ra.bind fun a f => (q4 a f).bind k4 := by
  cases ra <;> rfl
@[simp] theorem bind_pk {k4 : β → Feed → R γ} {k5 : PyData → Feed → R β} : (pk r k5).bind k4 = pk r fun d f => (k5 d f).bind k4 := by
  unfold pk
  cases r with
  | no => rfl
  | ex c v f => rfl
  | ok a f =>
    simp only [R.bind]
    cases a.peek <;> rfl
@[simp] theorem bind_dt {k4 : β → Feed → R γ} {k5 : PyData → Feed → R β} : (dt r k5).bind k4 = dt r fun d f => (k5 d f).bind k4 := by
  unfold dt
  cases r with
  | no => rfl
  | ex c v f => rfl
  | ok a f =>
    simp only [R.bind]
    cases a.data <;> rfl
end
theorem ev_pk {r : R RV} {k : PyData → Feed → R β} {P : β → Feed → Prop} : Ev (pk r k) P ↔ Ev r fun rv f => Ev (pk (.ok rv f) k) P := by
  cases r with
  | no => exact ⟨fun ⟨_, _, e, _⟩ => (by cases e), fun ⟨_, _, e, _⟩ => (by cases e)⟩
  | ex c v f => exact ⟨fun ⟨_, _, e, _⟩ => (by cases e), fun ⟨_, _, e, _⟩ => (by cases e)⟩
  | ok a f => exact ⟨fun h => ev_ok.mpr h, fun h => ev_ok.mp h⟩
theorem ev_dt {r : R RV} {k : PyData → Feed → R β} {P : β → Feed → Prop} : Ev (dt r k) P ↔ Ev r fun rv f => Ev (dt (.ok rv f) k) P := by
  cases r with
  | no => exact ⟨fun ⟨_, _, e, _⟩ => (by cases e), fun ⟨_, _, e, _⟩ => (by cases e)⟩
  | ex c v f => exact ⟨fun ⟨_, _, e, _⟩ => (by cases e), fun ⟨_, _, e, _⟩ => (by cases e)⟩
  | ok a f => exact ⟨fun h => ev_ok.mpr h, fun h => ev_ok.mp h⟩
theorem ev_noEx {r : R α} {P : α → Feed → Prop} (h : Ev r P) : Ev (noEx r) P := by
  obtain ⟨a, f, rfl, p⟩ := h
  exact ⟨a, f, rfl, p⟩
@[simp] theorem noEx_ok2 {a : α} {f : Feed} : noEx (.ok a f) = .ok a f := nr rfl
end
/-! places -/
section
variable {ρ : Rho} {f : Feed} {d : PyData} {ds : List PyData} {i : Nat} {a b c : Ex} {β : Type}
theorem cVar_dat (h : ρ[i]? = some (.dat d)) : cVar i ρ f = .ok (.dat d) f := by
  unfold cVar
  rw [h]
theorem cVar_own (h : ρ[i]? = some (.own ds)) : cVar i ρ f = .ok (.lent i ds) f := by
  unfold cVar
  rw [h]
theorem cVar_feed (h : ρ[i]? = some .feed) : cVar i ρ f = .ok .feed f := by
  unfold cVar
  rw [h]
/-! what the operations come to -/
@[simp] theorem give_some {rv : RV} : give (some rv) f = .ok rv f := nr rfl
@[simp] theorem give_none : give none f = .no := nr rfl
@[simp] theorem give_ite {p : Prop} [Decidable p] {x y : Option RV} : give (if p then x else y) f = if p then give x f else give y f := by
  split <;> rfl
variable {x y : Int} {s t : Str} {p q : Bool} {xs ys : List PyData}
@[simp] theorem oAdd_int : oAdd (.int x) (.int y) = some (.dat (.int (x + y))) := nr rfl
@[simp] theorem oAdd_list : oAdd (.list xs) (.list ys) = if xs.length + ys.length ≤ 100000 then some (.own (xs ++ ys)) else none := by
  unfold oAdd catL
  simp [intsOp]
  split <;> rfl
@[simp] theorem oAdd_tuple : oAdd (.tuple xs) (.tuple ys) = if xs.length + ys.length ≤ 100000 then some (.dat (.tuple (xs ++ ys))) else none := by
  unfold oAdd catT
  simp [intsOp, catL]
  split <;> rfl
@[simp] theorem oAdd_str : oAdd (.str s) (.str t) = if s.length + t.length ≤ 100000 then some (.dat (.str (s ++ t))) else none := by
  unfold oAdd catS
  simp [intsOp, catL, catT]
@[simp] theorem oSub_int : oSub (.int x) (.int y) = some (.dat (.int (x - y))) := nr rfl
theorem oMul_int (h : mulC x y = true) : oMul (.int x) (.int y) = some (.dat (.int (x * y))) := by
  unfold oMul intsOp
  simp [h]
@[simp] theorem oMul_list : oMul (.list xs) (.int x) = if -1000 ≤ x ∧ x ≤ 1000 ∧ xs.length ≤ 1000 then some (.own (List.replicate x.toNat xs).flatten) else none := by
  unfold oMul repL
  simp [intsOp, repT]
@[simp] theorem oMul_tuple : oMul (.tuple xs) (.int x) = if -1000 ≤ x ∧ x ≤ 1000 ∧ xs.length ≤ 1000 then some (.dat (.tuple (List.replicate x.toNat xs).flatten)) else none := by
  unfold oMul repT
  simp [intsOp, repL]
theorem oDiv_int (h : 0 < y) (h2 : y.natAbs.log2 < 9000) : oDiv (.int x) (.int y) = some (.dat (.int (x / y))) := by
  unfold oDiv intsOp divC
  simp [h, h2]
theorem oMod_int (h : 0 < y) : oMod (.int x) (.int y) = some (.dat (.int (x % y))) := by
  unfold oMod intsOp modC
  simp [h]
theorem oPow_int (h : 0 ≤ y) (h2 : y ≤ 1000000) (h3 : x.natAbs < 2 ^ 64) : oPow (.int x) (.int y) = some (.dat (.int (x ^ y.toNat))) := by
  unfold oPow intsOp powC
  simp only [h, h2, h3, decide_true, Bool.and_self, if_true]
theorem oShl_int (h : 0 ≤ y) (h2 : y ≤ 1000000) (h3 : x.natAbs < 2 ^ 64) : oShl (.int x) (.int y) = some (.dat (.int (x * 2 ^ y.toNat))) := by
  unfold oShl intsOp powC
  simp only [h, h2, h3, decide_true, Bool.and_self, if_true]
@[simp] theorem oLt_int : oLt (.int x) (.int y) = some (.dat (.bool (decide (x < y)))) := nr rfl
@[simp] theorem oLe_int : oLe (.int x) (.int y) = some (.dat (.bool (decide (x ≤ y)))) := nr rfl
@[simp] theorem oGt_int : oGt (.int x) (.int y) = some (.dat (.bool (decide (y < x)))) := nr rfl
@[simp] theorem oGe_int : oGe (.int x) (.int y) = some (.dat (.bool (decide (y ≤ x)))) := nr rfl
@[simp] theorem oLeA_int : oLeA (.int x) (.int y) = some (.dat (.bool (decide (x ≤ y)))) := nr rfl
theorem shaped_no {d : PyData} (h : SeqAt.shaped d = true) (i : Str) : eqD (.str i) d = eqD (.str i) d := rfl
@[simp] theorem oEq_str : oEq (.str s) (.str t) = some (.dat (.bool (decide (s = t)))) := rfl
@[simp] theorem oNe_str : oNe (.str s) (.str t) = some (.dat (.bool (!decide (s = t)))) := rfl
theorem eqv_str : PyData.eqv (.str s) (.str t) = decide (s = t) := by
  simp only [PyData.eqv]
  by_cases h : s = t
  · subst h
    simp
  · simp [h]
theorem oEq_of {d e : PyData} (h : SeqAt.shaped d = true) (h2 : SeqAt.shaped e = true) : oEq d e = some (.dat (.bool (PyData.eqv d e))) := by
  have q : eqD d e = some (.dat (.bool (PyData.eqv d e))) := by
    unfold eqD
    simp [h, h2]
  unfold oEq
  rw [q]
  cases d <;> cases e <;> first | rfl | (rw [eqv_str]; rfl)
theorem oNe_of {d e : PyData} (h : SeqAt.shaped d = true) (h2 : SeqAt.shaped e = true) : oNe d e = some (.dat (.bool (!PyData.eqv d e))) := by
  have q : neD d e = some (.dat (.bool (!PyData.eqv d e))) := by
    unfold neD
    simp [h, h2]
  unfold oNe
  rw [q]
  cases d <;> cases e <;> first | rfl | (rw [eqv_str]; rfl)
@[simp] theorem oEq_int : oEq (.int x) (.int y) = some (.dat (.bool (decide (x = y)))) := by
  rw [oEq_of rfl rfl]
  rfl
@[simp] theorem oNe_int : oNe (.int x) (.int y) = some (.dat (.bool (!decide (x = y)))) := by
  rw [oNe_of rfl rfl]
  rfl
@[simp] theorem oNeg_int : oNeg (.int x) = some (.dat (.int (-x))) := nr rfl
@[simp] theorem oAbs_int : oAbs (.int x) = some (.dat (.int x.natAbs)) := by
  show some (RV.dat (.int (if x < 0 then -x else x))) = _
  have e : (if x < 0 then -x else x) = (x.natAbs : Int) := by split <;> omega
  rw [e]
@[simp] theorem oInt_int : oInt (.int x) = some (.dat (.int x)) := nr rfl
@[simp] theorem oInt_bool : oInt (.bool p) = some (.dat (.int (if p then 1 else 0))) := nr rfl
@[simp] theorem oLen_list : oLen (.list xs) = some (.dat (.int xs.length)) := nr rfl
@[simp] theorem oLen_tuple : oLen (.tuple xs) = some (.dat (.int xs.length)) := nr rfl
@[simp] theorem oTuple_list : oTuple (.list xs) = some (.dat (.tuple xs)) := nr rfl
@[simp] theorem oTuple_tuple : oTuple (.tuple xs) = some (.dat (.tuple xs)) := nr rfl
@[simp] theorem oList_list : oList (.list xs) = some (.own xs) := nr rfl
@[simp] theorem oList_tuple : oList (.tuple xs) = some (.own xs) := nr rfl
@[simp] theorem oMax_int : oMax (.int x) (.int y) = some (.dat (.int (max x y))) := by
  show some (RV.dat (.int (if y > x then y else x))) = _
  have e : (if y > x then y else x) = max x y := by split <;> omega
  rw [e]
@[simp] theorem oMin_int : oMin (.int x) (.int y) = some (.dat (.int (min x y))) := by
  show some (RV.dat (.int (if y < x then y else x))) = _
  have e : (if y < x then y else x) = min x y := by split <;> omega
  rw [e]
@[simp] theorem intsOf_ints : ∀ ns : List Int, intsOf (ns.map .int) = some ns
  | [] => rfl
  | n :: r => by
    show (intsOf (r.map .int)).map (n :: ·) = _
    rw [intsOf_ints r]
    rfl
@[simp] theorem oSum_ints {ns : List Int} : oSum (.list (ns.map .int)) = some (.dat (.int ns.sum)) := by
  show (intsOf (ns.map .int)).map _ = _
  rw [intsOf_ints]
  rfl
@[simp] theorem boolsOf_bools : ∀ ns : List Bool, boolsOf (ns.map .bool) = some ns
  | [] => rfl
  | n :: r => by
    show (boolsOf (r.map .bool)).map (n :: ·) = _
    rw [boolsOf_bools r]
    rfl
@[simp] theorem oAll_bools {ns : List Bool} : oAll (.list (ns.map .bool)) = some (.dat (.bool (ns.all id))) := by
  show (boolsOf (ns.map .bool)).map _ = _
  rw [boolsOf_bools]
  rfl
@[simp] theorem cNot_bool : cNot (.bool p) = some (.dat (.bool (!p))) := nr rfl
@[simp] theorem okTy_int {i : Int} : okTy (.int i) = true := nr rfl
@[simp] theorem okTy_bool {i : Bool} : okTy (.bool i) = true := nr rfl
@[simp] theorem okTy_str {i : Str} : okTy (.str i) = true := nr rfl
@[simp] theorem okTy_none : okTy .none = true := nr rfl
@[simp] theorem okTy_list {ds : List PyData} : okTy (.list ds) = true := nr rfl
@[simp] theorem okTy_tuple {ds : List PyData} : okTy (.tuple ds) = true := nr rfl
@[simp] theorem okTy_dict0 : okTy (.dict []) = true := nr rfl
@[simp] theorem oIsi_of {T : String} (h : okTy d = true) : oIsi T d = some (.dat (.bool (isOf T d))) := by
  unfold oIsi
  rw [if_pos h]
@[simp] theorem oIsB_bool {n : Bool} : oIsB n (.bool p) (.bool q) = some (.dat (.bool (if n then !decide (p = q) else decide (p = q)))) := nr rfl
@[simp] theorem oIsN_none {n : Bool} : oIsN n d .none = some (.dat (.bool (if n then !isNone d else isNone d))) := nr rfl
@[simp] theorem ixN_nat {m n : Nat} : ixN m (n : Int) = if n < m then some n else none := by
  unfold ixN
  rw [if_pos (Int.natCast_nonneg n)]
  by_cases h : n < m
  · rw [if_pos (by omega), if_pos h, Int.toNat_natCast]
  · rw [if_neg (by omega), if_neg h]
@[simp] theorem atI_nat {α : Type} {xs : List α} {n : Nat} : atI xs (n : Int) = xs[n]? := by
  unfold atI
  rw [ixN_nat]
  by_cases h : n < xs.length
  · rw [if_pos h]
    rfl
  · rw [if_neg h, List.getElem?_eq_none (by omega)]
    rfl
@[simp] theorem atI_lit {α : Type} {xs : List α} {n : Nat} : atI xs (OfNat.ofNat n : Int) = xs[n]? := atI_nat (n := n)
end
end Dn

/-! statements and loops, as they come out -/
namespace Dn
open PySem PySem.Spec L2
section
variable {ρ : Rho} {f : Feed} {a b c : Ex} {s s2 : Sm} {t u : Tx} {i j : Nat}
@[simp] theorem e_seq : sSeq s s2 ρ f = (s ρ f).bind fun c f1 => andThen c f1 s2 := nr rfl
@[simp] theorem e_then_nx {k : Rho → Feed → R Ctl} : andThen (.nx ρ) f k = k ρ f := nr rfl
@[simp] theorem e_then_rt {v : RV} {k : Rho → Feed → R Ctl} : andThen (.rt v) f k = .ok (.rt v) f := nr rfl
@[simp] theorem e_then_bk {k : Rho → Feed → R Ctl} : andThen (.bk ρ) f k = .ok (.bk ρ) f := nr rfl
@[simp] theorem e_then_ct {k : Rho → Feed → R Ctl} : andThen (.ct ρ) f k = .ok (.ct ρ) f := nr rfl
@[simp] theorem e_set : sSet i a ρ f = (a ρ f).bind fun rv f1 => match slotOf rv with
  | some s => .ok (.nx (ρ.set i s)) f1
  | none => .no := nr rfl
@[simp] theorem e_ret : sRet a ρ f = (a ρ f).bind fun rv f1 => .ok (.rt rv) f1 := nr rfl
@[simp] theorem e_if : sIf t s s2 ρ f = (t ρ f).bind fun c f1 => if c = true then s ρ f1 else s2 ρ f1 := nr rfl
@[simp] theorem e_drop : sDrop a ρ f = (a ρ f).bind fun _ f1 => .ok (.nx ρ) f1 := nr rfl
@[simp] theorem e_next : sNext ρ f = .ok (.nx ρ) f := nr rfl
@[simp] theorem e_break : sBreak ρ f = .ok (.bk ρ) f := nr rfl
@[simp] theorem e_cont : sCont ρ f = .ok (.ct ρ) f := nr rfl
@[simp] theorem e_no : sNo ρ f = .no := nr rfl
@[simp] theorem e_asg {T : Tgt} : sAsg T a ρ f = dt (a ρ f) fun d f1 => match T.put d ρ with
  | some ρ2 => .ok (.nx ρ2) f1
  | none => .no := nr rfl
@[simp] theorem e_par : sPar i j a b ρ f = dt (a ρ f) fun d f1 => dt (b ρ f1) fun e f2 => .ok (.nx ((ρ.set i (.dat d)).set j (.dat e))) f2 := by
  unfold sPar cArgs cArgs cArgs dt
  cases a ρ f with
  | no => rfl
  | ex => rfl
  | ok rv f1 =>
    simp only [bind_ok]
    cases rv.data with
    | none => rfl
    | some d =>
      simp only
      cases b ρ f1 with
      | no => rfl
      | ex => rfl
      | ok rv f2 =>
        simp only [bind_ok]
        cases rv.data <;> rfl
@[simp] theorem e_par3 {l : Nat} : sPar3 i j l a b c ρ f = dt (a ρ f) fun d f1 => dt (b ρ f1) fun e f2 => dt (c ρ f2) fun h f3 => .ok (.nx (((ρ.set i (.dat d)).set j (.dat e)).set l (.dat h))) f3 := by
  unfold sPar3 cArgs cArgs cArgs cArgs dt
  cases a ρ f with
  | no => rfl
  | ex => rfl
  | ok rv f1 =>
    simp only [bind_ok]
    cases rv.data with
    | none => rfl
    | some d =>
      simp only
      cases b ρ f1 with
      | no => rfl
      | ex => rfl
      | ok rv f2 =>
        simp only [bind_ok]
        cases rv.data with
        | none => rfl
        | some d =>
          simp only
          cases c ρ f2 with
          | no => rfl
          | ex => rfl
          | ok rv f2 =>
            simp only [bind_ok]
            cases rv.data <;> rfl
@[simp] theorem e_pop {T : Tgt} : sPop i T ρ f = match popped i ρ with
  | some (d, ρ1) => match T.put d ρ1 with
    | some ρ2 => .ok (.nx ρ2) f
    | none => .no
  | none => .no := nr rfl
@[simp] theorem e_popD : sPopD i ρ f = match popped i ρ with
  | some (_, ρ1) => .ok (.nx ρ1) f
  | none => .no := nr rfl
@[simp] theorem e_app : sApp i a ρ f = match ρ[i]? with
  | some (.own ds) => dt (a ρ f) fun d f1 => if ds.length < 100000 then .ok (.nx (ρ.set i (.own (ds ++ [d])))) f1 else .no
  | _ => .no := nr rfl
@[simp] theorem e_ext : sExt i a ρ f = match ρ[i]? with
  | some (.own ds) => dt (a ρ f) fun d f1 => match d with
    | .list es => if ds.length + es.length ≤ 100000 then .ok (.nx (ρ.set i (.own (ds ++ es)))) f1 else .no
    | _ => .no
  | _ => .no := nr rfl
@[simp] theorem e_put : sPut i a b ρ f = match ρ[i]? with
  | some (.own ds) => dt (b ρ f) fun d f1 => pk (a ρ f1) fun k f2 => match k with
    | .int k => match ixN ds.length k with
      | some j => .ok (.nx (ρ.set i (.own (ds.set j d)))) f2
      | none => .no
    | _ => .no
  | _ => .no := nr rfl
@[simp] theorem e_frz : sFrz i ρ f = match ρ[i]? with
  | some (.own ds) => .ok (.nx (ρ.set i (.dat (.list ds)))) f
  | _ => .ok (.nx ρ) f := nr rfl
@[simp] theorem e_for {it : Ix} {T : Tgt} : sFor it T s ρ f = (it ρ f).bind fun ds f1 => forN T s ds ρ f1 := nr rfl
@[simp] theorem e_feedS {k : Str} : sFeed k a b ρ f = pk (b ρ f) fun d f1 => (a ρ f1).bind fun rv f2 => match d, rv with
  | .int i, .feed => match f2.put k i with
    | some f3 => .ok (.nx ρ) f3
    | none => .no
  | _, _ => .no := nr rfl
@[simp] theorem e_C {d : PyData} : cC d ρ f = .ok (.dat d) f := nr rfl
@[simp] theorem e_V : cVar i ρ f = match ρ[i]? with
  | some (.dat d) => .ok (.dat d) f
  | some (.own ds) => .ok (.lent i ds) f
  | some .feed => .ok .feed f
  | some (.key ks) => .ok (.dat (.tuple (ks.map .int))) f
  | _ => .no := nr rfl
@[simp] theorem e_Bin {o : Op2} : cBin o a b ρ f = pk (a ρ f) fun x f1 => pk (b ρ f1) fun y f2 => give (o x y) f2 := nr rfl
@[simp] theorem e_Un {o : Op1} : cUn o a ρ f = pk (a ρ f) fun x f1 => give (o x) f1 := nr rfl
@[simp] theorem e_feed {k : Str} : cFeed k a ρ f = (a ρ f).bind fun rv f1 => match rv with
  | .feed => give (f1.get k) f1
  | _ => .no := nr rfl
@[simp] theorem e_And : cAnd a b ρ f = pk (a ρ f) fun d f1 => match d with
  | .bool true => b ρ f1
  | .bool false => .ok (.dat (.bool false)) f1
  | _ => .no := nr rfl
@[simp] theorem e_Or : cOr a b ρ f = pk (a ρ f) fun d f1 => match d with
  | .bool true => .ok (.dat (.bool true)) f1
  | .bool false => b ρ f1
  | _ => .no := nr rfl
@[simp] theorem e_If : cIf t a b ρ f = (t ρ f).bind fun c f1 => if c = true then a ρ f1 else b ρ f1 := nr rfl
@[simp] theorem e_Chain {o o2 : Op2} : cChain o o2 a b c ρ f = pk (a ρ f) fun x f1 => pk (b ρ f1) fun y f2 => match o x y with
  | some (.dat (.bool true)) => pk (c ρ f2) fun z f3 => give (o2 y z) f3
  | some (.dat (.bool false)) => .ok (.dat (.bool false)) f2
  | _ => .no := nr rfl
@[simp] theorem e_T : cT a ρ f = pk (a ρ f) fun d f1 => match d with
  | .bool b => .ok b f1
  | _ => .no := nr rfl
@[simp] theorem e_Yes : cYes ρ f = .ok true f := nr rfl
@[simp] theorem e_tAnd : tAndX t u ρ f = (t ρ f).bind fun b f1 => if b = true then u ρ f1 else .ok false f1 := nr rfl
@[simp] theorem e_tOr : tOrX t u ρ f = (t ρ f).bind fun b f1 => if b = true then .ok true f1 else u ρ f1 := nr rfl
@[simp] theorem e_tNot : tNotX t ρ f = (t ρ f).bind fun b f1 => .ok (!b) f1 := nr rfl
@[simp] theorem e_Args_nil : cArgs [] ρ f = .ok [] f := nr rfl
@[simp] theorem e_Args_cons {xs : List Ex} : cArgs (a :: xs) ρ f = dt (a ρ f) fun d f1 => (cArgs xs ρ f1).bind fun ds f2 => .ok (d :: ds) f2 := nr rfl
@[simp] theorem e_Vals_nil : cVals [] ρ f = .ok [] f := nr rfl
@[simp] theorem e_Vals_cons {xs : List Ex} : cVals (a :: xs) ρ f = (a ρ f).bind fun rv f1 => match toArg rv with
    | some a => (cVals xs ρ f1).bind fun as f2 => .ok (a :: as) f2
    | none => .no := nr rfl
@[simp] theorem e_Call {F : Fn} {xs : List Ex} : cCall F xs ρ f = (cVals xs ρ f).bind fun as f1 => F as f1 := nr rfl
@[simp] theorem e_Tup {xs : List Ex} : cTup xs ρ f = (cArgs xs ρ f).bind fun ds f1 => if ds.length ≤ 100000 then .ok (.dat (.tuple ds)) f1 else .no := nr rfl
@[simp] theorem e_Lst {xs : List Ex} : cLst xs ρ f = (cArgs xs ρ f).bind fun ds f1 => if ds.length ≤ 100000 then .ok (.own ds) f1 else .no := nr rfl
@[simp] theorem e_Lc {it : Ix} {T : Tgt} {vs : List Nat} : cLc it T t a vs ρ f = (it ρ f).bind fun ds f1 => (lcN T t a (wipeR ρ vs) ds [] f1).bind fun ys f2 => .ok (.own ys) f2 := nr rfl
@[simp] theorem e_wipe_nil : wipeR ρ [] = ρ := nr rfl
@[simp] theorem e_wipe_cons {v : Nat} {vs : List Nat} : wipeR ρ (v :: vs) = (wipeR ρ vs).set v .emp := nr rfl
@[simp] theorem e_iSeq : iSeq a ρ f = dt (a ρ f) fun d f1 => match seqOf d with
  | some ds => .ok ds f1
  | none => .no := nr rfl
@[simp] theorem e_iRange1 : iRange1 a ρ f = pk (a ρ f) fun d f1 => match d with
  | .int n => if smallI n = true then .ok (rangeD 0 n.toNat) f1 else .no
  | _ => .no := nr rfl
@[simp] theorem e_iRange2 : iRange2 a b ρ f = pk (a ρ f) fun d f1 => pk (b ρ f1) fun d2 f2 => match d, d2 with
  | .int i, .int j => if (smallI i && smallI j) = true then .ok (rangeD i (j - i).toNat) f2 else .no
  | _, _ => .no := nr rfl
@[simp] theorem e_iDown : iDown a b c ρ f = pk (a ρ f) fun d f1 => pk (b ρ f1) fun d2 f2 => pk (c ρ f2) fun d3 f3 => match d, d2, d3 with
  | .int i, .int j, .int k => if (smallI i && smallI j && decide (k = -1)) = true then .ok (downD i (i - j).toNat) f3 else .no
  | _, _, _ => .no := nr rfl
@[simp] theorem e_iEnum : iEnum a ρ f = dt (a ρ f) fun d f1 => match seqOf d with
  | some ds => .ok (pairsD ds) f1
  | none => .no := nr rfl
@[simp] theorem e_iZip : iZip a b ρ f = dt (a ρ f) fun d f1 => dt (b ρ f1) fun e f2 => match d, e with
  | .list ds, .list es => .ok (zipD ds es) f2
  | .tuple ds, .tuple es => .ok (zipD ds es) f2
  | .tuple ds, .list es => .ok (zipD ds es) f2
  | .list ds, .tuple es => .ok (zipD ds es) f2
  | _, _ => .no := nr rfl
@[simp] theorem e_Sl {lo hi : Option Ex} : cSl a lo hi ρ f = pk (a ρ f) fun x f1 => partX lo ρ f1 fun i f2 => partX hi ρ f2 fun j f3 => give (oSl i j x) f3 := nr rfl
@[simp] theorem e_part_none {k : Option Int → Feed → R RV} : partX none ρ f k = k none f := nr rfl
@[simp] theorem e_part_some {k : Option Int → Feed → R RV} : partX (some a) ρ f k = pk (a ρ f) fun d f1 => match d with
    | .int i => k (some i) f1
    | _ => .no := nr rfl
@[simp] theorem e_slot_dat {d : PyData} : slotOf (.dat d) = some (.dat d) := nr rfl
@[simp] theorem e_slot_own {d : List PyData} : slotOf (.own d) = some (.own d) := nr rfl
@[simp] theorem e_slot_feed : slotOf .feed = some .feed := nr rfl
@[simp] theorem e_arg_dat {d : PyData} : toArg (.dat d) = some (.dat d) := nr rfl
@[simp] theorem e_arg_own {d : List PyData} : toArg (.own d) = some (.dat (.list d)) := nr rfl
@[simp] theorem e_arg_feed : toArg .feed = some .feed := nr rfl
@[simp] theorem e_seqOf_list {xs : List PyData} : seqOf (.list xs) = some xs := nr rfl
@[simp] theorem e_seqOf_tuple {xs : List PyData} : seqOf (.tuple xs) = some xs := nr rfl
@[simp] theorem e_put_one {d : PyData} : (Tgt.one i).put d ρ = some (ρ.set i (.dat d)) := nr rfl
@[simp] theorem e_put_many {l : List Nat} {ds : List PyData} : (Tgt.many l).put (.tuple ds) ρ = if ds.length = l.length then some (setAll l ds ρ) else none := nr rfl
@[simp] theorem e_setAll_nil {l : List Nat} : setAll l [] ρ = ρ := by cases l <;> rfl
@[simp] theorem e_setAll_cons {l : List Nat} {d : PyData} {ds : List PyData} : setAll (i :: l) (d :: ds) ρ = setAll l ds (ρ.set i (.dat d)) := nr rfl
@[simp] theorem e_fnSlot_dat {d : PyData} : fnSlot (.dat d) = .dat d := nr rfl
@[simp] theorem e_fnSlot_feed : fnSlot .feed = .feed := nr rfl
@[simp] theorem e_up_dat {d : PyData} : (RV.dat d).up = .dat d := nr rfl
@[simp] theorem e_up_own {d : List PyData} : (RV.own d).up = .own d := nr rfl
@[simp] theorem e_up_lent {d : List PyData} : (RV.lent i d).up = .own d := nr rfl
@[simp] theorem e_peek_dat {d : PyData} : (RV.dat d).peek = some d := nr rfl
@[simp] theorem e_data_dat {d : PyData} : (RV.dat d).data = some d := nr rfl
@[simp] theorem e_data_own {d : List PyData} : (RV.own d).data = some (.list d) := nr rfl
@[simp] theorem e_ix_tuple {xs : List PyData} {k : Int} : oIx (.tuple xs) (.int k) = (atI xs k).map .dat := nr rfl
@[simp] theorem e_ix_list {xs : List PyData} {k : Int} : oIx (.list xs) (.int k) = (atI xs k).map .dat := nr rfl
@[simp] theorem e_sl_tuple {xs : List PyData} {lo hi : Option Int} : oSl lo hi (.tuple xs) = some (.dat (.tuple (cutD xs lo hi))) := nr rfl
@[simp] theorem e_sl_list {xs : List PyData} {lo hi : Option Int} : oSl lo hi (.list xs) = some (.own (cutD xs lo hi)) := nr rfl
@[simp] theorem e_at0 {α : Type} {x : α} {xs : List α} : atI (x :: xs) 0 = some x := atI_nat (n := 0)
@[simp] theorem e_at1 {α : Type} {x y : α} {xs : List α} : atI (x :: y :: xs) 1 = some y := atI_nat (n := 1)
@[simp] theorem e_at2 {α : Type} {x y z : α} {xs : List α} : atI (x :: y :: z :: xs) 2 = some z := atI_nat (n := 2)
@[simp] theorem e_at3 {α : Type} {x y z w : α} {xs : List α} : atI (x :: y :: z :: w :: xs) 3 = some w := atI_nat (n := 3)
@[simp] theorem give_some_map {o : Option PyData} {g : Feed} : give (o.map .dat) g = match o with
  | some d => .ok (.dat d) g
  | none => .no := by cases o <;> rfl
@[simp] theorem e_gturn {g : Feed} : g.get "turn" = some (.dat (.int g.turn)) := nr rfl
@[simp] theorem e_gat {g : Feed} : g.get "at" = some (.dat (.int g.spot)) := nr rfl
@[simp] theorem e_gleft {g : Feed} : g.get "left" = some (.dat (.int g.left)) := nr rfl
@[simp] theorem e_gcells {g : Feed} : g.get "cells" = some (.dat (.list (g.cells.map .int))) := nr rfl
@[simp] theorem e_pturn {g : Feed} {k : Int} : g.put "turn" k = some { g with turn := k } := nr rfl
@[simp] theorem e_pat {g : Feed} {k : Int} : g.put "at" k = some { g with spot := k } := nr rfl
@[simp] theorem e_pleft {g : Feed} {k : Int} : g.put "left" k = some { g with left := k } := nr rfl
end
/-! functions -/
def RetP (P : RV → Feed → Prop) : Ctl → Feed → Prop
  | .nx _, f => P (.dat .none) f
  | .rt v, f => P v.up f
  | _, _ => False
@[simp] theorem retP_nx {P : RV → Feed → Prop} {ρ : Rho} {f : Feed} : RetP P (.nx ρ) f ↔ P (.dat .none) f := nri Iff.rfl
@[simp] theorem retP_rt {P : RV → Feed → Prop} {v : RV} {f : Feed} : RetP P (.rt v) f ↔ P v.up f := nri Iff.rfl
theorem ev_dEnd {r : R Ctl} {P : RV → Feed → Prop} : Ev (dEnd r) P ↔ Ev r (RetP P) := by
  cases r with
  | no => exact ⟨fun ⟨_, _, e, _⟩ => (by cases e), fun ⟨_, _, e, _⟩ => (by cases e)⟩
  | ex c v f => exact ⟨fun ⟨_, _, e, _⟩ => (by cases e), fun ⟨_, _, e, _⟩ => (by cases e)⟩
  | ok a f =>
    cases a with
    | nx ρ => exact (ev_ok (a := RV.dat .none)).trans (ev_ok (P := RetP P) (a := Ctl.nx ρ)).symm
    | rt v => exact (ev_ok (a := v.up)).trans (ev_ok (P := RetP P) (a := Ctl.rt v)).symm
    | bk ρ => exact ⟨fun ⟨_, _, e, _⟩ => (by cases e), fun h => (ev_ok.mp h).elim⟩
    | ct ρ => exact ⟨fun ⟨_, _, e, _⟩ => (by cases e), fun h => (ev_ok.mp h).elim⟩
theorem ev_is {α : Type} {r : R α} {v : α} {f : Feed} (h : Ev r fun a g => a = v ∧ g = f) : r = .ok v f := by
  obtain ⟨a, g, e, rfl, rfl⟩ := h
  exact e
theorem Ev.of {α : Type} {r : R α} {v : α} {f : Feed} {P : α → Feed → Prop} (h : r = .ok v f) (p : P v f) : Ev r P := ⟨v, f, h, p⟩
theorem ev_ite {α : Type} {c : Prop} [Decidable c] {r s : R α} {P : α → Feed → Prop} : Ev (if c then r else s) P ↔ (c → Ev r P) ∧ (¬ c → Ev s P) := by
  by_cases h : c
  · rw [if_pos h]
    exact ⟨fun q => ⟨fun _ => q, fun z => absurd h z⟩, fun q => q.1 h⟩
  · rw [if_neg h]
    exact ⟨fun q => ⟨fun z => absurd z h, fun _ => q⟩, fun q => q.2 h⟩
/-! loops -/
def LoopP (J : Rho → Feed → Prop) (P : Ctl → Feed → Prop) : Ctl → Feed → Prop
  | .nx ρ, f => J ρ f
  | .ct ρ, f => J ρ f
  | .bk ρ, f => P (.nx ρ) f
  | .rt v, f => P (.rt v) f
@[simp] theorem loopP_nx {J : Rho → Feed → Prop} {P : Ctl → Feed → Prop} {ρ : Rho} {f : Feed} : LoopP J P (.nx ρ) f ↔ J ρ f := nri Iff.rfl
@[simp] theorem loopP_ct {J : Rho → Feed → Prop} {P : Ctl → Feed → Prop} {ρ : Rho} {f : Feed} : LoopP J P (.ct ρ) f ↔ J ρ f := nri Iff.rfl
@[simp] theorem loopP_bk {J : Rho → Feed → Prop} {P : Ctl → Feed → Prop} {ρ : Rho} {f : Feed} : LoopP J P (.bk ρ) f ↔ P (.nx ρ) f := nri Iff.rfl
@[simp] theorem loopP_rt {J : Rho → Feed → Prop} {P : Ctl → Feed → Prop} {v : RV} {f : Feed} : LoopP J P (.rt v) f ↔ P (.rt v) f := nri Iff.rfl
theorem ev_forL {T : Tgt} {s : Sm} {P : Ctl → Feed → Prop} (I : List PyData → Rho → Feed → Prop) (hs : ∀ d ds ρ f, I (d :: ds) ρ f → ∃ ρ1, T.put d ρ = some ρ1 ∧ Ev (s ρ1 f) (LoopP (I ds) P)) (he : ∀ ρ f, I [] ρ f → P (.nx ρ) f) :
    ∀ (ds : List PyData) (ρ : Rho) (f : Feed), I ds ρ f → Ev (forN T s ds ρ f) P
  | [], ρ, f, h => ev_ok.mpr (he ρ f h)
  | d :: ds, ρ, f, h => by
    obtain ⟨ρ1, e, c, f1, e2, p⟩ := hs d ds ρ f h
    unfold forN
    rw [e]
    simp only [e2, bind_ok]
    cases c with
    | nx ρ2 => exact ev_forL I hs he ds ρ2 f1 p
    | ct ρ2 => exact ev_forL I hs he ds ρ2 f1 p
    | bk ρ2 => exact ev_ok.mpr p
    | rt v => exact ev_ok.mpr p
/-- by the number of turns done -/
theorem ev_for {T : Tgt} {s : Sm} {P : Ctl → Feed → Prop} (I : Nat → Rho → Feed → Prop) {ds : List PyData} {ρ : Rho} {f : Feed} (h : I 0 ρ f)
    (hs : ∀ i d ρ f, ds[i]? = some d → I i ρ f → ∃ ρ1, T.put d ρ = some ρ1 ∧ Ev (s ρ1 f) (LoopP (I (i + 1)) P)) (he : ∀ ρ f, I ds.length ρ f → P (.nx ρ) f) : Ev (forN T s ds ρ f) P := by
  refine ev_forL (fun r ρ f => ∃ i, ds.drop i = r ∧ i ≤ ds.length ∧ I i ρ f) (fun d r ρ f z => ?_) (fun ρ f z => ?_) ds ρ f ⟨0, rfl, Nat.zero_le _, h⟩
  · obtain ⟨i, e, hi, z⟩ := z
    have g : ds[i]? = some d := by
      rw [← List.head?_drop, e]
      rfl
    have hl : i < ds.length := (List.getElem?_eq_some_iff.mp g).1
    have e2 : ds.drop (i + 1) = r := by
      rw [← List.tail_drop, e]
      rfl
    obtain ⟨ρ1, p, q⟩ := hs i d ρ f g z
    refine ⟨ρ1, p, q.mono fun c f1 w => ?_⟩
    cases c with
    | nx ρ2 => exact ⟨i + 1, e2, hl, w⟩
    | ct ρ2 => exact ⟨i + 1, e2, hl, w⟩
    | bk ρ2 => exact w
    | rt v => exact w
  · obtain ⟨i, e, hi, z⟩ := z
    have : ds.length ≤ i := List.drop_eq_nil_iff.mp e
    have e2 : i = ds.length := by omega
    subst e2
    exact he ρ f z
/-! comprehensions -/
theorem ev_lc {T : Tgt} {t : Tx} {e : Ex} {ρ : Rho} {P : List PyData → Feed → Prop} (I : Nat → List PyData → Feed → Prop) {ds : List PyData} (hd : ds.length ≤ 100000)
    (hs : ∀ i d acc f, ds[i]? = some d → I i acc f → ∃ ρ1, T.put d ρ = some ρ1 ∧ Ev (t ρ1 f) fun b f1 => (b = true → Ev (e ρ1 f1) fun rv f2 => ∃ y, rv.data = some y ∧ I (i + 1) (acc ++ [y]) f2) ∧ (b = false → I (i + 1) acc f1))
    (he : ∀ acc f, I ds.length acc f → P acc f) {f : Feed} (h : I 0 [] f) : Ev (lcN T t e ρ ds [] f) P := by
  have go : ∀ (r : List PyData) (i : Nat) (acc : List PyData) (f : Feed), ds.drop i = r → i ≤ ds.length → acc.length ≤ i → I i acc f → Ev (lcN T t e ρ r acc f) P := by
    intro r
    induction r with
    | nil =>
      intro i acc f q hi ha z
      have : ds.length ≤ i := List.drop_eq_nil_iff.mp q
      have e2 : i = ds.length := by omega
      subst e2
      exact ev_ok.mpr (he acc f z)
    | cons d r ih =>
      intro i acc f q hi ha z
      have g : ds[i]? = some d := by
        rw [← List.head?_drop, q]
        rfl
      have hl : i < ds.length := (List.getElem?_eq_some_iff.mp g).1
      have e2 : ds.drop (i + 1) = r := by
        rw [← List.tail_drop, q]
        rfl
      obtain ⟨ρ1, p, b, f1, w, w1, w2⟩ := hs i d acc f g z
      unfold lcN
      rw [p]
      simp only [w, noEx_ok2, bind_ok]
      cases b with
      | false =>
        rw [if_neg (by decide)]
        exact ih (i + 1) acc f1 e2 hl (by omega) (w2 rfl)
      | true =>
        rw [if_pos rfl]
        obtain ⟨rv, f2, u, y, u1, u2⟩ := w1 rfl
        rw [u, noEx_ok2]
        unfold dt
        simp only [bind_ok, u1]
        rw [if_pos (by omega)]
        exact ih (i + 1) (acc ++ [y]) f2 e2 hl (by rw [List.length_append]; show acc.length + 1 ≤ i + 1; omega) u2
  exact go ds 0 [] f rfl (Nat.zero_le _) (Nat.le_refl 0) h
/-- nothing is drawn in it -/
theorem lc_pure {τ : Type} {T : Tgt} {t : Tx} {e : Ex} {ρ : Rho} {f : Feed} {xs : List τ} {enc g : τ → PyData} {p : τ → Bool} (hl : xs.length ≤ 100000)
    (h : ∀ x ∈ xs, ∃ ρ1, T.put (enc x) ρ = some ρ1 ∧ t ρ1 f = .ok (p x) f ∧ (p x = true → e ρ1 f = .ok (.dat (g x)) f)) : lcN T t e ρ (xs.map enc) [] f = .ok ((xs.filter p).map g) f := by
  have go : ∀ (r : List τ) (acc : List PyData), acc.length + r.length ≤ 100000 → (∀ x ∈ r, ∃ ρ1, T.put (enc x) ρ = some ρ1 ∧ t ρ1 f = .ok (p x) f ∧ (p x = true → e ρ1 f = .ok (.dat (g x)) f)) → lcN T t e ρ (r.map enc) acc f = .ok (acc ++ (r.filter p).map g) f := by
    intro r
    induction r with
    | nil =>
      intro acc _ _
      show R.ok acc f = _
      rw [List.filter_nil, List.map_nil, List.append_nil]
    | cons x r ih =>
      intro acc hl h
      rw [List.length_cons] at hl
      obtain ⟨ρ1, h1, h2, h3⟩ := h x List.mem_cons_self
      show lcN T t e ρ (enc x :: r.map enc) acc f = _
      unfold lcN
      rw [h1]
      simp only [h2, noEx_ok2, bind_ok]
      cases q : p x with
      | false =>
        rw [if_neg (by decide), ih acc (by omega) fun y hy => h y (List.mem_cons_of_mem _ hy), List.filter_cons_of_neg (by rw [q]; decide)]
      | true =>
        rw [if_pos rfl, h3 q, noEx_ok2, dt_ok_dat, if_pos (by omega), ih (acc ++ [g x]) (by rw [List.length_append]; show acc.length + 1 + r.length ≤ 100000; omega) fun y hy => h y (List.mem_cons_of_mem _ hy), List.filter_cons_of_pos q, List.map_cons, List.append_assoc]
        rfl
  exact go xs [] (by simpa using hl) h
theorem lc_map {τ : Type} {T : Tgt} {e : Ex} {ρ : Rho} {f : Feed} {xs : List τ} {enc g : τ → PyData} (hl : xs.length ≤ 100000)
    (h : ∀ x ∈ xs, ∃ ρ1, T.put (enc x) ρ = some ρ1 ∧ e ρ1 f = .ok (.dat (g x)) f) : lcN T cYes e ρ (xs.map enc) [] f = .ok (xs.map g) f := by
  have := lc_pure (t := cYes) (p := fun _ => true) hl fun x hx => by
    obtain ⟨ρ1, a, b⟩ := h x hx
    exact ⟨ρ1, a, rfl, fun _ => b⟩
  rw [this, List.filter_eq_self.mpr fun _ _ => rfl]
/-! while -/
theorem whileN_more {t : Tx} {s : Sm} {n m : Nat} {ρ : Rho} {f g : Feed} {c : Ctl} (h : n ≤ m) (e : whileN t s n ρ f = .ok c g) : whileN t s m ρ f = .ok c g := by
  have q := whileN_add (show whileN t s n ρ f ≠ .no by rw [e]; exact fun z => by cases z) (m - n)
  rw [show n + (m - n) = m by omega, e] at q
  exact q
theorem sWhile_is {t : Tx} {s : Sm} {n : Nat} {ρ : Rho} {f g : Feed} {c : Ctl} (e : whileN t s n ρ f = .ok c g) : sWhile t s ρ f = .ok c g := sWhile_eq e fun z => by cases z
theorem ev_while {t : Tx} {s : Sm} {P : Ctl → Feed → Prop} (I : Nat → Rho → Feed → Prop)
    (hs : ∀ n ρ f, I n ρ f → Ev (t ρ f) fun b f1 => (b = true → Ev (s ρ f1) (LoopP (fun ρ2 f2 => ∃ m, m < n ∧ I m ρ2 f2) P)) ∧ (b = false → P (.nx ρ) f1)) {n : Nat} {ρ : Rho} {f : Feed} (h : I n ρ f) : Ev (sWhile t s ρ f) P := by
  have go : ∀ n ρ f, I n ρ f → ∃ c f2, whileN t s (n + 1) ρ f = .ok c f2 ∧ P c f2 := by
    intro n
    induction n using Nat.strongRecOn with
    | ind n ih =>
      intro ρ f h
      obtain ⟨b, f1, e, p, q⟩ := hs n ρ f h
      unfold whileN
      rw [e]
      simp only [bind_ok]
      cases b with
      | false =>
        rw [if_neg (by decide)]
        exact ⟨_, _, rfl, q rfl⟩
      | true =>
        rw [if_pos rfl]
        obtain ⟨c, f2, e2, w⟩ := p rfl
        simp only [e2, bind_ok]
        cases c with
        | bk ρ2 => exact ⟨_, _, rfl, w⟩
        | rt v => exact ⟨_, _, rfl, w⟩
        | nx ρ2 =>
          obtain ⟨m, hm, z⟩ := w
          obtain ⟨c3, f3, e3, p3⟩ := ih m hm ρ2 f2 z
          exact ⟨c3, f3, (whileN_more (by omega) e3), p3⟩
        | ct ρ2 =>
          obtain ⟨m, hm, z⟩ := w
          obtain ⟨c3, f3, e3, p3⟩ := ih m hm ρ2 f2 z
          exact ⟨c3, f3, (whileN_more (by omega) e3), p3⟩
  obtain ⟨c, f2, e, p⟩ := go n ρ f h
  exact ⟨c, f2, sWhile_is e, p⟩
end Dn

/-! what raise and try do, for simp -/
namespace Dn
open PySem PySem.Spec L2
section
variable {α β : Type} {ρ : Rho} {f : Feed} {i j : Nat} {x : Ex} {su : Sm} {names : List Str} {c : Str} {vs : List (Str × PyData)}
@[simp] theorem e_raise {fs : List Str} {xs : List Ex} : sRaise c fs xs ρ f = (cArgs xs ρ f).bind fun ds f1 => if ds.length = fs.length ∧ fs.length ≤ 900 then .ex c (fs.zip ds).reverse f1 else .no := nr rfl
@[simp] theorem bind_ex {k : α → Feed → R β} : (R.ex c vs f).bind k = .ex c vs f := nr rfl
@[simp] theorem dt_ex {k : PyData → Feed → R β} : dt (R.ex c vs f) k = .ex c vs f := nr rfl
@[simp] theorem pk_ex {k : PyData → Feed → R β} : pk (R.ex c vs f) k = .ex c vs f := nr rfl
def tryOn (i : Nat) (ρ : Rho) (h : Str → List (Str × PyData) → Feed → R Ctl) : R RV → R Ctl
  | .no => .no
  | .ok rv f1 => match slotOf rv with
    | some s => .ok (.nx (ρ.set i s)) f1
    | none => .no
  | .ex c vs f1 => h c vs f1
def tryRet (h : Str → List (Str × PyData) → Feed → R Ctl) : R RV → R Ctl
  | .no => .no
  | .ok rv f1 => .ok (.rt rv) f1
  | .ex c vs f1 => h c vs f1
@[simp] theorem e_tryS0 : sTryS0 i x names su ρ f = tryOn i ρ (fun c _ f1 => if names.contains c then noEx (su ρ f1) else .no) (x ρ f) := by
  unfold sTryS0 tryOn
  cases x ρ f <;> rfl
@[simp] theorem e_tryS : sTryS i j x names su ρ f = tryOn i ρ (fun c vs f1 => if names.contains c then drp j (noEx (su (ρ.set j (.dat (excD c vs))) f1)) else .no) (x ρ f) := by
  unfold sTryS tryOn caught
  cases x ρ f <;> rfl
@[simp] theorem e_tryR : sTryR j x names su ρ f = tryRet (fun c vs f1 => if names.contains c then drp j (noEx (su (ρ.set j (.dat (excD c vs))) f1)) else .no) (x ρ f) := by
  unfold sTryR tryRet caught
  cases x ρ f <;> rfl
variable {h : Str → List (Str × PyData) → Feed → R Ctl}
@[simp] theorem on_dat {d : PyData} : tryOn i ρ h (.ok (.dat d) f) = .ok (.nx (ρ.set i (.dat d))) f := nr rfl
@[simp] theorem on_own {d : List PyData} : tryOn i ρ h (.ok (.own d) f) = .ok (.nx (ρ.set i (.own d))) f := nr rfl
@[simp] theorem on_ex : tryOn i ρ h (.ex c vs f) = h c vs f := nr rfl
@[simp] theorem ret_ok {rv : RV} : tryRet h (.ok rv f) = .ok (.rt rv) f := nr rfl
@[simp] theorem ret_ex : tryRet h (.ex c vs f) = h c vs f := nr rfl
@[simp] theorem noEx_ok' {a : α} : noEx (.ok a f) = .ok a f := nr rfl
@[simp] theorem drp_nx : drp j (.ok (.nx ρ) f) = .ok (.nx (ρ.set j .emp)) f := nr rfl
@[simp] theorem drp_rt {v : RV} : drp j (.ok (.rt v) f) = .ok (.rt v) f := nr rfl
@[simp] theorem end_nx : dEndX (.ok (.nx ρ) f) = .ok (.dat .none) f := nr rfl
@[simp] theorem end_rt {v : RV} : dEndX (.ok (.rt v) f) = .ok v.up f := nr rfl
@[simp] theorem end_ex : dEndX (.ex c vs f) = .ex c vs f := nr rfl
@[simp] theorem e_excNm {r : List (PyData × PyData)} : excNm (.dict ((.none, .str c) :: r)) = if errNames.contains c then some c else none := nr rfl
@[simp] theorem e_excD : excD c vs = .dict ((.none, .str c) :: vs.map fun p => (.str p.1, p.2)) := nr rfl
end
theorem ev_dEndX {r : R Ctl} {P : RV → Feed → Prop} : Ev (dEndX r) P ↔ Ev r (RetP P) := by
  cases r with
  | no => exact ⟨fun ⟨_, _, e, _⟩ => (by cases e), fun ⟨_, _, e, _⟩ => (by cases e)⟩
  | ex c v f => exact ⟨fun ⟨_, _, e, _⟩ => (by cases e), fun ⟨_, _, e, _⟩ => (by cases e)⟩
  | ok a f =>
    cases a with
    | nx ρ => exact (ev_ok (a := RV.dat .none)).trans (ev_ok (P := RetP P) (a := Ctl.nx ρ)).symm
    | rt v => exact (ev_ok (a := v.up)).trans (ev_ok (P := RetP P) (a := Ctl.rt v)).symm
    | bk ρ => exact ⟨fun ⟨_, _, e, _⟩ => (by cases e), fun h => (ev_ok.mp h).elim⟩
    | ct ρ => exact ⟨fun ⟨_, _, e, _⟩ => (by cases e), fun h => (ev_ok.mp h).elim⟩
end Dn

/-! a list taken apart by several names -/
namespace Dn
open PySem PySem.Spec L2
def sUnl (l : List Nat) (e : Ex) : Sm := fun ρ f => dt (e ρ f) fun d f1 => match d with
  | .list ds => if ds.length = l.length then .ok (.nx (setAll l ds ρ)) f1 else .no
  | _ => .no
def unlT (K : PySem.W.Frag) (l : List Nat) : TG := gUnl K l.length (gAll l)
section
variable {X : Cx} {E : XK} {e : Expr} {x : Ex} {pos : Pos} {l : List Nat} {es : List Expr}
theorem dg_unl {k : Nat} (hc : X.calm = true) (h : PGs X es (gAll l)) (hn : (assignEach es X.env).length = l.length := by rfl) (hst : (assignEach es X.env).findIdx? (·.1) = none := by rfl) : PG X (.Tuple es k pos) (unlT X.K l) := pg_unl hc h hn hst
theorem ds_unl {tg : Expr} (he : DE X (fun _ => E) e x) (hg : PG X tg (unlT X.K l)) (hs : swapsWithSole [tg] e pos.line X.env = pure false := by rfl) (hw : swappedStores [tg] e X.env = pure none := by rfl)
    (h1 : (assignEach [tg] X.env).map (·.2) = [assign tg X.env] := by rfl) : DS X E (.Assign [tg] e pos) (sUnl l x) := ps_mono (ps_asg he hg hs hw h1) fun D σ H ⟨g, HF, ρ, f, rel, q⟩ =>
  tD_Sdt rel q fun d f1 v G GF r1 s1 dr q1 => by
    cases d <;> try exact (show False from q1).elim
    rename_i ds
    by_cases c : ds.length = l.length
    · simp only [c, if_true] at q1
      cases dr with
      | lst h1 h2 => exact ⟨_, _, rfl, .inl (.inl (r1.sub _ _ h1)), h2.length.trans c, all_put c r1 h2 fun σ2 r2 => (show FinS X.K g D (.nx (setAll l ds _)) f1 from q1) σ2 G GF r2⟩
    · simp only [c, if_false] at q1
      exact (show False from q1).elim
@[simp] theorem e_unl {ρ : Rho} {f : Feed} : sUnl l x ρ f = dt (x ρ f) fun d f1 => match d with
  | .list ds => if ds.length = l.length then .ok (.nx (setAll l ds ρ)) f1 else .no
  | _ => .no := nr rfl
end
end Dn
namespace Dn
open PySem PySem.Spec L2
/-- two names at once, of which one may be given a list that is to grow -/
def sParO (i j : Nat) (a b : Ex) : Sm := fun ρ f => (a ρ f).bind fun rv f1 => (b ρ f1).bind fun rw f2 => match slotOf rv, slotOf rw with
  | some s, some t => .ok (.nx ((ρ.set i s).set j t)) f2
  | _, _ => .no
section
variable {X : Cx} {E : XK} {pos : Pos}
theorem ds_parO {i j : Nat} {y z : Str} {ea eb : Expr} {xa xb : Ex} {px py pt : Pos} {kt k2 pt2} (hc : X.calm = true) (hN : X.N.Nodup) (hi : X.N[i]? = some y) (hj : X.N[j]? = some z) (hij : i ≠ j)
    (hx : X.env.scope.names.lookup y = some .local) (hy : X.env.scope.names.lookup z = some .local) (ha : DE X (fun _ => E) ea xa) (hb : DE X (fun _ => E) eb xb)
    (hw : swappedStores [.Tuple [.Name y px, .Name z py] kt pt] (.Tuple [ea, eb] k2 pt2) X.env = pure (some [y, z]))
    (hs : swapsWithSole [.Tuple [.Name y px, .Name z py] kt pt] (.Tuple [ea, eb] k2 pt2) pos.line X.env = pure false := by rfl)
    (h1 : starEach [ea, eb] X.env = (false, eval ea X.env) :: starEach [eb] X.env := by rfl) (h2 : starEach [eb] X.env = (false, eval eb X.env) :: starEach [] X.env := by rfl) :
    DS X E (.Assign [.Tuple [.Name y px, .Name z py] kt pt] (.Tuple [ea, eb] k2 pt2) pos) (sParO i j xa xb) := ps_mono (ps_par hc hN hi hj hij hx hy (pa_cons ha (pa_cons hb pa_nil h2) h1) hw hs) fun D σ H ⟨g, HF, ρ, f, rel, q⟩ =>
  tD_S rel q fun rv f1 v G GF r1 s1 rr q1 => tD_S r1 q1 fun rw f2 w I IF r2 s2 rr2 q2 => by
    have rrI := rr.step r1.feed s2
    cases z1 : slotOf rv with
    | none =>
      simp only [z1] at q2
      exact (show False from q2).elim
    | some s =>
      cases z2 : slotOf rw with
      | none =>
        simp only [z1, z2] at q2
        exact (show False from q2).elim
      | some t =>
        simp only [z1, z2] at q2
        have a1 := Rel.put (i := i) rel r1 rr z1
        have a2 := Rel.put (i := i) rel r2 rrI z1
        have rr3 : RR X.K g (σ.set i (some v)) G I IF w rw := by
          cases rw with
          | dat d => exact rr2
          | own ds => exact rr2
          | lent k ds => cases z2
          | feed => exact rr2
        exact ⟨v, w, rfl, (show FinS X.K g D (.nx _) f2 from q2) _ I IF (Rel.put a1 a2 rr3 z2)⟩
@[simp] theorem e_parO {i j : Nat} {a b : Ex} {ρ : Rho} {f : Feed} : sParO i j a b ρ f = (a ρ f).bind fun rv f1 => (b ρ f1).bind fun rw f2 => match slotOf rv, slotOf rw with
  | some s, some t => .ok (.nx ((ρ.set i s).set j t)) f2
  | _, _ => .no := nr rfl
end
/-! a tuple is no truth -/
def rIsTB : R2 := fun x y H Q => ∃ p b, x = .ref p ∧ y = .bl b ∧ Q (.bl false) H
theorem op_isTB {X : Cx} : OpR X (compareOp .Is) rIsTB := by
  intro pins s σ H x y v u Q I rx ry h
  obtain ⟨p, b, rfl, rfl, q⟩ := h
  cases (show v = Value.ref p from rx)
  cases (show u = Value.bool b from ry)
  exact wpAny_is_other rfl (fun z => by cases z) ⟨.bl false, H, I, rfl, q⟩
def oIsTB : Op2
  | .tuple _, .bool _ => some (.dat (.bool false))
  | _, _ => none
theorem isTB_ok {K : PySem.W.Frag} : BinOk K rIsTB oIsTB := fun g H HF f x y d e rv a t u z Q k => by
  cases d <;> cases e <;> try cases z
  obtain ⟨p, vs, rfl, _, _⟩ := t.tup
  exact ⟨_, _, rfl, u.bl, k.now a (.bl _)⟩
def oIsB2 : Op2 := fun d e => (oIsB false d e).or (oIsTB d e)
section
variable {X : Cx} {W : Wish} {a b : Expr} {fa fb : Ex} {pos : Pos}
theorem de_isB2 (ha : DE X W a fa) (hb : DE X W b fb) : DE X W (.Compare a [.Is] [b] pos) (cBin oIsB2 fa fb) := de_cmp (op_isBl.or op_isTB) (isB_ok.or isTB_ok) ha hb (nomark _)
theorem dt_isB2 (ha : DE X W a fa) (hb : DE X W b fb) : DT X W (.Compare a [.Is] [b] pos) (cT (cBin oIsB2 fa fb)) := dt_cmp (op_isBl.or op_isTB) (isB_ok.or isTB_ok) ha hb (nomark _)
end
end Dn
/-! t[::-1] of a tuple -/
namespace HT
open PySem PySem.Spec PyProof.Rows
section
variable {prog : Program} {w : World} {A : Around} {E : Value → Shared → Prop} {s : Shared}
theorem sliceApplied_rev {sl : Addr} {vl vu vs : Value} {n : Nat} {Q : Int × Int × Nat → Shared → Prop} (hs : s.heap.IsSliceOf sl vl vu vs) (pl : IsPart vl none) (pu : IsPart vu none) (ps : IsPart vs (some (-1)))
    (h : Q ((n : Int) - 1, -1, n) s) : wpAny (model prog w) A (Builtin.Slice.sliceApplied (.ref sl) (pure (n : Int))) Q E s := by
  obtain ⟨os, hos, hcs, hds⟩ := id hs
  unfold Builtin.Slice.sliceApplied Builtin.Slice.sliceFields
  refine wpAny_bind (wpAny_bind (wpAny_field hos hds (x := vl) rfl (wpAny_bind (wpAny_field hos hds (x := vu) rfl (wpAny_bind (wpAny_field hos hds (x := vs) rfl (wpAny_pure ?_)))))))
  refine wpAny_bind (slicePart_ ps ?_)
  show wpAny _ _ (if ((-1 : Int) == 0) = true then _ else _) _ _ s
  rw [if_neg (by decide)]
  refine wpAny_bind (slicePart_ pl (wpAny_bind (slicePart_ pu (wpAny_bind (wpAny_pure ?_)))))
  have e : Builtin.Slice.sliceAdjust none none (-1) (n : Int) = ((n : Int) - 1, -1) := rfl
  show wpAny _ _ (match Builtin.Slice.sliceAdjust none none (-1) (n : Int) with | (lo, hi) => pure (lo, (-1 : Int), Builtin.Slice.slicePlaces lo hi (-1))) _ _ s
  rw [e]
  show wpAny _ _ (pure ((n : Int) - 1, (-1 : Int), Builtin.Slice.slicePlaces ((n : Int) - 1) (-1) (-1))) _ _ s
  have e2 : Builtin.Slice.slicePlaces ((n : Int) - 1) (-1) (-1) = n := by
    unfold Builtin.Slice.slicePlaces
    rw [if_neg (by decide)]
    split
    · show (((n : Int) - 1 - -1 - 1) / 1 + 1).toNat = n
      rw [Int.ediv_one]
      omega
    · show (0 : Int).toNat = n
      omega
  rw [e2]
  exact wpAny_pure h
theorem fm_congr {α β : Type} {f g : α → Option β} : ∀ {l : List α}, (∀ x ∈ l, f x = g x) → l.filterMap f = l.filterMap g
  | [], _ => rfl
  | x :: l, h => by
    rw [List.filterMap_cons, List.filterMap_cons, h x List.mem_cons_self, fm_congr fun y hy => h y (List.mem_cons_of_mem _ hy)]
theorem pick_rev (xs : Array Value) : ((List.range xs.size).filterMap fun (m : Nat) => xs[(((xs.size : Nat) : Int) - 1 + (m : Int) * -1).toNat]?).toArray = xs.toList.reverse.toArray := by
  have p := pick_gen xs.toList.reverse.toArray 0 xs.size
  have e : ((List.range xs.size).filterMap fun (m : Nat) => xs[(((xs.size : Nat) : Int) - 1 + (m : Int) * -1).toNat]?) = (List.range xs.size).filterMap fun (m : Nat) => (xs.toList.reverse.toArray)[(((0 : Nat) : Int) + (m : Int) * 1).toNat]? := by
    refine fm_congr fun m hm => ?_
    have hm2 := List.mem_range.mp hm
    have e1 : (((xs.size : Nat) : Int) - 1 + (m : Int) * -1).toNat = xs.size - 1 - m := by omega
    have e2 : (((0 : Nat) : Int) + (m : Int) * 1).toNat = m := by omega
    rw [e1, e2, List.getElem?_toArray (xs := xs.toList.reverse), List.getElem?_reverse (by rw [Array.length_toList]; exact hm2), Array.getElem?_toList, Array.length_toList]
  rw [e, p, List.drop_zero, List.take_of_length_le (by rw [List.length_reverse, Array.length_toList]; exact Nat.le_refl _)]
theorem getItem_tuple_rev {t sl : Addr} {items : Array Value} {vl vu vs : Value} {Q : Value → Shared → Prop} (ht : IsTup s.heap t items) (hs : s.heap.IsSliceOf sl vl vu vs) (pl : IsPart vl none) (pu : IsPart vu none) (ps : IsPart vs (some (-1)))
    (h : Q (.ref s.heap.objs.size) { s with heap := s.heap.push { cls := .type "tuple", data := .seq items.toList.reverse.toArray } })
    (hsz : items.size ≤ sizeLine) : wpAny (model prog w) A (getItem (.ref t) (.ref sl)) Q E s := by
  have htake : sizeOk (.seq items.toList.reverse.toArray) := by
    show items.toList.reverse.toArray.size ≤ sizeLine
    rw [List.size_toArray, List.length_reverse, Array.length_toList]
    exact hsz
  obtain ⟨os, hos, hcs, hds⟩ := id hs
  have hTs : s.TypeIs (.ref sl) "slice" := ⟨os, hos, hcs⟩
  unfold getItem
  try with_reducible refine wpAny_holding ?_
  first | refine wpAny_bind (wpAny_pure ?_) | skip
  refine wpAny_bind (wpAny_sequenceKey ht.typeIs (by decide) ?_)
  refine wpAny_bind (wpAny_callSpecial?_slot (name := Str.ofString "__getitem__") ht.typeIs PyProof.Rows.slot_tuple_getitem
    (wpAny_call_entry PyProof.Rows.slot_tuple_getitem ht.typeIs entry_tuple_getitem ?_ (args_tuple_getitem _ _)))
  show wpAny _ _ (Builtin.Tuple.tupleItemsOf (.ref t) >>= _) _ _ s
  refine wpAny_bind (tupleItemsOf_ ht ?_)
  refine wpAny_bind (wpAny_typeOf hTs ?_)
  rw [if_pos (by decide)]
  refine wpAny_bind (sliceApplied_rev hs pl pu ps ?_)
  have hno : ¬ ((((items.size : Nat) : Int) - 1 == 0 && (-1 : Int) == 1 && items.size == items.size) = true) := by
    intro q
    rw [Bool.and_eq_true, Bool.and_eq_true] at q
    exact absurd q.1.2 (by decide)
  show wpAny _ _ (if (((items.size : Nat) : Int) - 1 == 0 && (-1 : Int) == 1 && items.size == items.size) = true then _ else _) _ _ s
  rw [if_neg hno, pick_rev]
  first
    | exact wpAny_bind (m := Builtin.Tuple.tupleExact _) (wpAny_newObj_type (wpAny_pure ⟨_, rfl, wpAny_pure h⟩) htake)
    | exact wpAny_bind (m := Builtin.Tuple.tupleExact _) (wpAny_newObj_type (wpAny_bind (wpAny_pure (wpAny_pure ⟨_, rfl, wpAny_pure h⟩))) htake)
    | exact wpAny_bind (wpAny_bind (m := Builtin.Tuple.tupleExact _) (wpAny_newObj_type (wpAny_pure (wpAny_pure ⟨_, rfl, wpAny_pure h⟩)) htake))
    | exact wpAny_bind (wpAny_bind (m := Builtin.Tuple.tupleExact _) (wpAny_newObj_type (wpAny_pure ⟨_, rfl, wpAny_pure h⟩) htake))
end
end HT
namespace Dn
open PySem PySem.Spec L2 PyProof.Rows
def tRevT (K : PySem.W.Frag) (te : TE) : TE := fun σ H Q => te σ H fun x H1 => ∃ a xs, x = .ref a ∧ SqT K H1 a xs ∧ ∀ p, H1 p = none → Q (.ref p) (upd H1 p (.tup xs.reverse))
section
variable {X : Cx}
theorem pe_revT {e : Expr} {te : TE} {k : Nat} {p1 p2 p3 pos : Pos} (he : PE X e te) : PE X (.Subscript e (.Slice none none (some (.UnaryOp .USub (.Constant (.int 1) k p1) p2)) p3) pos) (tRevT X.K te) := by
  refine ⟨fun pins s σ H Q I h => ?_⟩
  refine Subscript_ (thn (he.run pins s σ H _ I h) fun v s1 ⟨x, H1, I1, r1, q1⟩ => ?_)
  obtain ⟨a, xs, ex, hx, q⟩ := q1
  subst ex
  cases r1
  have hst : PO X (some (.UnaryOp .USub (.Constant (.int 1) k p1) p2)) (tPart (tUn (rU fun i => .int (-i)) (tC (.int 1)))) := po_some (pe_un un_neg pe_int)
  refine wpAny_Slice (thn (po_none.run pins s1 σ H1 (fun o H2 => o = none ∧ H2 = H1) I1 ⟨rfl, rfl⟩) fun vl s2 ⟨l, H2, I2, pl, el, e2⟩ => ?_)
  subst el e2
  refine thn (po_none.run pins s2 σ H2 (fun o H3 => o = none ∧ H3 = H2) I2 ⟨rfl, rfl⟩) fun vu s3 ⟨u, H3, I3, pu, eu, e3⟩ => ?_
  subst eu e3
  refine thn (hst.run pins s3 σ H3 (fun o H4 => o = some (-1) ∧ H4 = H3) I3 ⟨1, rfl, -1, rfl, rfl, rfl⟩) fun vs s4 ⟨o, H4, I4, ps, eo, e4⟩ => ?_
  subst eo e4
  have I5 : Inv X pins σ H4 { s4 with heap := s4.heap.push { cls := .type "slice", data := .fields #[vl, vu, vs] } } := I4.kept (t' := s4.toks) fun b ob q => Heap.get?_push_of_some _ q
  obtain ⟨its, r, ht, hz⟩ := I5.tuple hx
  have hlen := r.length
  show wpAny (model X.prog X.w) X.A (subscriptTail e (.Slice none none (some (.UnaryOp .USub (.Constant (.int 1) k p1) p2)) p3) (.ref a) (.ref s4.heap.objs.size)) (EP X pins σ Q) X.xe { s4 with heap := s4.heap.push { cls := .type "slice", data := .fields #[vl, vu, vs] } }
  refine tail_any (ops := [.ref a, .ref s4.heap.objs.size]) ht.typeIs (PyProof.Rows.slot_tuple_getitem.lookup) ?_ (by with_unfolding_all rfl)
  refine HT.getItem_tuple_rev ht (Heap.IsSliceOf.new _ vl vu vs) pl pu ps ?_ (by rw [List.size_toArray]; omega)
  refine ⟨.ref _, _, I5.laid (t' := s4.toks) (o := .tup xs.reverse) (fun b ob q => Heap.get?_push_of_some _ q) (Nat.le_refl _) ?_, rfl, q _ (I5.hok.fresh (Nat.le_refl _))⟩
  exact ⟨by rw [List.length_reverse]; exact hz, _, r.reverse, IsTup.new _ _⟩
def oRevT : Op1
  | .tuple xs => some (.dat (.tuple xs.reverse))
  | _ => none
theorem de_revT {W : Wish} {a : Expr} {fa : Ex} {pos : Pos} {k : Nat} {p1 p2 p3 : Pos} (he : DE X W a fa) : DE X W (.Subscript a (.Slice none none (some (.UnaryOp .USub (.Constant (.int 1) k p1) p2)) p3) pos) (cUn oRevT fa) := pe_mono (pe_revT he) fun σ H Q ⟨g, HF, ρ, f, rel, q⟩ => tD_pk rel q fun d f1 x G GF r1 s1 t1 q1 => by
  obtain ⟨rv, z, k⟩ := give_end r1.feed s1 q1
  have a : At X.K g G GF f1 := ⟨r1.sub, r1.feed⟩
  cases d <;> try cases z
  obtain ⟨p, vs, rfl, hp, rp⟩ := t1.tup
  exact ⟨p, vs, rfl, a.sub.sqT hp, fun l hl => k.newT a rp.rev l hl⟩
@[simp] theorem oRevT_tuple {xs : List PyData} : oRevT (.tuple xs) = some (.dat (.tuple xs.reverse)) := nr rfl
end
/-! list(range(n)) -/
def oLstRg : Op1
  | .int n => if 0 ≤ n ∧ n ≤ 100000 then some (.own (rangeD 0 n.toNat)) else none
  | _ => none
section
variable {X : Cx} {W : Wish} {a : Expr} {fa : Ex} {p p2 pos pos2 : Pos}
theorem de_lstRg (hc : X.calm = true) (hg : Gl X "list") (hm : X.mg "list" = none) (hg2 : Gl X "range") (hm2 : X.mg "range" = none) (ha : DE X W a fa) (na : starEach [a] X.env = (false, eval a X.env) :: starEach [] X.env := by rfl)
    (nb : starEach [Expr.Call (.Name "range" p2) [a] [] pos2] X.env = (false, eval (.Call (.Name "range" p2) [a] [] pos2) X.env) :: starEach [] X.env := by rfl) :
    DE X W (.Call (.Name "list" p) [.Call (.Name "range" p2) [a] [] pos2] [] pos) (cUn oLstRg fa) := pe_mono (pe_listRg hc hg hm (prg_1 hg2 hm2 ha na) nb) fun σ H Q hq => by
  obtain ⟨g, HF, ρ, f, rel, q⟩ := hq
  unfold tLstRg tRg1
  refine tD_pk rel q fun d f1 x G GF r1 s1 t1 q1 => ?_
  obtain ⟨rv, z, k⟩ := give_end r1.feed s1 q1
  have a : At X.K g G GF f1 := ⟨r1.sub, r1.feed⟩
  cases d <;> try cases z
  rename_i n
  replace z : (if 0 ≤ n ∧ n ≤ 100000 then some (RV.own (rangeD 0 n.toNat)) else none) = some rv := z
  by_cases c : 0 ≤ n ∧ n ≤ 100000
  · rw [if_pos c] at z
    cases z
    refine ⟨n, t1.int, RgOk.of_le (Int.le_refl 0) (by omega) (by omega) c.1, fun l hl => ?_⟩
    have dr : DRs X.K GF (rgV 0 n) (rangeD 0 n.toNat) := by
      have := DRs.ints (K := X.K) (H := GF) ((List.range n.toNat).map fun i => 0 + ((i : Nat) : Int))
      rw [List.map_map, List.map_map] at this
      unfold rgV rangeD
      rw [Int.sub_zero]
      exact this
    exact k.newL a dr l hl
  · rw [if_neg c] at z
    cases z
end
@[simp] theorem oLstRg_int {n : Int} : oLstRg (.int n) = if 0 ≤ n ∧ n ≤ 100000 then some (.own (rangeD 0 n.toNat)) else none := nr rfl
end Dn

section
set_option maxHeartbeats 4000000
/-! sorted of tuples of whole numbers, of any lengths -/
namespace TI
open PySem PySem.W PySem.Calls PyProof.Rows Builtin
section
variable {M : Model} {A : Around} {E : Value → Shared → Prop} {s : Shared}
/-- the first item of each, none of an empty one -/
inductive Firsts : List (List Int) → List (Option Value) → Prop
  | nil : Firsts [] []
  | no {ks os} : Firsts ks os → Firsts ([] :: ks) (none :: os)
  | yes {n : Int} {ns : List Int} {t : Tok} {ks os} : Firsts ks os → Firsts ((n :: ns) :: ks) (some (.int n t) :: os)
theorem first_run {v : Value} {ns : List Int} {Q : Option Value → Shared → Prop} (h : TS.TupInts s.heap v ns) (hq : ∀ o, (ns = [] → o = none) → (∀ n r, ns = n :: r → ∃ t, o = some (.int n t)) → Q o s) : wpAny M A (firstOfTuple' v) Q E s := by
  obtain ⟨a, xs, rfl, ⟨o, ho, hc, n, hd⟩, i⟩ := h
  rw [kas_first_eq]
  refine wpAny_bind (Looks.here (show Looks M s.heap (typeOf (.ref a)) o.cls from (Looks.ld ho).andThen .now) ?_)
  rw [hc, if_neg (by first | decide | simp)]
  refine wpAny_bind (listItems_at ho hd (wpAny_pure (hq _ (fun e => ?_) fun n r e => ?_)))
  · subst e
    cases q : xs.toList with
    | nil => rw [← Array.getElem?_toList, q]; rfl
    | cons y r => rw [q] at i; cases i
  · subst e
    cases q : xs.toList with
    | nil => rw [q] at i; cases i
    | cons y ys =>
      rw [q] at i
      cases i with
      | cons _ t _ => exact ⟨t, by rw [← Array.getElem?_toList, q]; rfl⟩
theorem firsts_run : ∀ (vs : List Value) (ks : List (List Int)) {Q : List (Option Value) → Shared → Prop}, Paired (fun v ns => TS.TupInts s.heap v ns) vs ks → (∀ os, Firsts ks os → Q os s) → wpAny M A (vs.mapM firstOfTuple') Q E s
  | [], _, _, .nil, h => by rw [List.mapM_nil]; exact wpAny_pure (h [] .nil)
  | v :: vs, ns :: ks, Q, .cons hv hr, h => by
    rw [List.mapM_cons]
    refine wpAny_bind (first_run hv fun o h0 h1 => ?_)
    refine wpAny_bind (firsts_run vs ks (Q := fun os s' => wpAny M A (pure (o :: os)) Q E s') hr fun os hos => wpAny_pure (h _ ?_))
    cases ns with
    | nil =>
      rw [h0 rfl]
      exact .no hos
    | cons n r =>
      obtain ⟨t, e⟩ := h1 n r rfl
      rw [e]
      exact .yes hos
theorem Firsts.len : ∀ {ks os}, Firsts ks os → os.length = ks.length
  | _, _, .nil => rfl
  | _, _, .no h => congrArg (· + 1) h.len
  | _, _, .yes h => congrArg (· + 1) h.len
theorem Firsts.all : ∀ {ks os}, Firsts ks os → os.all (·.isSome) = true → ∀ f ∈ os.filterMap id, ∃ n t, f = Value.int n t
  | _, _, .nil, _, f, hf => by simp at hf
  | _, _, .no h, e, f, hf => by simp at e
  | _, _, .yes (n := n) (t := t) h, e, f, hf => by
    rw [List.all_cons, Option.isSome_some, Bool.true_and] at e
    rw [List.filterMap_cons] at hf
    simp only [_root_.id] at hf
    rcases List.mem_cons.mp hf with rfl | hf
    · exact ⟨_, _, rfl⟩
    · exact h.all e f hf
theorem Firsts.allIff : ∀ {ks os}, Firsts ks os → os.all (·.isSome) = ks.all (fun k => !k.isEmpty)
  | _, _, .nil => rfl
  | _, _, .no h => rfl
  | _, _, .yes h => by
    rw [List.all_cons, List.all_cons, h.allIff]
    rfl
theorem Firsts.headIff : ∀ {ks os}, Firsts ks os → (os[0]?.bind id).isSome = (ks[0]?.any fun k => !k.isEmpty)
  | _, _, .nil => rfl
  | _, _, .no h => rfl
  | _, _, .yes h => rfl
/-- the three ways -/
def wayOf (ks : List (List Int)) : SortKind := if (ks.all fun k => !k.isEmpty) = true then tuples' true else if (ks[0]?.any fun k => !k.isEmpty) = true then general' else oneType'
def WayOf (κ : SortKind) : Prop := κ = tuples' true ∨ κ = general' ∨ κ = oneType'
theorem wayOf_is (ks : List (List Int)) : WayOf (wayOf ks) := by
  unfold wayOf
  split
  · exact .inl rfl
  · split
    · exact .inr (.inl rfl)
    · exact .inr (.inr rfl)
theorem kind_run {vs : List Value} {ks : List (List Int)} {Q : SortKind → Shared → Prop} (h2 : 2 ≤ vs.length) (p : Paired (fun v ns => TS.TupInts s.heap v ns) vs ks) (h : Q (wayOf ks) s) : wpAny M A (keyKind' vs.toArray) Q E s := by
  have hty : ∀ v ∈ vs, Looks M s.heap (typeOf v) (.type "tuple") := fun v hv => by
    obtain ⟨i, hi, e⟩ := List.getElem_of_mem hv
    have g : vs[i]? = some v := by rw [List.getElem?_eq_getElem hi, e]
    obtain ⟨ns, _, a, xs, rfl, ⟨o, ho, hc, n, hd⟩, _⟩ := L2.paired_get p g
    have : Looks M s.heap (typeOf (.ref a)) o.cls := (Looks.ld ho).andThen .now
    rw [hc] at this
    exact this
  rw [kat_kind_eq, List.mapM_toArray, map_eq_pure_bind]
  refine wpAny_bind (wpAny_bind (firsts_run vs ks p fun os hos => wpAny_pure ?_))
  have a1 : (os.toArray.all fun x => x.isSome) = ks.all (fun k => !k.isEmpty) := by
    rw [← hos.allIff]
    simp
  have a2 : ((os.toArray[0]?.bind id).isSome) = (ks[0]?.any fun k => !k.isEmpty) := by
    rw [← hos.headIff]
    simp
  unfold wayOf at h
  by_cases c1 : (os.toArray.all fun x => x.isSome) = true
  · rw [if_pos c1]
    rw [if_pos (a1 ▸ c1)] at h
    refine wpAny_bind (wpAny_rule ?_)
    have hall : os.all (·.isSome) = true := by simpa using c1
    have hint := hos.all hall
    have hlen : (os.filterMap id).length = os.length := by
      have : ∀ l : List (Option Value), l.all (·.isSome) = true → (l.filterMap id).length = l.length := by
        intro l
        induction l with
        | nil => intro _; rfl
        | cons x r ih =>
          intro e
          cases x with
          | none => simp at e
          | some y =>
            rw [List.filterMap_cons]
            simp only [_root_.id]
            rw [List.length_cons, List.length_cons, ih (by simpa using e)]
      exact this os hall
    have hfm : (os.toArray.filterMap id) = (os.filterMap id).toArray := by simp
    rw [hfm, oneTypeOnly'_eq, List.mapM_toArray, map_eq_pure_bind]
    refine wpAny_bind (wpAny_bind (wpAny_bind (kas_mapM (r := .type "int") _ (fun v hv Q' hq => by
      obtain ⟨n, t, rfl⟩ := hint v hv
      exact wpAny_pure hq) (wpAny_pure ?_))))
    have hall2 : ((List.map (fun _ => Value.type "int") (os.filterMap id)).toArray.all fun x => x == Value.type "int") = true := by
      simp only [List.all_toArray, List.all_map, List.all_eq_true]
      intro _ _
      rfl
    have hpos : 0 < (os.filterMap id).length := by
      rw [hlen, hos.len, ← Paired.length p]
      omega
    have h0 : (List.map (fun _ => Value.type "int") (os.filterMap id)).toArray[0]? = some (Value.type "int") := by
      simp [hpos]
    rw [h0]
    simp only [hall2, if_true]
    refine wpAny_pure (wpAny_pure ?_)
    have e : (Option.any (fun x : Value => x != .type "tuple") (some (Value.type "int"))) = true := by first | rfl | decide +kernel
    rw [e]
    exact h
  · rw [if_neg c1]
    rw [if_neg (a1 ▸ c1)] at h
    by_cases c2 : ((os.toArray[0]?.bind id).isSome) = true
    · rw [if_pos c2]
      rw [if_pos (a2 ▸ c2)] at h
      exact wpAny_pure h
    · rw [if_neg (a2 ▸ c2)] at h
      rw [if_neg c2, oneTypeOnly'_eq, List.mapM_toArray, map_eq_pure_bind]
      refine wpAny_bind (wpAny_bind (wpAny_bind (kas_mapM (r := .type "tuple") _ (fun v hv Q' hq => (hty v hv).here hq) (wpAny_pure ?_))))
      have hall2 : ((List.map (fun _ => Value.type "tuple") vs).toArray.all fun x => x == Value.type "tuple") = true := by
        simp only [List.all_toArray, List.all_map, List.all_eq_true]
        intro _ _
        rfl
      have h0 : (List.map (fun _ => Value.type "tuple") vs).toArray[0]? = some (Value.type "tuple") := by
        have : 0 < vs.length := by omega
        simp [this]
      rw [h0]
      simp only [hall2, if_true]
      exact wpAny_pure (wpAny_pure h)
end
section
variable {prog : Program} {w : World} {A : Around} {E : Value → Shared → Prop} {s : Shared}
theorem lex_run {b : Bool} {Q : Bool → Shared → Prop} : ∀ {xs ys : List Value} {ns ms : List Int} (i : Nat) {fin : Bool}, IntsAre xs ns → IntsAre ys ms → (fin = true ↔ xs.length < ys.length) → Q (HT.lexLt ns ms) s → KatLex prog w A b fin Q (xs.zip ys) i s
  | _, _, _, _, i, fin, .nil, .nil, hf, h => by
    have : fin = false := by
      cases fin with
      | false => rfl
      | true => exact absurd (hf.mp rfl) (by simp)
    rw [this]
    exact kat_nil h
  | _, _, _, _, i, fin, .nil, .cons q u hy, hf, h => by
    have : fin = true := hf.mpr (by simp)
    rw [this]
    exact kat_nil h
  | _, _, _, _, i, fin, .cons p t hx, .nil, hf, h => by
    have : fin = false := by
      cases fin with
      | false => rfl
      | true => exact absurd (hf.mp rfl) (by simp)
    rw [this]
    exact kat_nil h
  | _, _, _, _, i, fin, .cons (vs := xs) (ns := ns) p t hx, .cons (vs := ys) (ns := ms) q u hy, hf, h => by
    rw [HT.lexLt_cons] at h
    show KatLex prog w A b fin Q ((Value.int p t, Value.int q u) :: xs.zip ys) i s
    refine kat_cons (wpAny_eqBool_int ?_)
    by_cases e : p = q
    · subst e
      rw [beq_self_eq_true]
      rw [if_pos rfl] at h
      exact kat_yes (lex_run (i + 1) hx hy (by rw [hf, List.length_cons, List.length_cons]; omega) h)
    · rw [show (p == q) = false from beq_eq_false_iff_ne.mpr e]
      rw [if_neg e] at h
      exact kat_no (TS.oneLt_ints _ h)
theorem lt_call {a b : Addr} {items items2 : Array Value} {ns ms : List Int} {Q : Value → Shared → Prop} (hl : IsTup s.heap a items) (hb : IsTup s.heap b items2) (ia : IntsAre items.toList ns) (ib : IntsAre items2.toList ms) (h : Q (.bool (HT.lexLt ns ms)) s) :
    wpAny (model prog w) A (call (.builtin "tuple.__lt__") [.ref a, .ref b]) Q E s := by
  obtain ⟨⟨cls, dd, data, sl⟩, ho, hc, n, hd⟩ := id hl
  obtain ⟨⟨cls2, dd2, data2, sl2⟩, ho2, hc2, n2, hd2⟩ := id hb
  simp only at hc hd hc2 hd2
  subst hc hd hc2 hd2
  refine wpAny_call (codeAny_call_builtin PySem.F.slot_tuple_lt.plain PySem.F.entry_tuple_lt (PySem.F.slot_tuple_lt.check _ _ _ _ _ _ _ _ ⟨_, ho, rfl⟩ (PySem.F.args_tuple_lt_2 _ _) ?_))
  refine wpAny_mono (HT.tuple_lt_ints a b items items2 n n2 dd dd2 sl sl2 ns ms ia ib prog w _ (wants Q E) s ⟨ho, ho2, h⟩) (fun fin s' q => ?_) fun _ _ z => z
  cases fin with
  | done f => exact q
  | again c => exact q
theorem lt_one {f : Bool} {v u : Value} {ns ms : List Int} {Q : Bool → Shared → Prop} (hu : A.units < cLine) (hv : TS.TupInts s.heap v ns) (hw : TS.TupInts s.heap u ms) (h : Q (HT.lexLt ns ms) s) : wpAny (model prog w) A (oneLt' f v u) Q E s := by
  obtain ⟨a, xs, rfl, pa, ia⟩ := hv
  obtain ⟨b, ys, rfl, pb, ib⟩ := hw
  cases f with
  | false => exact kat_one _ _ (HT.lt_tupInts pa pb ia ib hu h)
  | true =>
    have sp : Looks (model prog w) s.heap (specialOf (.ref a) "__lt__") (some (.builtin "tuple.__lt__")) := by
      obtain ⟨o, ho, hc, n, hd⟩ := pa
      have q : Looks (model prog w) s.heap (typeOf (.ref a)) (.type "tuple") := by
        have z : Looks (model prog w) s.heap (typeOf (.ref a)) o.cls := (Looks.ld ho).andThen .now
        rwa [hc] at z
      exact q.andThen (Looks.of_pure PySem.F.slot_tuple_lt.lookup)
    rw [oneLt'_eq]
    simp only [if_true]
    refine wpAny_bind (wpAny_cRoomFor hu ?_)
    refine wpAny_bind (NtL.csib (E := E) sp (PySem.F.slot_tuple_lt.bind _) (lt_call pa pb ia ib ?_))
    exact wpAny_truthy_bool h
theorem cmp_run {κ : SortKind} (hκ : WayOf κ) {v u : Value} {ns ms : List Int} {Q : Bool → Shared → Prop} (hu : A.units < cLine) (hv : TS.TupInts s.heap v ns) (hw : TS.TupInts s.heap u ms) (h : Q (HT.lexLt ns ms) s) : wpAny (model prog w) A (keyLt' κ v u) Q E s := by
  rcases hκ with rfl | rfl | rfl
  · obtain ⟨a, xs, rfl, ⟨o, ho, hc, n, hd⟩, ia⟩ := hv
    obtain ⟨b, ys, rfl, ⟨o2, ho2, hc2, n2, hd2⟩, ib⟩ := hw
    exact kat_lt ho hd ho2 hd2 (lex_run 0 ia ib (by rw [decide_eq_true_eq, Array.length_toList, Array.length_toList]) h)
  · exact lt_one (f := false) hu hv hw h
  · exact lt_one (f := true) hu hv hw h
theorem sortable {a : Addr} {vs : List Value} (h2 : 2 ≤ vs.length) (hu : A.units < cLine) (hv : ∀ v ∈ vs, TS.TupInts s.heap v (TS.intsOf s.heap v)) (ha : ∀ o, s.heap.get? a = some o → o.cls ≠ .type "tuple") : SrtO.SortableO prog w A s a vs fun v u => HT.lexLt (TS.intsOf s.heap v) (TS.intsOf s.heap u) := by
  intro h' keep
  have hv' : ∀ v ∈ vs, TS.TupInts h' v (TS.intsOf s.heap v) := fun v hm => (hv v hm).keeps fun b o e c => keep b o (fun z => by subst z; exact ha o e c) e
  have pr : ∀ l : List Value, (∀ v ∈ l, v ∈ vs) → Paired (fun v ns => TS.TupInts h' v ns) l (l.map fun v => TS.intsOf s.heap v) := by
    intro l
    induction l with
    | nil => intro _; exact .nil
    | cons v r ih => intro q; exact .cons (hv' v (q v List.mem_cons_self)) (ih fun u hu => q u (List.mem_cons_of_mem _ hu))
  refine ⟨wayOf (vs.map fun v => TS.intsOf s.heap v), fun Q E hq => kind_run (s := { s with heap := h' }) h2 (pr vs fun _ h => h) hq, ?_⟩
  intro p q hp hq
  exact cmp_run (s := { s with heap := h' }) (Q := fun r s' => s' = { s with heap := h' } ∧ r = HT.lexLt (TS.intsOf s.heap p.1) (TS.intsOf s.heap q.1)) (wayOf_is _) hu (hv' p.1 hp) (hv' q.1 hq) ⟨rfl, rfl⟩
end
end TI
namespace L2
open PySem PySem.Spec PyProof.Rows
/-- sorted(xs), xs a list of tuples of ints -/
def rSortedTI (K : PySem.W.Frag) : List V → Hp → VK → Prop := fun vs H Q => ∃ (a : Addr) (xs : List V) (ks : List (List Int)) (Ψ : V → List Int → Prop), vs = [V.ref a] ∧ SqL K H a xs ∧ Paired (fun x k => (∃ t, x = V.ref t ∧ SqT K H t (k.map V.int)) ∧ Ψ x k) xs ks ∧
  ∀ ys ls p, Paired Ψ ys ls → ls.Perm ks → ls.Pairwise (fun p q => HT.lexLt q p = false) → H p = none → Q (.ref p) (upd H p (.lst ys))
theorem paired_ks {K : PySem.W.Frag} {H : Hp} {h : Heap} {Ψ : V → List Int → Prop} : ∀ {xs : List V} {ks : List (List Int)} {us : List Value}, Vals xs us → Paired (fun x k => (∃ t, x = V.ref t ∧ SqT K H t (k.map V.int)) ∧ Ψ x k) xs ks →
    (∀ (t : Addr) (k : List Int), SqT K H t (k.map V.int) → TS.TupInts h (.ref t) k) → ks = us.map (TS.intsOf h) ∧ ∀ u ∈ us, ∃ t, u = Value.ref t ∧ TS.TupInts h u (TS.intsOf h u) ∧ Ψ (.ref t) (TS.intsOf h u)
  | _, _, _, .nil, .nil, _ => ⟨rfl, fun u hu => absurd hu (by simp)⟩
  | _, _, _, .cons r1 r2, .cons (b := k) ⟨⟨t, e, ht⟩, hψ⟩ p2, ti => by
    subst e
    cases r1
    have h1 := ti t k ht
    obtain ⟨e1, e2⟩ := paired_ks r2 p2 ti
    have e3 := h1.ints
    refine ⟨by rw [List.map_cons, ← e1, e3], fun u hu => ?_⟩
    rcases List.mem_cons.mp hu with rfl | hu
    · exact ⟨t, rfl, by rw [e3]; exact h1, by rw [e3]; exact hψ⟩
    · exact e2 u hu
theorem paired_out {h : Heap} {Ψ : V → List Int → Prop} : ∀ {us : List Value}, (∀ u ∈ us, ∃ t, u = Value.ref t ∧ TS.TupInts h u (TS.intsOf h u) ∧ Ψ (.ref t) (TS.intsOf h u)) → Paired Ψ (us.map backV) (us.map (TS.intsOf h))
  | [], _ => .nil
  | u :: us, hu => by
    obtain ⟨t, e, _, q⟩ := hu u List.mem_cons_self
    subst e
    exact .cons q (paired_out fun v hv => hu v (List.mem_cons_of_mem _ hv))
section
variable {X : Cx}
theorem cr_sortedTI (hu : X.A.units + 64 < cLine) : CallR X (.builtin "sorted") (rSortedTI X.K) := by
  intro pins s σ H vs us Q I r h
  obtain ⟨a, xs, ks, Ψ, rfl, hs, hp, q⟩ := h
  obtain ⟨its, rv, hl, hz⟩ := I.list hs
  rw [Vals.ref1 r]
  obtain ⟨ek, hk⟩ := paired_ks (h := s.heap) rv hp fun t k ht => by
    obtain ⟨its2, r2, ht2, _⟩ := I.tuple ht
    exact ⟨t, its2.toArray, rfl, ht2, by rw [List.toList_toArray]; exact intsAre_of r2⟩
  refine SrtO.sorted_ord (NtL.swo_lexL (TS.intsOf s.heap)) hl.isList (by rw [← rv.length]; exact hz) (fun h2 h₁ a' ha kk => ?_) fun out h1 h2 => ?_
  · have hv : ∀ v ∈ its, TS.TupInts h₁ v (TS.intsOf h₁ v) ∧ TS.intsOf h₁ v = TS.intsOf s.heap v := fun v hm => by
      obtain ⟨t, e, hv, _⟩ := hk v hm
      have q : TS.TupInts h₁ v (TS.intsOf s.heap v) := hv.keeps fun b o e _ => (kk b o e).2
      exact ⟨by rw [q.ints]; exact q, q.ints⟩
    have S := TI.sortable (prog := X.prog) (w := X.w) (A := X.A.in1.in1) (s := { s with heap := h₁ }) (a := a') h2 (by show X.A.units + 1 + 1 < cLine; omega) (fun v hm => (hv v hm).1) fun o e => by
      have e' : some o = some (seqObj "list" its.toArray 0) := e.symm.trans ha
      cases e'
      intro c
      exact absurd (Value.type.inj c) (by decide)
    intro h' keep
    obtain ⟨κ, k1, k2⟩ := S h' keep
    refine ⟨κ, k1, fun p q hp hq => ?_⟩
    have z := k2 p q hp hq
    have e1 := (hv p.1 hp).2
    have e2 := (hv q.1 hq).2
    show wpAny (model X.prog X.w) X.A.in1.in1 (keyLt' κ p.1 q.1) (fun r s' => s' = _ ∧ r = HT.lexLt (TS.intsOf s.heap p.1) (TS.intsOf s.heap q.1)) (fun _ _ => False) _
    rw [← e1, ← e2]
    exact z
  · have ho : ∀ u ∈ out, ∃ t, u = Value.ref t ∧ TS.TupInts s.heap u (TS.intsOf s.heap u) ∧ Ψ (.ref t) (TS.intsOf s.heap u) := fun u hm => hk u (h2.perm.mem_iff.mp hm)
    obtain ⟨ep, he'⟩ := PyProof.Rows.sortedAll_at s.heap its out.toArray
    have h3 : ∀ u ∈ out, ∃ a, u = Value.ref a := fun u hm => by
      obtain ⟨t, e, _⟩ := ho u hm
      exact ⟨t, e⟩
    have hlen : (out.map backV).length ≤ sizeLine := by
      rw [List.length_map, h2.perm.length_eq, ← rv.length]
      exact hz
    refine ⟨.ref _, upd H (s.heap.objs.size + 1) (.lst (out.map backV)), I.laid (t' := s.toks) (fun _ _ => PyProof.Rows.sortedAll_old) (Nat.le_succ _) ⟨hlen, out, ep, vals_back h3, he'⟩, rfl, ?_⟩
    refine q _ (out.map (TS.intsOf s.heap)) _ (paired_out ho) ?_ (List.pairwise_map.mpr h1) (I.hok.fresh (Nat.le_succ _))
    rw [ek]
    exact h2.perm.map _
end
end L2
namespace Dn
open PySem PySem.Spec L2
def lexLe (a b : List Int) : Bool := !HT.lexLt b a
theorem lexLe_total (a b : List Int) : (lexLe a b || lexLe b a) = true := by
  unfold lexLe
  cases h : HT.lexLt b a with
  | false => rfl
  | true => rw [NtL.lex_asym b a h]; rfl
theorem lexLe_trans (a b c : List Int) (h1 : lexLe a b = true) (h2 : lexLe b c = true) : lexLe a c = true := by
  unfold lexLe at *
  rw [NtL.lex_tr a b c (by simpa using h1) (by simpa using h2)]
  rfl
theorem lex_eq : ∀ {a b : List Int}, HT.lexLt a b = false → HT.lexLt b a = false → a = b
  | [], [], _, _ => rfl
  | [], y :: ys, h, _ => by rw [HT.lexLt_nil_cons] at h; cases h
  | x :: xs, [], _, h => by rw [HT.lexLt_nil_cons] at h; cases h
  | x :: xs, y :: ys, h1, h2 => by
    rw [HT.lexLt_cons] at h1 h2
    by_cases e : x = y
    · subst e
      rw [if_pos rfl] at h1 h2
      rw [lex_eq h1 h2]
    · rw [if_neg e] at h1
      rw [if_neg (fun q => e q.symm)] at h2
      have a := of_decide_eq_false h1
      have b := of_decide_eq_false h2
      omega
def Srt (l : List (List Int)) : Prop := l.Pairwise fun p q => HT.lexLt q p = false
theorem srt_uniq : ∀ {l m : List (List Int)}, Srt l → Srt m → l.Perm m → l = m
  | [], m, _, _, h => (List.Perm.eq_nil h.symm).symm
  | x :: l, [], _, _, h => absurd h.length_eq (by simp)
  | x :: l, y :: m, hl, hm, h => by
    have h1 : HT.lexLt x y = false := by
      rcases List.mem_cons.mp (h.mem_iff.mp (List.mem_cons_self (a := x) (l := l))) with e | hx
      · rw [e]
        exact (NtL.swo_lexL (α := List Int) id).refl y
      · exact (List.pairwise_cons.mp hm).1 x hx
    have h2 : HT.lexLt y x = false := by
      rcases List.mem_cons.mp (h.mem_iff.mpr (List.mem_cons_self (a := y) (l := m))) with e | hy
      · rw [e]
        exact (NtL.swo_lexL (α := List Int) id).refl x
      · exact (List.pairwise_cons.mp hl).1 y hy
    have e := lex_eq h1 h2
    subst e
    rw [srt_uniq (List.pairwise_cons.mp hl).2 (List.pairwise_cons.mp hm).2 h.cons_inv]
def sortL (l : List (List Int)) : List (List Int) := l.mergeSort lexLe
theorem sortL_perm (l : List (List Int)) : (sortL l).Perm l := List.mergeSort_perm l lexLe
theorem sortL_srt (l : List (List Int)) : Srt (sortL l) := by
  have h := List.pairwise_mergeSort (le := lexLe) (fun a b c => lexLe_trans a b c) (fun a b => lexLe_total a b) l
  exact h.imp fun {a b} q => by
    unfold lexLe at q
    simpa using q
/-- a sorted list of the same items is what sorted tells -/
theorem sortL_is {l m : List (List Int)} (h : Srt m) (p : m.Perm l) : sortL l = m := srt_uniq (sortL_srt l) h ((sortL_perm l).trans p.symm)
def tupsOf : List PyData → Option (List (List Int))
  | [] => some []
  | .tuple xs :: r => match intsOf xs, tupsOf r with
    | some ns, some ks => some (ns :: ks)
    | _, _ => none
  | _ :: _ => none
abbrev tupI (ns : List Int) : PyData := .tuple (ns.map PyData.int)
theorem tupsOf_some : ∀ {ds : List PyData} {ks : List (List Int)}, tupsOf ds = some ks → ds = ks.map tupI
  | [], ks, h => by cases h; rfl
  | d :: r, ks, h => by
    cases d <;> try cases h
    rename_i xs
    unfold tupsOf at h
    cases q1 : intsOf xs with
    | none =>
      simp only [q1] at h
      cases h
    | some ns =>
      cases q2 : tupsOf r with
      | none =>
        simp only [q1, q2] at h
        cases h
      | some ls =>
        simp only [q1, q2] at h
        cases h
        rw [List.map_cons, ← tupsOf_some q2, intsOf_some q1]
theorem intsOf_map : ∀ ns : List Int, intsOf (ns.map PyData.int) = some ns
  | [] => rfl
  | n :: r => by
    rw [List.map_cons]
    unfold intsOf
    rw [intsOf_map r]
    rfl
theorem tupsOf_map : ∀ ks : List (List Int), tupsOf (ks.map tupI) = some ks
  | [] => rfl
  | k :: r => by
    rw [List.map_cons]
    unfold tupsOf
    rw [intsOf_map k, tupsOf_map r]
def oSortT : Op1
  | .list ds => match tupsOf ds with
    | some ks => some (.own ((sortL ks).map tupI))
    | none => none
  | _ => none
theorem pair_up {K : PySem.W.Frag} {H HF : Hp} (l : Le HF H) : ∀ {ks : List (List Int)} {vs : List V}, DRs K HF vs (ks.map tupI) → Paired (fun x k => (∃ t, x = V.ref t ∧ SqT K H t (k.map V.int)) ∧ DR K HF x (tupI k)) vs ks
  | [], _, .nil => .nil
  | k :: r, _, .cons h t => by
    have h0 := h
    cases h with
    | tup hs hd => exact .cons ⟨⟨_, rfl, by rw [← hd.toInts]; exact l.sqT hs⟩, h0⟩ (pair_up l t)
theorem pair_down {K : PySem.W.Frag} {HF : Hp} : ∀ {ks : List (List Int)} {vs : List V}, Paired (fun x k => DR K HF x (tupI k)) vs ks → DRs K HF vs (ks.map tupI)
  | _, _, .nil => .nil
  | _, _, .cons h t => .cons h (pair_down t)
theorem oSortT_ok {K : PySem.W.Frag} : UnOk K (fun v H Q => rSortedTI K [v] H Q) oSortT := fun g H HF f x d rv a t z Q k => by
  cases d <;> try cases z
  rename_i ds
  unfold oSortT at z
  cases q : tupsOf ds with
  | none =>
    simp only [q] at z
    cases z
  | some ks =>
    simp only [q] at z
    cases z
    have e := tupsOf_some q
    subst e
    obtain ⟨p, vs, rfl, hp, rp⟩ := t.lst a.sub
    refine ⟨p, vs, ks, fun x k => DR K HF x (tupI k), rfl, .inl (.inl hp), pair_up a.sub rp, fun ys ls p2 h1 h2 h3 h4 => ?_⟩
    rw [sortL_is h3 h2] at k
    exact k.newL a (pair_down h1) p2 h4
theorem de_sortT {X : Cx} {W : Wish} {a : Expr} {fa : Ex} {p pos : Pos} (hu : X.A.units + 64 < cLine) (hg : Gl X "sorted") (hm : X.mg "sorted" = none) (ha : DE X W a fa) (he : starEach [a] X.env = (false, eval a X.env) :: starEach [] X.env := by rfl) : DE X W (.Call (.Name "sorted" p) [a] [] pos) (cUn oSortT fa) :=
  de_call1 (cr_sortedTI hu) oSortT_ok hg hm (by decide +kernel) ha (by decide) (by decide) he
@[simp] theorem oSortT_list {ks : List (List Int)} : oSortT (.list (ks.map tupI)) = some (.own ((sortL ks).map tupI)) := by
  show (match tupsOf (ks.map tupI) with
    | some ks => some (RV.own ((sortL ks).map tupI))
    | none => none) = _
  rw [tupsOf_map]
end Dn
namespace L2
open PySem PySem.Spec PyProof.Rows
theorem sumT_raw {prog : Program} {w : World} {A : Around} {E : Value → Shared → Prop} {s : Shared} {l : Addr} {its : List Value} {ns : List Int} {Q : Value → Shared → Prop} (hh : A.handled = none) (hl : IsTup s.heap l its.toArray) (hi : IntsAre its ns)
    (h : ∀ h' tk t', (∀ b o, s.heap.get? b = some o → h'.get? b = some o) → Q (.int ns.sum t') { s with heap := h', toks := tk }) : wpAny (model prog w) A (call (.builtin "sum") [.ref l]) Q E s := by
  obtain ⟨xs, e⟩ := hi.allInts.items
  have hn : numsOf (intItems xs).toList = ns := by rw [← e]; exact hi.numsOf
  rw [nums_intItems] at hn
  rw [e] at hl
  refine PySem.W.ktm_sumG hh (show s.heap.IsTuple l (intItems xs) from hl) fun h' tk t' hk => ?_
  have := h h' tk t' hk
  rw [preSum_eq, List.take_of_length_le (by simp), hn]
  exact this
def rSumT (K : PySem.W.Frag) : List V → Hp → VK → Prop := fun vs H Q => ∃ (a : Addr) (ns : List Int), vs = [V.ref a] ∧ SqT K H a (ns.map V.int) ∧ Q (.int ns.sum) H
theorem cr_sumT {X : Cx} (hc : X.calm = true) : CallR X (.builtin "sum") (rSumT X.K) := by
  intro pins s σ H vs us Q I r h
  obtain ⟨a, ns, rfl, hs, q⟩ := h
  obtain ⟨its, rv, hl, _⟩ := I.tuple hs
  rw [Vals.ref1 r]
  exact sumT_raw (I.ok.hd hc) hl rv.ints fun h' tk t' hk => ⟨.int _, H, I.kept hk, ⟨_, rfl⟩, q⟩
end L2
namespace Dn
open PySem PySem.Spec L2
/-- sum of a tuple of whole numbers -/
def oSumT : Op1 := fun d => match d with
  | .tuple xs => (intsOf xs).map fun ns => .dat (.int ns.sum)
  | _ => none
theorem oSumT_ok {K : PySem.W.Frag} : UnOk K (fun v H Q => rSumT K [v] H Q) oSumT := fun g H HF f x d rv a t z Q k => by
  cases d <;> try cases z
  rename_i xs
  unfold oSumT at z
  cases q : intsOf xs with
  | none => simp only [q] at z; cases z
  | some ns =>
    simp only [q] at z
    cases z
    have e1 := intsOf_some q
    subst e1
    obtain ⟨p, vs, rfl, hp, rp⟩ := t.tup
    have e := rp.toInts
    subst e
    exact ⟨p, ns, rfl, a.sub.sqT hp, k.now a (.int _)⟩
theorem de_sumT {X : Cx} {W : Wish} {a : Expr} {fa : Ex} {p pos : Pos} (hc : X.calm = true) (hg : Gl X "sum") (hm : X.mg "sum" = none) (ha : DE X W a fa) (he : starEach [a] X.env = (false, eval a X.env) :: starEach [] X.env := by rfl) : DE X W (.Call (.Name "sum" p) [a] [] pos) (cUn oSumT fa) :=
  de_call1 (cr_sumT hc) oSumT_ok hg hm (by decide +kernel) ha (by decide) (by decide) he
end Dn

end
section
set_option maxHeartbeats 4000000
/-! the empty dict as a datum: shown, displayed; the text of a number; things of any kind -/
namespace Dn
open PySem PySem.Spec L2
/-! every dict within has no entries -/
mutual
def bare : PyData → Bool
  | .list xs => bareAll xs
  | .tuple xs => bareAll xs
  | .dict kvs => bareKv kvs
  | _ => true
def bareAll : List PyData → Bool
  | [] => true
  | x :: xs => bare x && bareAll xs
def bareKv : List (PyData × PyData) → Bool
  | [] => true
  | (k, v) :: r => bareKey k && bare v && bareKv r
def bareKey : PyData → Bool
  | .int _ => true
  | .str _ => true
  | _ => false
end
structure Rp (P : Program) (w : World) (h : Heap) (u : Value) (d : PyData) : Prop where
  ok : ∃ as bs, Reads h u d as ∧ ReadAtMost h d.depth bs ∧ ReprK P w bs h d.depth u d.shown
structure RpAll (P : Program) (w : World) (h : Heap) (us : List Value) (ds : List PyData) : Prop where
  ok : ∃ as bs, ReadsAll h us ds as ∧ ReadAtMost h (PyData.depthAll ds) bs ∧ ReprAllK P w bs h (PyData.depthAll ds) us (PyData.shownAll ds)
theorem read_up {h : Heap} {n m : Nat} {bs : List Addr} (q : ReadAtMost h n bs) (l : n ≤ m) : ReadAtMost h m bs := fun b hb => by
  obtain ⟨d, as, r, k⟩ := q b hb
  exact ⟨d, as, r, by omega⟩
theorem read_or {h : Heap} {n : Nat} {bs cs : List Addr} (q : ReadAtMost h n bs) (r : ReadAtMost h n cs) : ReadAtMost h n (bs ++ cs) := fun b hb => by
  rcases List.mem_append.mp hb with hb | hb
  · exact q b hb
  · exact r b hb
theorem read_one {h : Heap} {a : Addr} {d : PyData} {as bs : List Addr} {n : Nat} (r : Reads h (.ref a) d as) (l : n ≤ d.depth) (q : ReadAtMost h n bs) : ReadAtMost h d.depth (a :: bs) := fun b hb => by
  rcases List.mem_cons.mp hb with e | hb
  · exact ⟨d, as, e ▸ r, Nat.le_refl _⟩
  · exact read_up q l b hb
theorem read_not {h : Heap} {a : Addr} {d : PyData} {as bs : List Addr} {n : Nat} (r : Reads h (.ref a) d as) (l : n < d.depth) (q : ReadAtMost h n bs) : a ∉ bs := fun hm => by
  obtain ⟨e, cs, r2, k⟩ := q a hm
  have := (PyProof.Rows.reads_det (fun _ _ z _ => z) r r2).1
  rw [this] at k
  omega
section
variable {X : Cx} {pins : List (Addr × Obj)} {σ : St} {H : Hp} {s : Shared}
theorem pairs_kv {P : Program} {w : World} : ∀ {es : List DictEntry} {vs : List (Key × Value)}, Pairs (mixKind P w) es vs → Vals (vs.map fun p => kV p.1) (es.map (·.key)) ∧ es.map (·.val) = vs.map (·.2)
  | _, _, .nil => ⟨.nil, rfl⟩
  | _, _, .cons (e := e) (kv := kv) h1 h2 r => by
    obtain ⟨k1, k2⟩ := pairs_kv r
    refine ⟨.cons ?_ k1, by rw [List.map_cons, List.map_cons, h2, k2]⟩
    show RelV (kV kv.1) e.key
    rcases keyIs_shape (show keyIs kv.1 e.key = true from h1) with ⟨i, t, ek, ev⟩ | ⟨z, t, ek, ev⟩
    · rw [ek, ev]
      exact ⟨t, rfl⟩
    · rw [ek, ev]
      exact ⟨t, rfl⟩
theorem kv_vals : ∀ {xs : List (Key × V)} {vs : List (Key × Value)}, KV xs vs → Vals (xs.map (·.2)) (vs.map (·.2))
  | _, _, .nil => .nil
  | _, _, .cons h r => .cons h.2 (kv_vals r)
theorem kt_vals {H : Hp} : ∀ {xs : List (List Key × V)} {vs : List (List Key × Addr × Value)}, KT H xs vs → Vals (xs.map (·.2)) (vs.map (·.2.2))
  | _, _, .nil => .nil
  | _, _, .cons h r => .cons h.2.2 (kt_vals r)
/-- a dict as it lies there -/
theorem dict_at (I : Inv X pins σ H s) {a : Addr} {ks : List (PyData × PyData)} (d : DR X.K H (.ref a) (.dict ks)) (nb : bareKv ks = true) : (a == sysModules) = false ∧ ∃ o es n, s.heap.get? a = some o ∧ o.cls = .type "dict" ∧ o.data = .dict es n ∧
    ∃ vk vv, Vals vk (es.toList.map (·.key)) ∧ DRs X.K H vk (ks.map (·.1)) ∧ Vals vv (es.toList.map (·.val)) ∧ DRs X.K H vv (ks.map (·.2)) := by
  cases d with
  | @dic _ xs _ e k r =>
    obtain ⟨hz, h2, vs, kv, o, es, ep, h3, h4, h5, _, h6, _⟩ := dk_of I.hok e
    obtain ⟨q1, q2⟩ := pairs_kv h6
    refine ⟨h2, o, es, ep, h3, h4.1, h5, vs.map (fun p => kV p.1), xs.map (·.2), q1, ?_, by rw [q2]; exact kv_vals kv, r⟩
    have e2 : (vs.map fun p => kV p.1) = xs.map fun p => kV p.1 := by
      have := congrArg (List.map kV) kv.keys
      rw [List.map_map, List.map_map] at this
      exact this.symm
    rw [e2, k]
    clear hz e k r kv h6 q1 q2 e2
    induction xs with
    | nil => exact .nil
    | cons x xs ih =>
      refine .cons ?_ ih
      obtain ⟨x1, x2⟩ := x
      cases x1 with
      | inl i => exact .int i
      | inr z => exact .str z
  | exc h1 h2 h3 h4 => simp [bareKv, bareKey] at nb
theorem keys_rp {K : PySem.W.Frag} (P : Program) (w : World) (h : Heap) : ∀ {ks : List (PyData × PyData)} {vk : List V} {us : List Value}, DRs K H vk (ks.map (·.1)) → Vals vk us → bareKv ks = true → PyData.showableAll (ks.map (·.1)) = true → (∀ t ∈ PyData.shownAll (ks.map (·.1)), t.length ≤ sizeLine) → RpAll P w h us (ks.map (·.1))
  | [], _, _, d, r, _, _, _ => by
    cases d
    cases r
    exact ⟨[], [], ReadsAll.nil, (fun _ z => nomatch z), by simp only [List.map_nil, PyData.shownAll]; exact .nil⟩
  | (k, v) :: ks, _, us, d, r, nb, sh, z => by
    cases d with
    | cons h1 h2 =>
      cases r with
      | cons r1 r2 =>
        have n2 : (bareKey k = true ∧ bare v = true) ∧ bareKv ks = true := by simpa [bareKv] using nb
        have s2 : k.showable = true ∧ PyData.showableAll (ks.map (·.1)) = true := by simpa [PyData.showableAll] using sh
        have zk : k.shown.length ≤ sizeLine := z _ (by simp only [List.map_cons, PyData.shownAll]; exact List.mem_cons_self)
        obtain ⟨as, bs, q1, q2, q3⟩ := (keys_rp P w h h2 r2 n2.2 s2.2 fun t ht => z t (by simp only [List.map_cons, PyData.shownAll]; exact List.mem_cons_of_mem _ ht)).ok
        rename_i u0 _
        have one : Rp P w h u0 k := by
          cases k <;> try (simp [bareKey] at n2; done)
          · cases h1
            obtain ⟨t, rfl⟩ := r1
            exact ⟨[], [], Reads.int _ t, (fun _ z => nomatch z), by simp only [PyData.shown]; exact .of_is (ReprIs.int t (by simpa [PyData.showable] using s2.1)) _ _ _⟩
          · cases h1
            obtain ⟨t, rfl⟩ := r1
            exact ⟨[], [], Reads.str _ t, (fun _ z => nomatch z), by simp only [PyData.shown]; exact .of_is (ReprIs.str _ t (by simpa only [PyData.shown] using zk)) _ _ _⟩
        obtain ⟨cs, es, k1, k2, k3⟩ := one.ok
        refine ⟨cs ++ as, es ++ bs, ReadsAll.cons k1 q1, ?_, ?_⟩
        · simp only [List.map_cons, PyData.depthAll]
          exact read_or (read_up k2 (by omega)) (read_up q2 (by omega))
        · simp only [List.map_cons, PyData.depthAll, PyData.shownAll]
          refine .cons ((k3.more fun b hb => List.mem_append_left _ hb).level_le (by omega)) (q3.more_le (fun b hb => List.mem_append_right _ hb) (by omega))
mutual
theorem DR.rp (I : Inv X pins σ H s) : ∀ (d : PyData) (v : V) (u : Value), DR X.K H v d → RelV v u → bare d = true → d.showable = true → d.shown.length ≤ sizeLine → Rp X.prog X.w s.heap u d
  | .none, v, u, h, r, _, _, _ => by
    cases h
    cases r
    exact ⟨[], [], Reads.none, (fun _ z => nomatch z), by simp only [PyData.shown]; exact .of_is ReprIs.none _ _ _⟩
  | .bool b, v, u, h, r, _, _, _ => by
    cases h
    cases r
    exact ⟨[], [], Reads.bool b, (fun _ z => nomatch z), by simp only [PyData.shown]; exact .of_is (ReprIs.bool b) _ _ _⟩
  | .int i, v, u, h, r, _, sh, _ => by
    cases h
    obtain ⟨t, rfl⟩ := r
    exact ⟨[], [], Reads.int i t, (fun _ z => nomatch z), by simp only [PyData.shown]; exact .of_is (ReprIs.int t (by simpa [PyData.showable] using sh)) _ _ _⟩
  | .str x, v, u, h, r, _, _, z => by
    cases h
    obtain ⟨t, rfl⟩ := r
    exact ⟨[], [], Reads.str x t, (fun _ z => nomatch z), by simp only [PyData.shown]; exact .of_is (ReprIs.str x t (by simpa only [PyData.shown] using z)) _ _ _⟩
  | .list ds, v, u, h, r, nb, sh, z => by
    cases h with
    | lst h1 h2 =>
      rename_i a xs
      cases r
      obtain ⟨its, rv, ⟨o, n, ho, hc, _, hd⟩, _⟩ := I.list (.inl (.inl h1) : SqL X.K H a xs)
      have z2 : (listText (PyData.shownAll ds)).length ≤ sizeLine := by simpa only [PyData.shown] using z
      obtain ⟨as, bs, q1, q2, q3⟩ := (DRs.rp I ds xs its h2 rv (by simpa [bare] using nb) (by simpa [PyData.showable] using sh) fun t ht => Nat.le_trans (listText_mem_le ht) z2).ok
      have rd : Reads s.heap (.ref a) (.list ds) (a :: as) := Reads.list ho hc hd q1
      have na : a ∉ bs := read_not rd (by simp only [PyData.depth]; omega) q2
      refine ⟨a :: as, a :: bs, rd, read_one rd (by simp only [PyData.depth]; omega) q2, ?_⟩
      simp only [PyData.depth, PyData.shown]
      cases its with
      | nil =>
        cases q1
        simp only [PyData.shownAll, listText_nil]
        exact ReprK.listEmpty ho hc hd
      | cons x l => exact ReprK.list ho hc hd na (by simpa using q3.length_eq) fun i y e => q3.item i y (by simpa using e)
  | .tuple ds, v, u, h, r, nb, sh, z => by
    cases h with
    | tup h1 h2 =>
      rename_i a xs
      cases r
      obtain ⟨its, rv, ⟨o, ho, hc, n, hd⟩, _⟩ := I.tuple h1
      have z2 : (tupleText (PyData.shownAll ds)).length ≤ sizeLine := by simpa only [PyData.shown] using z
      obtain ⟨as, bs, q1, q2, q3⟩ := (DRs.rp I ds xs its h2 rv (by simpa [bare] using nb) (by simpa [PyData.showable] using sh) fun t ht => Nat.le_trans (tupleText_mem_le ht) z2).ok
      have rd : Reads s.heap (.ref a) (.tuple ds) as := Reads.tuple ho hc hd q1
      have na : a ∉ bs := read_not rd (by simp only [PyData.depth]; omega) q2
      refine ⟨as, a :: bs, rd, read_one rd (by simp only [PyData.depth]; omega) q2, ?_⟩
      simp only [PyData.depth, PyData.shown]
      exact ReprK.tuple ho hc hd na q3
  | .dict ks, v, u, h, r, nb, sh, z => by
    have nb2 : bareKv ks = true := by simpa [bare] using nb
    have ha : ∃ a, v = .ref a := by cases h <;> exact ⟨_, rfl⟩
    obtain ⟨a, rfl⟩ := ha
    cases r
    obtain ⟨e1, o, es, n, e2, e3, e4, vk, vv, q1, q2, q3, q4⟩ := dict_at I h nb2
    obtain ⟨hs1, hs2⟩ := PyData.showableKv_split ks (by simpa [PyData.showable] using sh)
    have z2 : (dictText (PyData.shownKv ks)).length ≤ sizeLine := by simpa only [PyData.shown] using z
    obtain ⟨as, bs, y1, y2, y3⟩ := (keys_rp X.prog X.w s.heap q2 q1 nb2 hs1 fun t ht => let ⟨p, hp, hl⟩ := PyData.shownKv_key_le ks t ht; Nat.le_trans hl (Nat.le_trans (dictText_mem_le hp) z2)).ok
    obtain ⟨cs, ds, x1, x2, x3⟩ := (DRk.rp I ks vv _ q4 q3 nb2 hs2 fun t ht => let ⟨p, hp, hl⟩ := PyData.shownKv_val_le ks t ht; Nat.le_trans hl (Nat.le_trans (dictText_mem_le hp) z2)).ok
    have rd : Reads s.heap (.ref a) (.dict ks) (a :: as ++ cs) := Reads.dict e2 e3 e4 y1 x1
    have hb : ReadAtMost s.heap (PyData.depthKv ks) (bs ++ ds) := read_or (read_up y2 (PyData.depthAll_keys_le ks)) (read_up x2 (PyData.depthAll_vals_le ks))
    have na : a ∉ bs ++ ds := read_not rd (by simp only [PyData.depth]; omega) hb
    refine ⟨_, a :: (bs ++ ds), rd, read_one rd (by simp only [PyData.depth]; omega) hb, ?_⟩
    simp only [PyData.depth, PyData.shown, PyData.shownKv_eq]
    exact ReprK.dict e2 e3 e4 e1 na (ReprEntriesK.of_two es.toList _ _ (y3.more_le (fun b hb => List.mem_append_left _ hb) (PyData.depthAll_keys_le ks)) (x3.more_le (fun b hb => List.mem_append_right _ hb) (PyData.depthAll_vals_le ks)))
theorem DRs.rp (I : Inv X pins σ H s) : ∀ (ds : List PyData) (vs : List V) (us : List Value), DRs X.K H vs ds → Vals vs us → bareAll ds = true → PyData.showableAll ds = true → (∀ t ∈ PyData.shownAll ds, t.length ≤ sizeLine) → RpAll X.prog X.w s.heap us ds
  | [], _, _, h, r, _, _, _ => by
    cases h
    cases r
    exact ⟨[], [], ReadsAll.nil, (fun _ z => nomatch z), by simp only [PyData.shownAll]; exact .nil⟩
  | d :: ds, _, _, h, r, nb, sh, z => by
    cases h with
    | cons h1 h2 =>
      cases r with
      | cons r1 r2 =>
        have n2 : bare d = true ∧ bareAll ds = true := by simpa [bareAll] using nb
        have s2 : d.showable = true ∧ PyData.showableAll ds = true := by simpa [PyData.showableAll] using sh
        obtain ⟨as, bs, q1, q2, q3⟩ := (DR.rp I d _ _ h1 r1 n2.1 s2.1 (z _ (by simp only [PyData.shownAll]; exact List.mem_cons_self))).ok
        obtain ⟨cs, es, k1, k2, k3⟩ := (DRs.rp I ds _ _ h2 r2 n2.2 s2.2 fun t ht => z t (by simp only [PyData.shownAll]; exact List.mem_cons_of_mem _ ht)).ok
        refine ⟨as ++ cs, bs ++ es, ReadsAll.cons q1 k1, ?_, ?_⟩
        · simp only [PyData.depthAll]
          exact read_or (read_up q2 (by omega)) (read_up k2 (by omega))
        · simp only [PyData.depthAll, PyData.shownAll]
          refine .cons ((q3.more fun b hb => List.mem_append_left _ hb).level_le (by omega)) (k3.more_le (fun b hb => List.mem_append_right _ hb) (by omega))
theorem DRk.rp (I : Inv X pins σ H s) : ∀ (ds : List (PyData × PyData)) (vs : List V) (us : List Value), DRs X.K H vs (ds.map (·.2)) → Vals vs us → bareKv ds = true → PyData.showableAll (ds.map (·.2)) = true → (∀ t ∈ PyData.shownAll (ds.map (·.2)), t.length ≤ sizeLine) → RpAll X.prog X.w s.heap us (ds.map (·.2))
  | [], _, _, h, r, _, _, _ => by
    cases h
    cases r
    exact ⟨[], [], ReadsAll.nil, (fun _ z => nomatch z), by simp only [List.map_nil, PyData.shownAll]; exact .nil⟩
  | (k, d) :: ds, _, _, h, r, nb, sh, z => by
    cases h with
    | cons h1 h2 =>
      cases r with
      | cons r1 r2 =>
        have n2 : (bareKey k = true ∧ bare d = true) ∧ bareKv ds = true := by simpa [bareKv] using nb
        have s2 : d.showable = true ∧ PyData.showableAll (ds.map (·.2)) = true := by simpa [PyData.showableAll] using sh
        obtain ⟨as, bs, q1, q2, q3⟩ := (DR.rp I d _ _ h1 r1 n2.1.2 s2.1 (z _ (by simp only [List.map_cons, PyData.shownAll]; exact List.mem_cons_self))).ok
        obtain ⟨cs, es, k1, k2, k3⟩ := (DRk.rp I ds _ _ h2 r2 n2.2 s2.2 fun t ht => z t (by simp only [List.map_cons, PyData.shownAll]; exact List.mem_cons_of_mem _ ht)).ok
        refine ⟨as ++ cs, bs ++ es, ReadsAll.cons q1 k1, ?_, ?_⟩
        · simp only [List.map_cons, PyData.depthAll]
          exact read_or (read_up q2 (by omega)) (read_up k2 (by omega))
        · simp only [List.map_cons, PyData.depthAll, PyData.shownAll]
          refine .cons ((q3.more fun b hb => List.mem_append_left _ hb).level_le (by omega)) (k3.more_le (fun b hb => List.mem_append_right _ hb) (by omega))
end
end
theorem Top.dr {K : PySem.W.Frag} {g : Gh} {H HF : Hp} {v : V} {d : PyData} (t : Top K g H HF v d) (l : Le HF H) : DR K H v d := by
  rcases t with h | ⟨p, vs, ds, rfl, rfl, _, h4, h5⟩
  · exact h.mono l
  · exact .lst h4 (h5.mono l)
/-! repr of what may hold empty dicts -/
def rReprX (K : PySem.W.Frag) : List V → Hp → VK → Prop := fun xs H Q => ∃ x d, xs = [x] ∧ DR K H x d ∧ bare d = true ∧ d.showable = true ∧ d.depth ≤ 60 ∧ d.shown.length ≤ sizeLine ∧ Q (.str d.shown) H
theorem call_reprX {X : Cx} (hg : X.A.guards = some []) (hu : X.A.units + 64 < cLine) : CallR X (.builtin "repr") (rReprX X.K) := by
  intro pins s σ H xs us Q I rs h
  obtain ⟨x, d, e1, dr, nb, sh, dep, len, q⟩ := h
  subst e1
  obtain ⟨u, e2, ru⟩ := vals1 rs
  subst e2
  have fin : ∀ (G : Heap) (t : Nat) (tk : Tok), (∀ b o, s.heap.get? b = some o → G.get? b = some o) → EP X pins σ Q (.str d.shown tk) { s with heap := G, toks := t } :=
    fun G t tk k => ⟨.str d.shown, H, I.kept (t' := t) k, ⟨tk, rfl⟩, q⟩
  have un : ∀ n, n ≤ 61 → X.A.in1.units + n < cLine := fun n hn => by
    show X.A.units + 1 + n < cLine
    omega
  cases d with
  | none =>
    cases dr
    cases ru
    exact PySem.P.repr_of_none (fin s.heap _ _ fun _ _ e => e)
  | bool b =>
    cases dr
    cases ru
    refine PySem.P.repr_of_bool ?_
    have z := fin s.heap (s.toks + 1) s.toks fun _ _ e => e
    cases b <;> exact z
  | int i =>
    cases dr
    obtain ⟨t, rfl⟩ := ru
    exact PySem.P.repr_of_int (by simpa [PyData.showable] using sh) (fin s.heap _ _ fun _ _ e => e)
  | str y =>
    cases dr
    obtain ⟨t, rfl⟩ := ru
    exact PySem.P.repr_of_str (fin s.heap _ _ fun _ _ e => e) (by simpa [PyData.shown] using len)
  | list ds =>
    cases dr with
    | lst h1 h2 =>
      rename_i a vs
      cases ru
      obtain ⟨its, rv, ⟨o, n, ho, hc, _, hd⟩, _⟩ := I.list (.inl (.inl h1) : SqL X.K H a vs)
      simp only [PyData.shown] at fin len
      simp only [PyData.depth] at dep
      obtain ⟨as, bs, q1, q2, q3⟩ := (DRs.rp I ds vs its h2 rv (by simpa [bare] using nb) (by simpa [PyData.showable] using sh) fun t ht => Nat.le_trans (listText_mem_le ht) len).ok
      have rd : Reads s.heap (.ref a) (.list ds) (a :: as) := Reads.list ho hc hd q1
      have na : a ∉ bs := read_not rd (by simp only [PyData.depth]; omega) q2
      refine call_repr_slot (by omega) ⟨o, ho, hc⟩ F.slot_list_repr.toG ?_
      cases its with
      | nil =>
        cases q1
        refine call_list_repr_empty ⟨o, ho, hc⟩ ho hd ⟨_, _, rfl, ?_⟩
        simp only [PyData.shownAll, listText_nil] at fin
        exact fin s.heap _ _ fun _ _ e => e
      | cons x l =>
        exact call_list_reprK ho hc hd na (by simpa using q3.length_eq) (fun i y e => q3.item i y (by simpa using e)) (g := []) hg (fun b _ => Clear.nil b) (un _ (by omega)) (fun _ _ e => e) (fun G t tk k => ⟨_, _, rfl, fin G tk t k⟩) len
  | tuple ds =>
    cases dr with
    | tup h1 h2 =>
      rename_i a vs
      cases ru
      obtain ⟨its, rv, ⟨o, ho, hc, n, hd⟩, _⟩ := I.tuple h1
      simp only [PyData.shown] at fin len
      simp only [PyData.depth] at dep
      obtain ⟨as, bs, q1, q2, q3⟩ := (DRs.rp I ds vs its h2 rv (by simpa [bare] using nb) (by simpa [PyData.showable] using sh) fun t ht => Nat.le_trans (tupleText_mem_le ht) len).ok
      have rd : Reads s.heap (.ref a) (.tuple ds) as := Reads.tuple ho hc hd q1
      have na : a ∉ bs := read_not rd (by simp only [PyData.depth]; omega) q2
      refine call_repr_slot (by omega) ⟨o, ho, hc⟩ F.slot_tuple_repr ?_
      exact call_tuple_reprK ho hc hd na q3 (g := []) hg (fun b _ => Clear.nil b) (un _ (by omega)) (fun _ _ e => e) (fun G t tk k => ⟨_, _, rfl, fin G tk t k⟩) len
  | dict ks =>
    have nb2 : bareKv ks = true := by simpa [bare] using nb
    have ha : ∃ a, x = .ref a := by cases dr <;> exact ⟨_, rfl⟩
    obtain ⟨a, rfl⟩ := ha
    cases ru
    obtain ⟨e1, o, es, n, e2, e3, e4, vk, vv, q1, q2, q3, q4⟩ := dict_at I dr nb2
    obtain ⟨hs1, hs2⟩ := PyData.showableKv_split ks (by simpa [PyData.showable] using sh)
    have z2 : (dictText (PyData.shownKv ks)).length ≤ sizeLine := by simpa only [PyData.shown] using len
    obtain ⟨as, bs, y1, y2, y3⟩ := (keys_rp X.prog X.w s.heap q2 q1 nb2 hs1 fun t ht => let ⟨p, hp, hl⟩ := PyData.shownKv_key_le ks t ht; Nat.le_trans hl (Nat.le_trans (dictText_mem_le hp) z2)).ok
    obtain ⟨cs, ds, x1, x2, x3⟩ := (DRk.rp I ks vv _ q4 q3 nb2 hs2 fun t ht => let ⟨p, hp, hl⟩ := PyData.shownKv_val_le ks t ht; Nat.le_trans hl (Nat.le_trans (dictText_mem_le hp) z2)).ok
    have rd : Reads s.heap (.ref a) (.dict ks) (a :: as ++ cs) := Reads.dict e2 e3 e4 y1 x1
    have hb : ReadAtMost s.heap (PyData.depthKv ks) (bs ++ ds) := read_or (read_up y2 (PyData.depthAll_keys_le ks)) (read_up x2 (PyData.depthAll_vals_le ks))
    have na : a ∉ bs ++ ds := read_not rd (by simp only [PyData.depth]; omega) hb
    simp only [PyData.depth] at dep
    simp only [PyData.shown, PyData.shownKv_eq] at fin len
    refine call_repr_slot (by omega) ⟨o, e2, e3⟩ F.slot_dict_repr ?_
    exact call_dict_reprK e2 e3 e4 e1 na (ReprEntriesK.of_two es.toList _ _ (y3.more_le (fun b hb => List.mem_append_left _ hb) (PyData.depthAll_keys_le ks)) (x3.more_le (fun b hb => List.mem_append_right _ hb) (PyData.depthAll_vals_le ks))) (g := []) hg (fun b _ => Clear.nil b) (un _ (by omega)) (fun _ _ e => e) (fun G t tk k => ⟨_, _, rfl, fin G tk t k⟩) len
/-- may be shown, empty dicts within too -/
def showsX (d : PyData) : Bool := bare d && d.showable && decide (d.depth ≤ 60) && decide (d.shown.length ≤ 10000000)
def oReprX : Op1 := fun d => if showsX d = true then some (.dat (.str d.shown)) else none
theorem oReprX_ok {K : PySem.W.Frag} : UnOk K (fun v H Q => rReprX K [v] H Q) oReprX := fun g H HF f x d rv a t z Q k => by
  obtain ⟨c, rfl⟩ := ite_some z
  unfold showsX at c
  simp only [Bool.and_eq_true, decide_eq_true_eq] at c
  exact ⟨x, d, rfl, t.dr a.sub, c.1.1.1, c.1.1.2, c.1.2, Nat.le_trans c.2 (by decide), k.now a (.str _)⟩
section
variable {X : Cx} {W : Wish} {a : Expr} {fa : Ex} {p pos : Pos}
theorem de_reprX (gd : X.A.guards = some []) (hu : X.A.units + 64 < cLine) (hg : Gl X "repr") (hm : X.mg "repr" = none) (ha : DE X W a fa) (he : starEach [a] X.env = (false, eval a X.env) :: starEach [] X.env := by rfl) : DE X W (.Call (.Name "repr" p) [a] [] pos) (cUn oReprX fa) :=
  de_call1 (call_reprX gd hu) oReprX_ok hg hm (by decide +kernel) ha (by decide) (by decide) he
/-! str of a whole number -/
def oStrI : Op1
  | .int i => if i.natAbs.log2 < 1920 then some (.dat (.str (toString i))) else none
  | _ => none
theorem oStrI_ok {K : PySem.W.Frag} : UnOk K (fun v H Q => ∃ i, [v] = [V.int i] ∧ i.natAbs.log2 < 1920 ∧ Q (.str (toString i)) H) oStrI := fun g H HF f x d rv a t z Q k => by
  cases d <;> try cases z
  rename_i i
  obtain ⟨c, rfl⟩ := ite_some (show (if i.natAbs.log2 < 1920 then some (RV.dat (.str (toString i))) else none) = some rv from z)
  have e := t.int
  subst e
  exact ⟨i, rfl, c, k.now a (.str _)⟩
theorem de_strI (hg : Gl X "str") (hm : X.mg "str" = none) (ha : DE X W a fa) (he : starEach [a] X.env = (false, eval a X.env) :: starEach [] X.env := by rfl) : DE X W (.Call (.Name "str" p) [a] [] pos) (cUn oStrI fa) :=
  de_callTy1 call_str_int oStrI_ok hg hm (by decide +kernel) ha (by decide) (by decide) he
/-! the empty dict, written -/
theorem de_dict0 {j : Pos} : DE X W (.Dict [] [] j) (cC (.dict [])) := pe_mono pe_dnewK fun σ H Q ⟨g, HF, ρ, f, rel, q⟩ p hp => by
  have a : At X.K g H HF f := ⟨rel.sub, rel.feed⟩
  have hf : HF p = none := by
    cases z : HF p with
    | none => rfl
    | some o => rw [rel.sub _ _ z] at hp; cases hp
  have l : Le HF (upd HF p (.dK [])) := fun b o e => by
    rw [upd_ne (ne_of_none e hf)]
    exact e
  refine (show Fin X.K g σ H HF Q (.dat (.dict [])) f from q) (.ref p) (upd H p (.dK [])) (upd HF p (.dK [])) ⟨fun b o _ e => ?_, l, fun b x y => ?_, fun b o e => ?_⟩ ⟨?_, ?_, ?_⟩ (.dic upd_same rfl .nil)
  · rw [upd_ne (ne_of_none e hp)]
    exact e
  · rw [upd_ne (fun z => x.some (by rw [z]; exact hp))]
    exact y
  · by_cases z : b = p
    · subst z
      rw [upd_same] at e ⊢
      exact e
    · rw [upd_ne z] at e ⊢
      exact rel.sub _ _ e
  · rw [upd_ne (ne_of_none rel.feed.d hp)]
    exact rel.feed.d
  · rw [upd_ne (ne_of_none rel.feed.d hp)]
    exact rel.feed.nf
  · exact l _ _ rel.feed.c
end
/-! t < u of tuples of whole numbers -/
def ltT : Op2
  | .tuple xs, .tuple ys => match intsOf xs, intsOf ys with
    | some ns, some ms => some (.dat (.bool (HT.lexLt ns ms)))
    | _, _ => none
  | _, _ => none
def oLtA : Op2 := fun d e => (oLt d e).or (ltT d e)
theorem ltT_ok {K : PySem.W.Frag} : BinOk K (rLtT K) ltT := fun g H HF f x y d e rv a t u z Q k => by
  cases d <;> cases e <;> try cases z
  rename_i xs ys
  unfold ltT at z
  cases q1 : intsOf xs with
  | none =>
    simp only [q1] at z
    cases z
  | some ns =>
    cases q2 : intsOf ys with
    | none =>
      simp only [q1, q2] at z
      cases z
    | some ms =>
      simp only [q1, q2] at z
      cases z
      have e1 := intsOf_some q1
      have e2 := intsOf_some q2
      subst e1
      subst e2
      obtain ⟨p, vs, rfl, hp, rp⟩ := t.tup
      obtain ⟨q, ws, rfl, hq, rq⟩ := u.tup
      have v1 := rp.toInts
      have v2 := rq.toInts
      subst v1
      subst v2
      exact ⟨p, q, ns, ms, rfl, rfl, a.sub.sqT hp, a.sub.sqT hq, k.now a (.bl _)⟩
theorem op_ltA {X : Cx} (hu : X.A.units + 64 < cLine) : OpR X (compareOp .Lt) (fun x y H Q => rI0 (fun i j => .bl (decide (i < j))) x y H Q ∨ rLtT X.K x y H Q) := op_lt.or (op_ltT (by omega))
theorem ltA_ok {K : PySem.W.Frag} : BinOk K (fun x y H Q => rI0 (fun i j => .bl (decide (i < j))) x y H Q ∨ rLtT K x y H Q) oLtA := intsB_ok.or ltT_ok
section
variable {X : Cx} {W : Wish} {a b : Expr} {fa fb : Ex} {pos : Pos}
theorem de_ltA (hu : X.A.units + 64 < cLine) (ha : DE X W a fa) (hb : DE X W b fb) : DE X W (.Compare a [.Lt] [b] pos) (cBin oLtA fa fb) := de_cmp (op_ltA hu) ltA_ok ha hb (nomark _)
theorem dt_ltA (hu : X.A.units + 64 < cLine) (ha : DE X W a fa) (hb : DE X W b fb) : DT X W (.Compare a [.Lt] [b] pos) (cT (cBin oLtA fa fb)) := dt_cmp (op_ltA hu) ltA_ok ha hb (nomark _)
end
end Dn

end
/-! sorted of a tuple of tuples of whole numbers -/
namespace SrtO
open PySem PySem.W PySem.Calls PyProof.Rows Builtin Srt
section
variable {prog : Program} {w : World} {A : Around} {E : Value → Shared → Prop} {s : Shared}
theorem collect_tup {l : Addr} {vs : List Value} {Q : List Value → Shared → Prop} (hl : s.heap.IsTuple l vs.toArray)
    (h : Q vs { s with heap := (s.heap.push (seqObj "list" #[] 0)).update s.heap.objs.size (Obj.mapSeq (· ++ vs.toArray)) }) (hsz : vs.length ≤ sizeLine := by size_fits) :
    wpAny (model prog w) A (collect (.ref l)) Q E s := by
  obtain ⟨o, ho, hc, n, hd⟩ := id hl
  unfold collect
  refine wpAny_bind (wpAny_runValue (codeAny_builtin entry_proto_collect' ?_))
  show wpAny _ _ (do again (.builtin "list.__iadd__" ⟨[← newList [], .ref l], []⟩)) _ _ s
  refine wpAny_bind (wpAny_newList (wpAny_pure ⟨Code.quiet_builtin _ (by decide +kernel), codeAny_builtin entry_list_iadd' ?_⟩))
  show wpAny _ _ (Builtin.List.listExtendWith (.ref s.heap.objs.size) (.ref l) (.ref s.heap.objs.size)) _ _ { s with heap := s.heap.push (seqObj "list" #[] 0) }
  unfold Builtin.List.listExtendWith
  have ho' : (s.heap.push (seqObj "list" #[] 0)).get? l = some o := Heap.get?_push_of_some _ ho
  refine wpAny_bind (wpAny_typeOf (T := "tuple") ⟨o, ho', hc⟩ ?_)
  have ht : (Value.type "tuple" == Value.type "tuple") = true := by rfl
  rw [if_pos (by rw [ht]; simp)]
  refine wpAny_bind (listItems_at ho' hd ?_)
  refine wpAny_bind (listItems_at (xs := #[]) (n := 0) (Heap.get?_push_size _ rfl) rfl ?_)
  rw [if_neg (by simp)]
  refine wpAny_bind (listUpdate_at (xs := #[]) (n := 0) (Heap.get?_push_size _ rfl) rfl ?_ (Nat.zero_le _) (by show (#[] ++ vs.toArray).size ≤ sizeLine + 1; simp only [Array.size_append, List.size_toArray, List.length_nil]; omega))
  refine wpAny_pure ?_
  show wpAny (model prog w) A (do
      let o ← load s.heap.objs.size
      match o.data with
      | .seq xs _ => pure xs.toList
      | _ => unsupported "internal:collect") Q E { s with heap := (s.heap.push (seqObj "list" #[] 0)).update s.heap.objs.size (Obj.mapSeq (· ++ vs.toArray)) }
  refine wpAny_bind (wpAny_load (get?_update_seq (Heap.get?_push_size _ rfl) _) ?_)
  show wpAny _ _ (pure ((#[] : Array Value) ++ vs.toArray).toList) Q E _
  rw [show ((#[] : Array Value) ++ vs.toArray).toList = vs by simp]
  exact wpAny_pure h
theorem sorted_ordT {l : Addr} {vs : List Value} {ltv : Value → Value → Bool} {Q : Value → Shared → Prop} (O : Swo ltv) (hl : s.heap.IsTuple l vs.toArray) (hz : vs.length ≤ sizeLine)
    (hS : 2 ≤ vs.length → ∀ (h₁ : Heap) (a : Addr), h₁.get? a = some (seqObj "list" vs.toArray 0) → (∀ b o, s.heap.get? b = some o → b ≠ a ∧ h₁.get? b = some o) → SortableO prog w A.in1.in1 { s with heap := h₁ } a vs ltv)
    (h : ∀ out : List Value, Srtd ltv out → Stb ltv out vs → Q (.ref (s.heap.objs.size + 1)) { s with heap := sortedAll s.heap vs out.toArray }) :
    wpAny (model prog w) A (call (.builtin "sorted") [.ref l]) Q E s := by
  refine Calls.call_function_entry kind_sorted plain_sorted entry_sorted (args_sorted1 _) ?_
  unfold Builtin.«sorted»
  refine wpAny_bind (m := checkCount "sorted" 1 1 _) (wpAny_pure ?_)
  refine wpAny_bind (collect_tup hl ?_ hz)
  refine wpAny_bind (wpAny_newList ?_ hz)
  have hsz : ((s.heap.push (seqObj "list" #[] 0)).update s.heap.objs.size (Obj.mapSeq (· ++ vs.toArray))).objs.size = s.heap.objs.size + 1 := by
    rw [Heap.size_update, size_push']
  have hoL : (((s.heap.push (seqObj "list" #[] 0)).update s.heap.objs.size (Obj.mapSeq (· ++ vs.toArray))).push (seqObj "list" vs.toArray 0)).get? (s.heap.objs.size + 1) = some (seqObj "list" vs.toArray 0) := by
    rw [← hsz]; exact Heap.get?_push_size _ rfl
  have keep : ∀ b o, s.heap.get? b = some o → b ≠ s.heap.objs.size + 1 ∧ (((s.heap.push (seqObj "list" #[] 0)).update s.heap.objs.size (Obj.mapSeq (· ++ vs.toArray))).push (seqObj "list" vs.toArray 0)).get? b = some o := fun b o q => by
    have hlt : b < s.heap.objs.size := Heap.lt_size q
    refine ⟨Nat.ne_of_lt (Nat.lt_succ_of_lt hlt), Heap.get?_push_of_some _ ?_⟩
    rw [Heap.get?_update_ne _ _ _ _ (Nat.ne_of_lt hlt)]
    exact Heap.get?_push_of_some _ q
  show wpAny _ _ _ _ _ { s with heap := ((s.heap.push (seqObj "list" #[] 0)).update s.heap.objs.size (Obj.mapSeq (· ++ vs.toArray))).push (seqObj "list" vs.toArray 0) }
  rw [hsz]
  refine wpAny_bind (wpAny_holding (wpAny_call_entry slot_list_sort ⟨_, hoL, rfl⟩ entry_list_sort (list_sort_ord O hoL hz (fun h2 => hS h2 _ _ hoL keep) fun out hs hb => ⟨_, rfl, ?_⟩) (args_list_sort _)))
  exact wpAny_pure ⟨_, rfl, h out hs hb⟩
end
end SrtO
namespace L2
open PySem PySem.Spec PyProof.Rows
def rSortedTT (K : PySem.W.Frag) : List V → Hp → VK → Prop := fun vs H Q => ∃ (a : Addr) (xs : List V) (ks : List (List Int)) (Ψ : V → List Int → Prop), vs = [V.ref a] ∧ SqT K H a xs ∧ Paired (fun x k => (∃ t, x = V.ref t ∧ SqT K H t (k.map V.int)) ∧ Ψ x k) xs ks ∧
  ∀ ys ls p, Paired Ψ ys ls → ls.Perm ks → ls.Pairwise (fun p q => HT.lexLt q p = false) → H p = none → Q (.ref p) (upd H p (.lst ys))
section
variable {X : Cx}
theorem cr_sortedTT (hu : X.A.units + 64 < cLine) : CallR X (.builtin "sorted") (rSortedTT X.K) := by
  intro pins s σ H vs us Q I r h
  obtain ⟨a, xs, ks, Ψ, rfl, hs, hp, q⟩ := h
  obtain ⟨its, rv, hl, hz⟩ := I.tuple hs
  rw [Vals.ref1 r]
  obtain ⟨ek, hk⟩ := paired_ks (h := s.heap) rv hp fun t k ht => by
    obtain ⟨its2, r2, ht2, _⟩ := I.tuple ht
    exact ⟨t, its2.toArray, rfl, ht2, by rw [List.toList_toArray]; exact intsAre_of r2⟩
  refine SrtO.sorted_ordT (NtL.swo_lexL (TS.intsOf s.heap)) hl (by rw [← rv.length]; exact hz) (fun h2 h₁ a' ha kk => ?_) fun out h1 h2 => ?_
  · have hv : ∀ v ∈ its, TS.TupInts h₁ v (TS.intsOf h₁ v) ∧ TS.intsOf h₁ v = TS.intsOf s.heap v := fun v hm => by
      obtain ⟨t, e, hv, _⟩ := hk v hm
      have q : TS.TupInts h₁ v (TS.intsOf s.heap v) := hv.keeps fun b o e _ => (kk b o e).2
      exact ⟨by rw [q.ints]; exact q, q.ints⟩
    have S := TI.sortable (prog := X.prog) (w := X.w) (A := X.A.in1.in1) (s := { s with heap := h₁ }) (a := a') h2 (by show X.A.units + 1 + 1 < cLine; omega) (fun v hm => (hv v hm).1) fun o e => by
      have e' : some o = some (seqObj "list" its.toArray 0) := e.symm.trans ha
      cases e'
      intro c
      exact absurd (Value.type.inj c) (by decide)
    intro h' keep
    obtain ⟨κ, k1, k2⟩ := S h' keep
    refine ⟨κ, k1, fun p q hp hq => ?_⟩
    have z := k2 p q hp hq
    have e1 := (hv p.1 hp).2
    have e2 := (hv q.1 hq).2
    show wpAny (model X.prog X.w) X.A.in1.in1 (keyLt' κ p.1 q.1) (fun r s' => s' = _ ∧ r = HT.lexLt (TS.intsOf s.heap p.1) (TS.intsOf s.heap q.1)) (fun _ _ => False) _
    rw [← e1, ← e2]
    exact z
  · have ho : ∀ u ∈ out, ∃ t, u = Value.ref t ∧ TS.TupInts s.heap u (TS.intsOf s.heap u) ∧ Ψ (.ref t) (TS.intsOf s.heap u) := fun u hm => hk u (h2.perm.mem_iff.mp hm)
    obtain ⟨ep, he'⟩ := PyProof.Rows.sortedAll_at s.heap its out.toArray
    have h3 : ∀ u ∈ out, ∃ a, u = Value.ref a := fun u hm => by
      obtain ⟨t, e, _⟩ := ho u hm
      exact ⟨t, e⟩
    have hlen : (out.map backV).length ≤ sizeLine := by
      rw [List.length_map, h2.perm.length_eq, ← rv.length]
      exact hz
    refine ⟨.ref _, upd H (s.heap.objs.size + 1) (.lst (out.map backV)), I.laid (t' := s.toks) (fun _ _ => PyProof.Rows.sortedAll_old) (Nat.le_succ _) ⟨hlen, out, ep, vals_back h3, he'⟩, rfl, ?_⟩
    refine q _ (out.map (TS.intsOf s.heap)) _ (paired_out ho) ?_ (List.pairwise_map.mpr h1) (I.hok.fresh (Nat.le_succ _))
    rw [ek]
    exact h2.perm.map _
end
end L2
namespace Dn
open PySem PySem.Spec L2
/-- sorted of a tuple of tuples of whole numbers -/
def oSortTT : Op1
  | .tuple ds => match tupsOf ds with
    | some ks => some (.own ((sortL ks).map tupI))
    | none => none
  | _ => none
theorem oSortTT_ok {K : PySem.W.Frag} : UnOk K (fun v H Q => rSortedTT K [v] H Q) oSortTT := fun g H HF f x d rv a t z Q k => by
  cases d <;> try cases z
  rename_i ds
  unfold oSortTT at z
  cases q : tupsOf ds with
  | none =>
    simp only [q] at z
    cases z
  | some ks =>
    simp only [q] at z
    cases z
    have e := tupsOf_some q
    subst e
    obtain ⟨p, vs, rfl, hp, rp⟩ := t.tup
    refine ⟨p, vs, ks, fun x k => DR K HF x (tupI k), rfl, a.sub.sqT hp, pair_up a.sub rp, fun ys ls p2 h1 h2 h3 h4 => ?_⟩
    rw [sortL_is h3 h2] at k
    exact k.newL a (pair_down h1) p2 h4
theorem de_sortTT {X : Cx} {W : Wish} {a : Expr} {fa : Ex} {p pos : Pos} (hu : X.A.units + 64 < cLine) (hg : Gl X "sorted") (hm : X.mg "sorted" = none) (ha : DE X W a fa) (he : starEach [a] X.env = (false, eval a X.env) :: starEach [] X.env := by rfl) : DE X W (.Call (.Name "sorted" p) [a] [] pos) (cUn oSortTT fa) :=
  de_call1 (cr_sortedTT hu) oSortTT_ok hg hm (by decide +kernel) ha (by decide) (by decide) he
@[simp] theorem oSortTT_tup {ks : List (List Int)} : oSortTT (.tuple (ks.map tupI)) = some (.own ((sortL ks).map tupI)) := by
  show (match tupsOf (ks.map tupI) with
    | some ks => some (RV.own ((sortL ks).map tupI))
    | none => none) = _
  rw [tupsOf_map]
end Dn

section
set_option maxHeartbeats 4000000
/-! a display of a dict with one key -/
namespace Dn
open PySem PySem.Spec L2
def cDict1 (k : Key) (e : Ex) : Ex := fun ρ f => dt (e ρ f) fun d f1 => .ok (.dat (.dict [(keyD k, d)])) f1
section
variable {K : PySem.W.Frag} {g : Gh} {σ : St} {H HF : Hp} {ρ : Rho} {f : Feed}
/-- a new object that no slot holds -/
theorem Rel.fresh {p : Addr} {o : HO} (r : Rel K g σ H HF ρ f) (hp : H p = none) : Rel K g σ (upd H p o) HF ρ f := by
  have hf : HF p = none := by
    cases z : HF p with
    | none => rfl
    | some o => rw [r.sub _ _ z] at hp; cases hp
  refine r.other (r.dead hp) hf (fun z => by rw [z] at hp; exact r.feed.ne hp) (fun i ds e1 e2 => ?_) (fun i k e1 e2 => ?_)
  · obtain ⟨q, vs, z1, z2, z3, z4, z5⟩ := r.slot i _ e1
    rw [z1] at e2
    cases e2
    rw [z4] at hp
    cases hp
  · obtain ⟨q, z1, z2, z3, z4⟩ := r.slot i _ e1
    rw [z1] at e2
    cases e2
    exact z4.some hp
end
section
variable {X : Cx} {W : Wish} {e : Expr} {fe : Ex} {ke : Expr} {k : Key} {pos : Pos}
theorem de_dict1 (hk : PE X ke (tC (kV k))) (he : DE X W e fe) : DE X W (.Dict [some ke] [e] pos) (cDict1 k fe) :=
  pe_mono (pe_disp (trs := [(tC (kV k), tD X.K X.mg W fe)]) (pps_cons hk he pps_nil) rfl rfl (by simp) (by simp)) fun σ H Q ⟨g, HF, ρ, f, rel, q⟩ p hp => by
  have hf : HF p = none := by
    cases z : HF p with
    | none => rfl
    | some o => rw [rel.sub _ _ z] at hp; cases hp
  have r0 : Rel X.K g σ (upd H p (.dK [])) HF ρ f := rel.fresh hp
  have np : p ≠ g.fa := fun z => by rw [z] at hp; exact rel.feed.ne hp
  have s0 : Step g H HF (upd H p (.dK [])) HF := ⟨fun a o _ e => by rw [upd_ne (ne_of_none e hp)]; exact e, Le.refl _, fun _ _ h => h, r0.sub⟩
  have q0 := ROk.later q r0.feed s0
  show tD X.K X.mg W fe σ (upd H p (.dK [])) _
  refine tD_dt (P := Fin X.K g σ H HF Q) r0 q0 fun d f1 v G GF r1 s1 dr q1 => ?_
  have gp : G p = some (.dK []) := s1.ext p _ np upd_same
  have gf : GF p = none := s1.new p (mo upd_same) hf
  refine ⟨gp, [(k, v)], rfl, by simp, ?_⟩
  have fin : Fin X.K g σ H HF Q (.dat (.dict [(keyD k, d)])) f1 := q1
  have l : Le GF (upd GF p (.dK (mergeK [] [(k, v)]))) := fun b o e => by
    rw [upd_ne (ne_of_none e gf)]
    exact e
  refine fin (.ref p) (upd G p (.dK (mergeK [] [(k, v)]))) (upd GF p (.dK (mergeK [] [(k, v)]))) ⟨fun b o nb e => ?_, s1.le.trans l, fun b x y => ?_, fun b o e => ?_⟩ ⟨?_, ?_, ?_⟩ (DR.dic (xs := [(k, v)]) upd_same rfl (.cons (dr.mono l) .nil))
  · rw [upd_ne (ne_of_none e hp)]
    refine s1.ext b o nb ?_
    rw [upd_ne (ne_of_none e hp)]
    exact e
  · rw [upd_ne (fun z => x.some (by rw [z]; exact hp))]
    refine s1.new b ?_ y
    obtain ⟨o, x1, x2⟩ := x
    exact ⟨o, by rw [upd_ne (ne_of_none x1 hp)]; exact x1, x2⟩
  · by_cases z : b = p
    · subst z
      rw [upd_same] at e ⊢
      exact e
    · rw [upd_ne z] at e ⊢
      exact r1.sub _ _ e
  · rw [upd_ne (Ne.symm np)]
    exact r1.feed.d
  · rw [upd_ne (Ne.symm np)]
    exact r1.feed.nf
  · exact l _ _ r1.feed.c
end
@[simp] theorem e_Dict1 {k : Key} {a : Ex} {ρ : Rho} {f : Feed} : cDict1 k a ρ f = dt (a ρ f) fun d f1 => .ok (.dat (.dict [(keyD k, d)])) f1 := nr rfl
end Dn

end
section
set_option maxHeartbeats 4000000
/-! dicts that grow: made, put into, read -/
namespace L2
open PySem PySem.Spec PyProof.Rows
/-- what the dict at a holds at y: the key's tuple may lie anywhere -/
def DGetS (K : PySem.W.Frag) (H : Hp) (a : Addr) (y : V) (r : Option V) : Prop :=
  (∃ kvs k, H a = some (.dK kvs) ∧ y = kV k ∧ r = valV kvs k) ∨ ∃ (kvs : List (List Key × V)) (k : List Key) (b : Addr), H a = some (.dT kvs) ∧ y = .ref b ∧ SqT K H b (k.map kV) ∧ r = valV kvs k
section
variable {X : Cx} {pins : List (Addr × Obj)} {σ : St} {H : Hp} {s : Shared} {a b : Addr} {y d v : V} {u r : Value} {o : Option V} {A : Around} {E : Value → Shared → Prop}
theorem keyS_of (I : Inv X pins σ H s) {ks : List Key} (h : SqT X.K H b (ks.map kV)) : (tupleKind (mixKind X.prog X.w)).is s.heap ks b := by
  obtain ⟨its, rv, ⟨o, ho, hc, n, hd⟩, _⟩ := I.tuple h
  exact ⟨o, its.toArray, n, ho, hc, hd, by rw [List.toList_toArray]; exact items_are rv⟩
theorem s_getItem {Q : Value → Shared → Prop} (hu : A.units + 1 < cLine) (I : Inv X pins σ H s) (g : DGetS X.K H a y (some v)) (ry : RelV y u) (h : ∀ w' s', Inv X pins σ H s' → RelV v w' → Q w' s') :
    wpAny (model X.prog X.w) A (getItem (.ref a) u) Q E s := by
  rcases g with ⟨kvs, k, e, ey, l⟩ | ⟨kvs, k, b, e, ey, eb, l⟩
  · exact d_getItem hu I (.inl ⟨kvs, k, .inl e, ey, l⟩) ry h
  · subst ey
    cases (show u = Value.ref b from ry)
    obtain ⟨z, hd, xs, rel, dd⟩ := dt_rd I.hok (.inl e)
    obtain ⟨w', hw, rw'⟩ := RelO.some_of (v := v) (o := (atKey xs k).map (·.2)) (by rw [l]; exact rel.val k)
    obtain ⟨p, hp, hp2⟩ := Option.map_eq_some_iff.mp hw
    refine wpAny_getItem_heap (tupleKind_room_in1 hu) (keyS_of I eb) dd hp ?_
    rw [hp2]
    exact h w' _ (I.tok _) rw'
theorem s_get2 {Q : Value → Shared → Prop} (hu : A.units + 1 < cLine) (I : Inv X pins σ H s) (g : DGetS X.K H a y o) (ry : RelV y u) (rd : RelV d r) (h : ∀ w' s', Inv X pins σ H s' → RelV (o.getD d) w' → Q w' s') :
    wpAny (model X.prog X.w) A (call (.builtin "dict.get") [.ref a, u, r]) Q E s := by
  rcases g with ⟨kvs, k, e, ey, l⟩ | ⟨kvs, k, b, e, ey, eb, l⟩
  · exact d_get2 hu I (.inl ⟨kvs, k, .inl e, ey, l⟩) ry rd h
  · subst ey
    cases (show u = Value.ref b from ry)
    obtain ⟨z, hd, xs, rel, dd⟩ := dt_rd I.hok (.inl e)
    refine call_meetsIn PySem.F.slot_dict_get dd.typeIs PySem.F.entry_dict_get (PySem.F.args_dict_get_3 _ _ _) (meetsH_dict_get_default (tupleKind (mixKind X.prog X.w)) a b hd r) ⟨tupleKind_room_in1 hu, k, xs, keyS_of I eb, dd, h _ _ (I.tok _) ?_⟩
    rw [l]
    exact (rel.val k).getD rd
theorem s_typeIs (I : Inv X pins σ H s) (g : DGetS X.K H a y o) : s.TypeIs (.ref a) "dict" := by
  rcases g with ⟨kvs, k, e, _, _⟩ | ⟨kvs, k, b, e, _, _, _⟩
  · obtain ⟨_, _, vs, _, dd⟩ := dk_rd I.hok (.inl e)
    exact dd.typeIs
  · obtain ⟨_, _, xs, _, dd⟩ := dt_rd I.hok (.inl e)
    exact dd.typeIs
end
def tDGetS (K : PySem.W.Frag) (td ty : TE) : TE := fun σ H Q => td σ H fun x H1 => ty σ H1 fun y H2 => ∃ a v, x = .ref a ∧ DGetS K H2 a y (some v) ∧ Q v H2
def tDGet2S (K : PySem.W.Frag) (td ty tx : TE) : TE := fun σ H Q => td σ H fun x H1 => ∃ a, x = .ref a ∧ IsD H1 a ∧ ty σ H1 fun y H2 => tx σ H2 fun z H3 => ∃ o, DGetS K H3 a y o ∧ Q (o.getD z) H3
section
variable {X : Cx} {o i e f : Expr} {pos apos cpos : Pos} {td ty tx : TE}
theorem pe_dgetS (hu : X.A.units + 1 < cLine) (ho : PE X o td) (hi : PE X i ty) (hs : NoSl i) : PE X (.Subscript o i pos) (tDGetS X.K td ty) := by
  refine ⟨fun pins s σ H Q I h => ?_⟩
  refine subD_of PySem.F.slot_dict_getitem.lookup hs (thn (ho.run pins s σ H _ I h) fun u s1 ⟨x, H1, I1, rx, q1⟩ => thn (hi.run pins s1 σ H1 _ I1 q1) fun iv s2 ⟨y, H2, I2, ry, a, v, ex, g, q2⟩ => ?_)
  subst ex
  obtain rfl : u = Value.ref a := rx
  exact ⟨s_typeIs I2 g, s_getItem hu I2 g ry fun w' s3 I3 rw' => ⟨v, H2, I3, rw', q2⟩⟩
theorem pe_dget2S (hu : X.A.units + 1 < cLine) (ho : PE X o td) (he : PE X e ty) (hf : PE X f tx) (m : M2 X o "get" apos e f cpos) : PE X (.Call (.Attribute o "get" apos) [e, f] [] cpos) (tDGet2S X.K td ty tx) := by
  refine ⟨fun pins s σ H Q I h => ?_⟩
  refine wpAny_Call_method m.base m.few m.line PySem.F.plainAttrs_dict PySem.F.slot_dict_get PySem.F.type_dict_get (thn (ho.run pins s σ H _ I h) fun u s1 ⟨x, H1, I1, rx, a, ex, d, q1⟩ => ?_)
  subst ex
  obtain rfl : u = Value.ref a := rx
  obtain ⟨t1, t2, _⟩ := isD_at I1 d
  refine ⟨t1, t2, ?_⟩
  rw [m.trees]
  refine Calls.callWith_builtin rfl (Calls.evalArgs_plain (Calls.spliced_cons (thn (he.run pins s1 σ H1 _ I1 q1) fun iv s2 ⟨y, H2, I2, ry, q2⟩ =>
    Calls.spliced_cons (thn (hf.run pins s2 σ H2 _ I2 q2) fun fv s3 ⟨z, H3, I3, rz, ov, g, q3⟩ => Calls.spliced_nil ?_))))
  exact s_get2 hu I3 g ry rz fun w' s4 I4 rw' => ⟨_, H3, I4, rw', q3⟩
end
end L2
namespace Dn
open PySem PySem.Spec L2
/-! ### tables of data -/
section
variable {κ : Type} [DecidableEq κ]
def getK (kvs : List (κ × PyData)) (k : κ) : Option PyData := (kvs.find? fun p => decide (p.1 = k)).map (·.2)
def setK (kvs : List (κ × PyData)) (k : κ) (d : PyData) : List (κ × PyData) :=
  if (kvs.any fun p => decide (p.1 = k)) = true then kvs.map (fun p => if p.1 = k then (p.1, d) else p) else kvs ++ [(k, d)]
theorem getK_nil {k : κ} : getK ([] : List (κ × PyData)) k = none := rfl
theorem getK_cons {p : κ × PyData} {r : List (κ × PyData)} {k : κ} : getK (p :: r) k = if p.1 = k then some p.2 else getK r k := by
  by_cases h : p.1 = k <;> simp [getK, List.find?_cons, h]
variable {κ' : Type} [DecidableEq κ'] {K : PySem.W.Frag} {HF : Hp} {ι : κ → κ'} (inj : ∀ a b, ι a = ι b → a = b)
include inj
theorem pair_get : ∀ {xs : List (κ' × V)} {kvs : List (κ × PyData)}, Paired (fun x q => x.1 = ι q.1 ∧ DR K HF x.2 q.2) xs kvs → ∀ k, (getK kvs k = none ∧ valV xs (ι k) = none) ∨ ∃ d v, getK kvs k = some d ∧ valV xs (ι k) = some v ∧ DR K HF v d
  | _, _, .nil, k => .inl ⟨rfl, rfl⟩
  | _, _, .cons (a := x) (b := q) h r, k => by
    rw [getK_cons]
    by_cases e : q.1 = k
    · rw [if_pos e]
      exact .inr ⟨_, _, rfl, valV_pos (by rw [h.1, e]), h.2⟩
    · rw [if_neg e, valV_neg (fun z => e (inj _ _ (h.1.symm.trans z)))]
      exact pair_get r k
theorem pair_any : ∀ {xs : List (κ' × V)} {kvs : List (κ × PyData)}, Paired (fun x q => x.1 = ι q.1 ∧ DR K HF x.2 q.2) xs kvs → ∀ k, (xs.any fun p => decide (p.1 = ι k)) = kvs.any fun p => decide (p.1 = k)
  | _, _, .nil, k => rfl
  | _, _, .cons (a := x) (b := q) h r, k => by
    rw [List.any_cons, List.any_cons, pair_any r k]
    congr 1
    rw [decide_eq_decide, h.1]
    exact ⟨inj _ _, fun z => by rw [z]⟩
theorem pair_put {xs : List (κ' × V)} {kvs : List (κ × PyData)} (h : Paired (fun x q => x.1 = ι q.1 ∧ DR K HF x.2 q.2) xs kvs) {k : κ} {v : V} {d : PyData} (r : DR K HF v d) : Paired (fun x q => x.1 = ι q.1 ∧ DR K HF x.2 q.2) (putK xs (ι k) v) (setK kvs k d) := by
  unfold putK setK
  rw [pair_any inj h k]
  split
  · rename_i hh
    clear hh
    induction h with
    | nil => exact .nil
    | @cons x q xs kvs h t ih =>
      refine .cons ?_ ih
      dsimp only
      by_cases e : q.1 = k
      · rw [if_pos e, if_pos (by rw [h.1, e])]
        exact ⟨h.1, r⟩
      · rw [if_neg e, if_neg (fun z => e (inj _ _ (h.1.symm.trans z)))]
        exact h
  · exact h.snoc ⟨rfl, r⟩
end
theorem setK_len {κ : Type} [DecidableEq κ] (kvs : List (κ × PyData)) (k : κ) (d : PyData) : (setK kvs k d).length ≤ kvs.length + 1 := by
  unfold setK
  split
  · rw [List.length_map]
    omega
  · rw [List.length_append]
    exact Nat.le_refl _
theorem inl_inj : ∀ a b : Int, (Sum.inl a : Key) = Sum.inl b → a = b := fun a b h => Sum.inl.inj h
theorem inls_inj : ∀ a b : List Int, a.map (Sum.inl : Int → Key) = b.map Sum.inl → a = b
  | [], [], _ => rfl
  | x :: a, y :: b, h => by
    rw [List.map_cons, List.map_cons] at h
    injection h with h1 h2
    rw [inl_inj _ _ h1, inls_inj a b h2]
  | [], _ :: _, h => by cases h
  | _ :: _, [], h => by cases h
theorem kV_inls (ks : List Int) : (ks.map (Sum.inl : Int → Key)).map kV = ks.map V.int := by
  rw [List.map_map]
  rfl
theorem paired_len {α β : Type} {F : α → β → Prop} : ∀ {as : List α} {bs : List β}, Paired F as bs → as.length = bs.length
  | _, _, .nil => rfl
  | _, _, .cons _ r => congrArg (· + 1) (paired_len r)
/-! ### slots -/
section
variable {K : PySem.W.Frag} {g : Gh} {σ : St} {H HF : Hp} {ρ : Rho} {f : Feed} {i : Nat} {p : Addr}
theorem Rel.setS {s : Slot} (r : Rel K g σ H HF ρ f) {v : V} (h : SlotOk K g H HF (some (some v)) s) (h1 : ∀ ds, s ≠ .own ds) (h2 : ∀ k, s = .dct k → ∀ (j : Nat) (l : Dk), ρ[j]? = some (Slot.dct l) → σ[j]? ≠ some (some v)) : Rel K g (σ.set i (some v)) H HF (ρ.set i s) f where
  sub := r.sub
  feed := r.feed
  ext := r.ext
  le := r.le
  new := r.new
  len := by rw [List.length_set, List.length_set, r.len]
  slot := fun j x e => by
    rcases set_get e with ⟨e1, e2, e3⟩ | ⟨e1, e2⟩
    · subst e1
      subst e3
      rw [List.getElem?_set_self (by rw [r.len]; exact e2)]
      exact h
    · rw [List.getElem?_set_ne e1]
      exact r.slot j x e2
  sep := fun a b ds es ea eb ee => by
    rcases set_get ea with ⟨a1, a2, a3⟩ | ⟨a1, a2⟩
    · exact absurd a3 (h1 ds)
    · rcases set_get eb with ⟨b1, b2, b3⟩ | ⟨b1, b2⟩
      · exact absurd b3 (h1 es)
      · rw [List.getElem?_set_ne a1, List.getElem?_set_ne b1] at ee
        exact r.sep a b ds es a2 b2 ee
  sepD := fun a b ds es ea eb ee => by
    rcases set_get ea with ⟨a1, a2, a3⟩ | ⟨a1, a2⟩
    · rcases set_get eb with ⟨b1, b2, b3⟩ | ⟨b1, b2⟩
      · exact a1.symm.trans b1
      · subst a1
        rw [List.getElem?_set_self (by rw [r.len]; exact a2), List.getElem?_set_ne b1] at ee
        exact absurd ee.symm (h2 ds a3 b es b2)
    · rcases set_get eb with ⟨b1, b2, b3⟩ | ⟨b1, b2⟩
      · subst b1
        rw [List.getElem?_set_self (by rw [r.len]; exact b2), List.getElem?_set_ne a1] at ee
        exact absurd ee (h2 es b3 a ds a2)
      · rw [List.getElem?_set_ne a1, List.getElem?_set_ne b1] at ee
        exact r.sepD a b ds es a2 b2 ee
/-- the dict that a slot holds is written -/
theorem Rel.writeK {k l : Dk} {o : HO} (r : Rel K g σ H HF ρ f) (h : ρ[i]? = some (.dct k)) (hp : σ[i]? = some (some (.ref p))) (hq : HF p = none) (h4 : DkAt K H HF p k) (h5 : DkAt K (upd H p o) HF p l) : Rel K g σ (upd H p o) HF (ρ.set i (.dct l)) f where
  sub := fun a o e => by
    rw [upd_ne (ne_of_none e hq)]
    exact r.sub a o e
  feed := ⟨by rw [upd_ne (fun z => h4.ne r.feed z.symm)]; exact r.feed.d, r.feed.nf, r.feed.c⟩
  ext := fun a o z e => by
    have na : a ≠ p := fun w => by
      subst w
      obtain ⟨p2, z1, z2, _⟩ := r.slot i _ h
      rw [hp] at z1
      cases z1
      rw [z2] at e
      cases e
    rw [upd_ne na]
    exact r.ext a o z e
  le := r.le
  new := r.new
  len := by rw [List.length_set, r.len]
  slot := fun j x e => by
    rcases set_get e with ⟨e1, e2, e3⟩ | ⟨e1, e2⟩
    · subst e1
      subst e3
      obtain ⟨p2, z1, z2, z3, z4⟩ := r.slot i _ h
      rw [hp] at z1
      cases z1
      exact ⟨p, hp, z2, hq, h5⟩
    · have k0 := r.slot j x e2
      cases x with
      | emp => trivial
      | dat d => exact k0
      | own fs =>
        obtain ⟨p2, vs2, z1, z2, z3, z4, z5⟩ := k0
        have np : p2 ≠ p := fun w => by
          subst w
          exact h4.nl z4
        exact ⟨p2, vs2, z1, z2, z3, by rw [upd_ne np]; exact z4, z5⟩
      | feed => exact k0
      | scr ns => exact k0
      | dct q =>
        obtain ⟨p2, z1, z2, z3, z4⟩ := k0
        have np : p2 ≠ p := fun w => by
          subst w
          exact e1 (r.sepD i j k q h e2 (hp.trans z1.symm))
        exact ⟨p2, z1, z2, z3, z4.mono (fun o e => by rw [upd_ne np]; exact e) (Le.refl _)⟩
      | key ks => exact k0
  sep := fun a b xs ys ea eb ee => by
    rcases set_get ea with ⟨a1, a2, a3⟩ | ⟨a1, a2⟩
    · cases a3
    · rcases set_get eb with ⟨b1, b2, b3⟩ | ⟨b1, b2⟩
      · cases b3
      · exact r.sep a b xs ys a2 b2 ee
  sepD := fun a b xs ys ea eb ee => by
    have fa : ∃ zs, ρ[a]? = some (.dct zs) := by
      rcases set_get ea with ⟨a1, a2, a3⟩ | ⟨a1, a2⟩
      · subst a1
        exact ⟨k, h⟩
      · exact ⟨xs, a2⟩
    have fb : ∃ zs, ρ[b]? = some (.dct zs) := by
      rcases set_get eb with ⟨a1, a2, a3⟩ | ⟨a1, a2⟩
      · subst a1
        exact ⟨k, h⟩
      · exact ⟨ys, a2⟩
    obtain ⟨z1, fa⟩ := fa
    obtain ⟨z2, fb⟩ := fb
    exact r.sepD a b z1 z2 fa fb ee
theorem dct_here {k : Dk} (r : Rel K g σ H HF ρ f) (h : ρ[i]? = some (.dct k)) : ∃ p, σ[i]? = some (some (.ref p)) ∧ HF p = none ∧ DkAt K H HF p k := by
  obtain ⟨p, z1, z2, z3, z4⟩ := r.slot i _ h
  exact ⟨p, z1, z3, z4⟩
end
/-! ### {} -/
def sDct (b : Bool) (i : Nat) : Sm := fun ρ f => .ok (.nx (ρ.set i (.dct (if b = true then .T [] else .I [])))) f
section
variable {X : Cx} {E : XK} {i : Nat} {y : Str} {j pos pos2 : Pos}
theorem dct_new {K : PySem.W.Frag} {mg : Str → Option Value} {b : Bool} {D : Ends} {σ : St} {H : Hp} {p : Addr} (h : tDS K mg E (sDct b i) D σ H) (hp : H p = none) : D.nx (σ.set i (some (.ref p))) (upd H p (if b = true then .dT [] else .dK [])) := by
  obtain ⟨g, HF, ρ, f, rel, q⟩ := h
  have hf : HF p = none := by
    cases z : HF p with
    | none => rfl
    | some o => rw [rel.sub _ _ z] at hp; cases hp
  refine (show FinS K g D (.nx (ρ.set i (.dct (if b = true then .T [] else .I [])))) f from q) _ _ HF ((rel.fresh hp).setS (i := i) (v := .ref p) ?_ (fun ds z => by cases z) fun k _ j l e1 e2 => ?_)
  · refine ⟨p, rfl, rel.dead hp, hf, ?_⟩
    cases b with
    | true => exact ⟨[], upd_same, .nil⟩
    | false => exact ⟨[], upd_same, .nil⟩
  · obtain ⟨q, z1, z2, z3, z4⟩ := rel.slot j _ e1
    rw [z1] at e2
    cases e2
    exact z4.some hp
theorem ds_dctI (hN : X.N.Nodup) (hi : X.N[i]? = some y) (hx : Loc X.env.scope y) (hs : swapsWith (.Dict [] [] j) (some (.Name y pos2)) pos.line X.env = pure false := by rfl)
    (hf : X.fn y = true ∨ X.env.scope.names.lookup y = some .local := by first | exact .inl rfl | exact .inr rfl | assumption) : DS X E (.Assign [.Name y pos2] (.Dict [] [] j) pos) (sDct false i) :=
  ps_mono (ps_set hN hi hx pe_dnewK hs hf) fun _ _ _ q p hp => dct_new q hp
theorem ds_dctT (hN : X.N.Nodup) (hi : X.N[i]? = some y) (hx : Loc X.env.scope y) (hs : swapsWith (.Dict [] [] j) (some (.Name y pos2)) pos.line X.env = pure false := by rfl)
    (hf : X.fn y = true ∨ X.env.scope.names.lookup y = some .local := by first | exact .inl rfl | exact .inr rfl | assumption) : DS X E (.Assign [.Name y pos2] (.Dict [] [] j) pos) (sDct true i) :=
  ps_mono (ps_set hN hi hx pe_dnewT hs hf) fun _ _ _ q p hp => dct_new q hp
end
/-! ### tuples of whole numbers as keys -/
abbrev Kx := Rho → Feed → R (List Int)
def tKx (K : PySem.W.Frag) (mg : Str → Option Value) (W : Wish) (e : Kx) : TE := fun σ H Q => ∃ g HF ρ f, Rel K g σ H HF ρ f ∧ ROk K mg g H HF (W σ) (e ρ f) fun ks f1 => ∀ b G GF, Step g H HF G GF → FeedAt g G GF f1 → GF b = some (.tup (ks.map V.int)) → Q (.ref b) G
def kVar (i : Nat) : Kx := fun ρ f => match ρ[i]? with
  | some (.key ks) => .ok ks f
  | _ => .no
def kTup (xs : List Ex) : Kx := fun ρ f => (cArgs xs ρ f).bind fun ds f1 => match intsOf ds with
  | some ks => if ks.length ≤ 1000 then .ok ks f1 else .no
  | none => .no
section
variable {X : Cx} {W : Wish} {pos : Pos}
theorem dk_var {e : Expr} {i : Nat} (h : PE X e (tVar i)) : PE X e (tKx X.K X.mg W (kVar i)) := pe_mono h fun σ H Q ⟨g, HF, ρ, f, rel, q⟩ => by
  unfold kVar at q
  cases z : ρ[i]? with
  | none =>
    simp only [z] at q
    exact (show False from q).elim
  | some s =>
    cases s with
    | key ks =>
      simp only [z] at q
      obtain ⟨b, e1, e2⟩ := rel.slot i _ z
      exact ⟨.ref b, e1, q b H HF (Step.refl rel.sub) rel.feed e2⟩
    | _ =>
      simp only [z] at q
      exact (show False from q).elim
theorem dk_tup {es : List Expr} {xs : List Ex} {x1} (h : DA X W es xs) : PE X (.Tuple es x1 pos) (tKx X.K X.mg W (kTup xs)) := pe_mono (pe_tup h) fun σ H Q ⟨g, HF, ρ, f, rel, q⟩ =>
  args_read xs rel q fun ds f1 vs G GF r1 s1 drs q1 => by
    cases c : intsOf ds with
    | none =>
      simp only [c] at q1
      exact (show False from q1).elim
    | some ks =>
      simp only [c] at q1
      by_cases c2 : ks.length ≤ 1000
      · rw [if_pos c2] at q1
        have e := intsOf_some c
        subst e
        have v1 := drs.toInts
        subst v1
        refine ⟨by rw [List.length_map, sizeLine_eq]; omega, fun p hp => ?_⟩
        have hf : GF p = none := by
          cases z : GF p with
          | none => rfl
          | some o => rw [r1.sub _ _ z] at hp; cases hp
        have l : Le GF (upd GF p (.tup (ks.map V.int))) := fun b o e => by
          rw [upd_ne (ne_of_none e hf)]
          exact e
        have hp0 : H p = none := s1.dead r1.feed hp
        refine q1 p (upd G p (.tup (ks.map V.int))) (upd GF p (.tup (ks.map V.int))) ⟨fun b o nb e => ?_, s1.le.trans l, fun b x y => ?_, fun b o e => ?_⟩ ⟨?_, ?_, ?_⟩ upd_same
        · have := s1.ext b o nb e
          rw [upd_ne (ne_of_none this hp)]
          exact this
        · rw [upd_ne (fun z => x.some (by rw [z]; exact hp0))]
          exact s1.new b x y
        · by_cases z : b = p
          · subst z
            rw [upd_same] at e ⊢
            exact e
          · rw [upd_ne z] at e ⊢
            exact r1.sub _ _ e
        · rw [upd_ne (ne_of_none r1.feed.d hp)]
          exact r1.feed.d
        · rw [upd_ne (ne_of_none r1.feed.d hp)]
          exact r1.feed.nf
        · exact l _ _ r1.feed.c
      · rw [if_neg c2] at q1
        exact (show False from q1).elim
end
def sKey (i : Nat) (e : Kx) : Sm := fun ρ f => (e ρ f).bind fun ks f1 => .ok (.nx (ρ.set i (.key ks))) f1
section
variable {X : Cx} {E : XK} {i : Nat} {y : Str} {pos pos2 : Pos} {e : Expr} {x : Kx}
theorem ds_key (hN : X.N.Nodup) (hi : X.N[i]? = some y) (hx : Loc X.env.scope y) (he : PE X e (tKx X.K X.mg (fun _ => E) x)) (hs : swapsWith e (some (.Name y pos2)) pos.line X.env = pure false := by rfl)
    (hf : X.fn y = true ∨ X.env.scope.names.lookup y = some .local := by first | exact .inl rfl | exact .inr rfl | assumption) : DS X E (.Assign [.Name y pos2] e pos) (sKey i x) :=
  ps_mono (ps_set hN hi hx he hs hf) fun D σ H ⟨g, HF, ρ, f, rel, q⟩ => ⟨g, HF, ρ, f, rel, rel.toE ((XF.of_bind q).mono fun ks f1 q1 b G GF s hf hb =>
    (show FinS X.K g D (.nx (ρ.set i (.key ks))) f1 from q1) _ G GF ((rel.step s hf).setS (i := i) (v := .ref b) ⟨b, rfl, hb⟩ (fun ds z => by cases z) (fun k z => by cases z)))⟩
end
/-! ### t[k] = e -/
def sDputI (i : Nat) (ix e : Ex) : Sm := fun ρ f => match ρ[i]? with
  | some (.dct (.I kvs)) => dt (e ρ f) fun d f1 => pk (ix ρ f1) fun k f2 => match k with
    | .int n => if kvs.length < 100000 then .ok (.nx (ρ.set i (.dct (.I (setK kvs n d))))) f2 else .no
    | _ => .no
  | _ => .no
def sDputT (i : Nat) (ix : Kx) (e : Ex) : Sm := fun ρ f => match ρ[i]? with
  | some (.dct (.T kvs)) => dt (e ρ f) fun d f1 => (ix ρ f1).bind fun ks f2 => if kvs.length < 100000 then .ok (.nx (ρ.set i (.dct (.T (setK kvs ks d))))) f2 else .no
  | _ => .no
section
variable {X : Cx} {E : XK} {i : Nat} {o ie e : Expr} {xi x : Ex} {xk : Kx} {pos pos2 : Pos}
theorem dputI_read {K : PySem.W.Frag} {mg : Str → Option Value} {D : Ends} {σ : St} {H : Hp} (h : tDS K mg E (sDputI i xi x) D σ H) : sDPut (tVar i) (tD K mg (fun _ => E) xi) (tD K mg (fun _ => E) x) D σ H := by
  obtain ⟨g, HF, ρ, f, rel, q⟩ := h
  unfold sDputI at q
  cases z : ρ[i]? with
  | none =>
    simp only [z] at q
    exact (show False from q).elim
  | some s =>
    cases s with
    | dct dk =>
      cases dk with
      | T _ =>
        simp only [z] at q
        exact (show False from q).elim
      | I kvs =>
        simp only [z] at q
        refine tD_Sdt rel q fun d f1 v G GF r1 s1 dr q1 => ?_
        obtain ⟨p, e1, e2, e3⟩ := dct_here r1 z
        refine ⟨.ref p, e1, tD_Spk r1 q1 fun k f2 w I IF r2 s2 t2 q2 => ?_⟩
        obtain ⟨p2, y1, y2, xs, y3, y4⟩ := dct_here r2 z
        rw [e1] at y1
        cases y1
        cases k <;> try exact (show False from q2).elim
        rename_i n
        simp only at q2
        by_cases c : kvs.length < 100000
        · rw [if_pos c] at q2
          have hl : xs.length < sizeLine := by
            rw [paired_len y4, sizeLine_eq]
            omega
          have ew := t2.int
          subst ew
          exact ⟨p, _, rfl, DPut.k (k := Sum.inl n) y3 hl, (show FinS K g D (.nx _) f2 from q2) _ _ IF (r2.writeK z e1 y2 ⟨xs, y3, y4⟩ ⟨_, upd_same, pair_put inl_inj y4 (dr.mono s2.le)⟩)⟩
        · rw [if_neg c] at q2
          exact (show False from q2).elim
    | _ =>
      simp only [z] at q
      exact (show False from q).elim
theorem dputT_read {K : PySem.W.Frag} {mg : Str → Option Value} {D : Ends} {σ : St} {H : Hp} (h : tDS K mg E (sDputT i xk x) D σ H) : sDPut (tVar i) (tKx K mg (fun _ => E) xk) (tD K mg (fun _ => E) x) D σ H := by
  obtain ⟨g, HF, ρ, f, rel, q⟩ := h
  unfold sDputT at q
  cases z : ρ[i]? with
  | none =>
    simp only [z] at q
    exact (show False from q).elim
  | some s =>
    cases s with
    | dct dk =>
      cases dk with
      | I _ =>
        simp only [z] at q
        exact (show False from q).elim
      | T kvs =>
        simp only [z] at q
        refine tD_Sdt rel q fun d f1 v G GF r1 s1 dr q1 => ?_
        obtain ⟨p, e1, e2, e3⟩ := dct_here r1 z
        refine ⟨.ref p, e1, g, GF, ρ, f1, r1, r1.toE ((XF.of_bind q1).mono fun ks f2 q2 b I IF s2 hf2 hb => ?_)⟩
        have r2 := r1.step s2 hf2
        obtain ⟨p2, y1, y2, xs, y3, y4⟩ := dct_here r2 z
        rw [e1] at y1
        cases y1
        by_cases c : kvs.length < 100000
        · rw [if_pos c] at q2
          have hl : xs.length < sizeLine := by
            rw [paired_len y4, sizeLine_eq]
            omega
          exact ⟨p, _, rfl, DPut.t (k := ks.map Sum.inl) y3 (by rw [kV_inls]; exact r2.sub _ _ hb) hl, (show FinS K g D (.nx _) f2 from q2) _ _ IF (r2.writeK z e1 y2 ⟨xs, y3, y4⟩ ⟨_, upd_same, pair_put inls_inj y4 (dr.mono s2.le)⟩)⟩
        · rw [if_neg c] at q2
          exact (show False from q2).elim
    | _ =>
      simp only [z] at q
      exact (show False from q).elim
theorem ds_dputI (hu : X.A.units + 64 < cLine) (ho : PE X o (tVar i)) (hi : DE X (fun _ => E) ie xi) (he : DE X (fun _ => E) e x) (hs : swapsWith e (some (.Subscript o ie pos2)) pos.line X.env = pure false := by rfl) : DS X E (.Assign [.Subscript o ie pos2] e pos) (sDputI i xi x) :=
  ps_mono (ps_dput (by omega) ho hi he hs) fun _ _ _ h => dputI_read h
theorem ds_dputT (hu : X.A.units + 64 < cLine) (ho : PE X o (tVar i)) (hi : PE X ie (tKx X.K X.mg (fun _ => E) xk)) (he : DE X (fun _ => E) e x) (hs : swapsWith e (some (.Subscript o ie pos2)) pos.line X.env = pure false := by rfl) : DS X E (.Assign [.Subscript o ie pos2] e pos) (sDputT i xk x) :=
  ps_mono (ps_dput (by omega) ho hi he hs) fun _ _ _ h => dputT_read h
end
end Dn

end
section
set_option maxHeartbeats 4000000
/-! dicts that grow: their keys, their values -/
namespace L2
open PySem PySem.Spec PyProof.Rows Builtin Srt
theorem kt_keys {X : Cx} {H : Hp} : ∀ {kvs : List (List Key × V)} {xs : List (List Key × Addr × Value)} {ks : List (List Int)}, KT H kvs xs → kvs.map (·.1) = ks.map (fun k => k.map Sum.inl) →
    Paired (fun (x : V) k => (∃ t, x = V.ref t ∧ SqT X.K H t (k.map V.int)) ∧ ∃ b, x = .ref b ∧ H b = some (.tup (k.map V.int))) (xs.map fun x => V.ref x.2.1) ks
  | _, _, [], .nil, _ => .nil
  | _, _, _ :: _, .nil, h => by cases h
  | _, _, [], .cons _ _, h => by cases h
  | _, _, k :: ks, .cons (a := q) (b := x) h r, e => by
    rw [List.map_cons, List.map_cons] at e
    injection e with e1 e2
    have hb : H x.2.1 = some (.tup (k.map V.int)) := by
      rw [h.2.1, e1]
      congr 2
      exact List.map_map
    exact .cons ⟨⟨_, rfl, .inl (.inl hb)⟩, _, rfl, hb⟩ (kt_keys r e2)
theorem refs_valsA : ∀ (xs : List (List Key × Addr × Value)), Vals (xs.map fun x => V.ref x.2.1) (xs.map fun x => Value.ref x.2.1)
  | [] => .nil
  | x :: r => .cons rfl (refs_valsA r)
/-- sorted(t), the keys tuples of whole numbers -/
def rSortDT : List V → Hp → VK → Prop := fun vs H Q => ∃ (a : Addr) (kvs : List (List Key × V)) (ks : List (List Int)), vs = [V.ref a] ∧ H a = some (.dT kvs) ∧ kvs.map (·.1) = ks.map (fun k => k.map Sum.inl) ∧ ks.length ≤ 100000 ∧
  ∀ ys ls p, Paired (fun (x : V) k => ∃ b, x = .ref b ∧ H b = some (.tup (k.map V.int))) ys ls → ls.Perm ks → ls.Pairwise (fun p q => HT.lexLt q p = false) → H p = none → Q (.ref p) (upd H p (.lst ys))
section
variable {X : Cx}
theorem cr_sortDT (hc : X.calm = true) (hu : X.A.units + 64 < cLine) : CallR X (.builtin "sorted") rSortDT := by
  intro pins s σ H vs us Q I r h
  obtain ⟨d, kvs, ks, rfl, hd, hk, hlen, q⟩ := h
  rw [Vals.ref1 r]
  obtain ⟨z, hs, xs, pr, o, es, ep, ho, hx, hdt, he, his, hn⟩ := dt_of I.hok hd
  have l1 : es.size = xs.length := size_of_entries he
  have l2 : kvs.length = xs.length := Paired.length pr
  have l3 : kvs.length = ks.length := by
    have := congrArg List.length hk
    rwa [List.length_map, List.length_map] at this
  refine Calls.call_function_entry kind_sorted plain_sorted entry_sorted (args_sorted1 _) ?_
  unfold Builtin.«sorted»
  refine wpAny_bind (m := checkCount "sorted" 1 1 _) (wpAny_pure ?_)
  refine wpAny_bind (PySem.W.kdu_collect (A := X.A.in1) (kdl_raw hs hx hdt) (I.ok.hd hc) ho (by omega) fun h' tk acc kp it => ?_)
  have ea : acc.toList = xs.map fun x => Value.ref x.2.1 := by
    have hl : acc.toList.length = xs.length := by rw [Array.length_toList, it.1]; exact l1
    apply List.ext_getElem?
    intro j
    rw [List.getElem?_map]
    cases hj : acc.toList[j]? with
    | none =>
      have h1 := List.getElem?_eq_none_iff.mp hj
      rw [List.getElem?_eq_none (by omega)]
      all_goals rfl
    | some v =>
      obtain ⟨en, hen, hv⟩ := it.2 j v (by rw [← Array.getElem?_toList]; exact hj)
      have qe := entry_at he j
      rw [hen] at qe
      cases hb : xs[j]? with
      | none =>
        rw [hb] at qe
        exact nomatch (show some en = none from qe)
      | some b =>
        rw [hb] at qe
        have e2 : en = entryOfKey (tupleKind (mixKind X.prog X.w)) b := Option.some.inj qe
        rw [hv, e2]
        all_goals rfl
  rw [ea]
  have I1 : Inv X pins σ H { s with heap := h', toks := tk } := I.kept (t' := tk) kp
  generalize hs1 : ({ s with heap := h', toks := tk } : Shared) = s1 at I1 ⊢
  have rv := refs_valsA xs
  have hp := kt_keys (X := X) pr hk
  obtain ⟨ek, hki⟩ := paired_ks (h := s1.heap) rv hp fun t k ht => by
    obtain ⟨its2, r2, ht2, _⟩ := I1.tuple ht
    exact ⟨t, its2.toArray, rfl, ht2, by rw [List.toList_toArray]; exact intsAre_of r2⟩
  have hz : (xs.map fun x => Value.ref x.2.1).length ≤ sizeLine := by rw [List.length_map, sizeLine_eq]; omega
  generalize (xs.map fun x => Value.ref x.2.1) = its at *
  refine wpAny_bind (wpAny_newList ?_ hz)
  have hoL : (s1.heap.push (seqObj "list" its.toArray 0)).get? s1.heap.objs.size = some (seqObj "list" its.toArray 0) := Heap.get?_push_size _ rfl
  have kk : ∀ b o, s1.heap.get? b = some o → (s1.heap.push (seqObj "list" its.toArray 0)).get? b = some o := fun b o e => Heap.get?_push_of_some _ e
  show wpAny _ _ _ _ _ { s1 with heap := s1.heap.push (seqObj "list" its.toArray 0) }
  refine wpAny_bind (wpAny_holding (wpAny_call_entry slot_list_sort ⟨_, hoL, rfl⟩ entry_list_sort (SrtO.list_sort_ord (s := { s1 with heap := s1.heap.push (seqObj "list" its.toArray 0) }) (NtL.swo_lexL (TS.intsOf s1.heap)) hoL hz (fun h2 => ?_) fun out h1 h2 => ⟨_, rfl, ?_⟩) (args_list_sort _)))
  · have hv : ∀ v ∈ its, TS.TupInts (s1.heap.push (seqObj "list" its.toArray 0)) v (TS.intsOf (s1.heap.push (seqObj "list" its.toArray 0)) v) ∧ TS.intsOf (s1.heap.push (seqObj "list" its.toArray 0)) v = TS.intsOf s1.heap v := fun v hm => by
      obtain ⟨t, e, hv, _⟩ := hki v hm
      have q : TS.TupInts (s1.heap.push (seqObj "list" its.toArray 0)) v (TS.intsOf s1.heap v) := hv.keeps fun b o e _ => kk b o e
      exact ⟨by rw [q.ints]; exact q, q.ints⟩
    have S := TI.sortable (prog := X.prog) (w := X.w) (A := X.A.in1.in1) (s := { s1 with heap := s1.heap.push (seqObj "list" its.toArray 0) }) (a := s1.heap.objs.size) h2 (by show X.A.units + 1 + 1 < cLine; omega) (fun v hm => (hv v hm).1) fun o e => by
      have e' : some o = some (seqObj "list" its.toArray 0) := e.symm.trans hoL
      cases e'
      intro c
      exact absurd (Value.type.inj c) (by decide)
    intro h'' keep
    obtain ⟨κ, k1, k2⟩ := S h'' keep
    refine ⟨κ, k1, fun p q hp hq => ?_⟩
    have z := k2 p q hp hq
    have e1 := (hv p.1 hp).2
    have e2 := (hv q.1 hq).2
    show wpAny (model X.prog X.w) X.A.in1.in1 (keyLt' κ p.1 q.1) (fun r s' => s' = _ ∧ r = HT.lexLt (TS.intsOf s1.heap p.1) (TS.intsOf s1.heap q.1)) (fun _ _ => False) _
    rw [← e1, ← e2]
    exact z
  · have ho2 : ∀ u ∈ out, ∃ t, u = Value.ref t ∧ TS.TupInts s1.heap u (TS.intsOf s1.heap u) ∧ ∃ b, V.ref t = .ref b ∧ H b = some (.tup ((TS.intsOf s1.heap u).map V.int)) := fun u hm => hki u (h2.perm.mem_iff.mp hm)
    obtain ⟨ep2, he'⟩ := PyProof.Rows.sortedHeap_at (vs := its) (out := out.toArray) hoL
    have h3 : ∀ u ∈ out, ∃ a, u = Value.ref a := fun u hm => by
      obtain ⟨t, e, _⟩ := ho2 u hm
      exact ⟨t, e⟩
    have hlen2 : (out.map backV).length ≤ sizeLine := by
      rw [List.length_map, h2.perm.length_eq]
      exact hz
    have kF : ∀ b o, s1.heap.get? b = some o → (sortedHeap (s1.heap.push (seqObj "list" its.toArray 0)) s1.heap.objs.size its out.toArray).get? b = some o := fun b o e => by
      have hb : b < s1.heap.objs.size := Heap.lt_size e
      rw [PyProof.Rows.sortedHeap_old (Nat.ne_of_lt hb) (by rw [size_push']; exact Nat.lt_succ_of_lt hb)]
      exact kk b o e
    refine wpAny_pure ⟨_, rfl, .ref s1.heap.objs.size, upd H s1.heap.objs.size (.lst (out.map backV)), I1.laid (t' := s1.toks) kF (Nat.le_refl _) ⟨hlen2, out, ep2, vals_back h3, he'⟩, rfl, ?_⟩
    refine q _ (out.map (TS.intsOf s1.heap)) _ (paired_out ho2) ?_ (List.pairwise_map.mpr h1) (I1.hok.fresh (Nat.le_refl _))
    rw [ek]
    exact h2.perm.map _
end
/-! ### list(t.values()) -/
def tListVals (td : TE) : TE := fun σ H Q => td σ H fun x H1 => ∃ a vs, x = V.ref a ∧ ((∃ kvs : List (Key × V), H1 a = some (.dK kvs) ∧ kvs.map (·.2) = vs) ∨ ∃ kvs : List (List Key × V), H1 a = some (.dT kvs) ∧ kvs.map (·.2) = vs) ∧ ∀ p, H1 p = none → Q (.ref p) (upd H1 p (.lst vs))
section
variable {X : Cx} {o : Expr} {p pos apos mpos : Pos} {td : TE}
theorem raw_of {pins : List (Addr × Obj)} {σ : St} {H : Hp} {s : Shared} {a : Addr} {vs : List V} (I : Inv X pins σ H s) (h : (∃ kvs : List (Key × V), H a = some (.dK kvs) ∧ kvs.map (·.2) = vs) ∨ ∃ kvs : List (List Key × V), H a = some (.dT kvs) ∧ kvs.map (·.2) = vs) :
    (a == sysModules) = false ∧ vs.length ≤ sizeLine ∧ ∃ es ep, s.heap.DictRaw a es ep ∧ Vals vs (es.toList.map (·.val)) := by
  rcases h with ⟨kvs, e, rfl⟩ | ⟨kvs, e, rfl⟩
  · obtain ⟨z, h2, ws, kv, ob, es, ep, h3, h4, h5, _, h6, _⟩ := dk_of I.hok e
    refine ⟨h2, by rw [List.length_map]; exact z, es, ep, ⟨ob, h3, h4, h5⟩, ?_⟩
    rw [(Dn.pairs_kv h6).2]
    exact Dn.kv_vals kv
  · obtain ⟨z, h2, ws, kt, ob, es, ep, h3, h4, h5, h6, _⟩ := dt_of I.hok e
    refine ⟨h2, by rw [List.length_map]; exact z, es, ep, ⟨ob, h3, h4, h5⟩, ?_⟩
    have : es.toList.map (·.val) = ws.map (·.2.2) := by
      rw [h6, List.map_map]
      rfl
    rw [this]
    exact Dn.kt_vals kt
theorem pe_listVals (hc : X.calm = true) (hg : Gl X "list") (hm : X.mg "list" = none) (hd : PE X o td) (hbase : attributeBase o "values" X.env (eval o X.env) = eval o X.env := by rfl) (hline : (apos.endLine == mpos.line) = true := by rfl)
    (na : starEach [Expr.Call (.Attribute o "values" apos) [] [] mpos] X.env = (false, eval (Expr.Call (.Attribute o "values" apos) [] [] mpos) X.env) :: starEach [] X.env := by rfl) :
    PE X (.Call (.Name "list" p) [.Call (.Attribute o "values" apos) [] [] mpos] [] pos) (tListVals td) := by
  refine ⟨fun pins s σ H Q I h => ?_⟩
  refine Call_ (ld_blt I hg hm (show bootBuiltins "list" = some (.type "list") by decide +kernel) ?_)
  refine PyProof.Rows.callWith_type1 (PyProof.Rows.args_cons (wpAny_Call_method0_late hbase hline (thn (hd.run pins s σ H _ I h) fun v s1 ⟨x, H1, I1, r1, a, vs, ex, ha, q⟩ => ?_)) na) na rfl
  subst ex
  obtain rfl : v = Value.ref a := r1
  obtain ⟨hsys, hz, es, ep, raw, rv⟩ := raw_of I1 ha
  obtain ⟨ob, ho, hx, hdat⟩ := id raw
  refine ⟨"dict", "dict.values", F.plainAttrs_dict, F.slot_dict_values, F.type_dict_values, ⟨ob, ho, hx.1⟩, fun b e => ?_, Calls.callWith_builtin rfl (PySem.evalArgs_none ?_)⟩
  · cases e
    exact ⟨ob, ho, hx.2.1⟩
  refine call_meetsIn F.slot_dict_values ⟨ob, ho, hx.1⟩ F.entry_dict_values (F.args_dict_values_1 _) (PySem.meets_dict_values_raw a hsys) ⟨⟨es, ep, raw⟩, ?_⟩
  refine PyProof.Rows.args_nil ?_
  have k1 : ∀ b u, s1.heap.get? b = some u → (s1.heap.push { cls := .type "dict_values", data := .fields #[.ref a] }).get? b = some u := fun b u e => Heap.get?_push_of_some _ e
  have hsz : es.size = vs.length := by
    have := rv.length
    rw [List.length_map, Array.length_toList] at this
    exact this.symm
  have I2 : Inv X pins σ H1 { s1 with heap := s1.heap.push { cls := .type "dict_values", data := .fields #[.ref a] } } := I1.kept (t' := s1.toks) k1
  refine PySem.W.kdl_call (s := { s1 with heap := s1.heap.push { cls := .type "dict_values", data := .fields #[.ref a] } }) (PySem.KdlSrc.rawValues (r := s1.heap.objs.size) (d := a) (es := es) (ep := ep)) (I1.ok.hd hc) ⟨⟨_, Heap.get?_push_size _ rfl, rfl, rfl⟩, raw.push _⟩ (by omega) fun h' tk acc' c' kp e it => ?_
  have ea : acc'.toList = es.toList.map (·.val) := by
    apply List.ext_getElem?
    intro j
    rw [List.getElem?_map]
    cases hj : acc'.toList[j]? with
    | none =>
      have h1 := List.getElem?_eq_none_iff.mp hj
      rw [Array.length_toList, it.1] at h1
      rw [List.getElem?_eq_none (by rw [Array.length_toList]; exact h1)]
      all_goals rfl
    | some v =>
      obtain ⟨hi, hv⟩ := it.2 j v (by rw [← Array.getElem?_toList]; exact hj)
      rw [Array.getElem?_toList, Array.getElem?_eq_getElem hi, hv]
      all_goals rfl
  refine ⟨.ref _, upd H1 _ (.lst vs), I2.laid (t' := tk) (o := .lst vs) kp (Nat.le_refl _) ⟨hz, acc'.toList, c', by rw [ea]; exact rv, by rw [Array.toArray_toList]; exact e⟩, rfl, q _ (I2.hok.fresh (Nat.le_refl _))⟩
end
end L2

end
section
set_option maxHeartbeats 4000000
/-! dicts that grow: read, sorted, listed, frozen -/
namespace Dn
open PySem PySem.Spec L2
/-- data whose keys are whole numbers -/
def intKeys : List (PyData × PyData) → Option (List (Int × PyData))
  | [] => some []
  | (.int n, d) :: r => (intKeys r).map ((n, d) :: ·)
  | _ :: _ => none
theorem intKeys_some : ∀ {ks : List (PyData × PyData)} {kvs : List (Int × PyData)}, intKeys ks = some kvs → ks = kvs.map fun q => (.int q.1, q.2)
  | [], kvs, h => by
    cases h
    rfl
  | (k, d) :: r, kvs, h => by
    cases k <;> try cases h
    rename_i n
    unfold intKeys at h
    cases z : intKeys r with
    | none =>
      rw [z] at h
      cases h
    | some ys =>
      rw [z] at h
      cases h
      rw [List.map_cons, ← intKeys_some z]
theorem intKeys_map : ∀ kvs : List (Int × PyData), intKeys (kvs.map fun q => (.int q.1, q.2)) = some kvs
  | [] => rfl
  | (k, d) :: r => by
    rw [List.map_cons, intKeys, intKeys_map r]
    rfl
def dictAt (ρ : Rho) (i : Nat) : Option Dk := match ρ[i]? with
  | some (.dct k) => some k
  | some (.dat (.dict ks)) => (intKeys ks).map Dk.I
  | _ => none
theorem dr_dk {K : PySem.W.Frag} {HF : Hp} : ∀ {kvs : List (Int × PyData)} {xs : List (Key × V)}, (kvs.map fun q => (PyData.int q.1, q.2)).map (·.1) = xs.map (fun x => keyD x.1) → DRs K HF (xs.map (·.2)) ((kvs.map fun q => (PyData.int q.1, q.2)).map (·.2)) → Paired (fun x q => x.1 = Sum.inl q.1 ∧ DR K HF x.2 q.2) xs kvs
  | [], [], _, _ => .nil
  | _ :: _, [], h, _ => by simp at h
  | [], _ :: _, h, _ => by simp at h
  | (n, d) :: r, (k, v) :: xs, h, .cons a b => by
    simp only [List.map_cons, List.cons.injEq] at h
    obtain ⟨h1, h2⟩ := h
    refine .cons ⟨?_, a⟩ (dr_dk (by simpa using h2) b)
    cases k with
    | inl i =>
      unfold keyD at h1
      simp only [PyData.int.injEq] at h1
      rw [h1]
    | inr x =>
      unfold keyD at h1
      cases h1
section
variable {K : PySem.W.Frag} {g : Gh} {σ : St} {H HF : Hp} {ρ : Rho} {f : Feed} {i : Nat}
theorem dict_here {k : Dk} (r : Rel K g σ H HF ρ f) (h : dictAt ρ i = some k) : ∃ p, σ[i]? = some (some (.ref p)) ∧ DkAt K H HF p k := by
  unfold dictAt at h
  cases z : ρ[i]? with
  | none =>
    rw [z] at h
    cases h
  | some s =>
    rw [z] at h
    cases s with
    | dct l =>
      cases h
      obtain ⟨p, h1, h2, h3⟩ := dct_here r z
      exact ⟨p, h1, h3⟩
    | dat d =>
      cases d <;> try cases h
      rename_i ks
      simp only at h
      cases c : intKeys ks with
      | none =>
        rw [c] at h
        cases h
      | some kvs =>
        rw [c] at h
        cases h
        have e := intKeys_some c
        subst e
        obtain ⟨v, e1, e2⟩ := r.slot i _ z
        generalize hd : PyData.dict (kvs.map fun q => (PyData.int q.1, q.2)) = dd at e2
        cases e2 with
        | dic h1 h2 h3 =>
          cases hd
          exact ⟨_, e1, _, r.sub _ _ h1, dr_dk h2 h3⟩
        | exc h1 h2 h3 h4 =>
          exfalso
          cases kvs with
          | nil => cases hd
          | cons a r =>
            simp only [List.map_cons, PyData.dict.injEq, List.cons.injEq, Prod.mk.injEq] at hd
            cases hd.1.1
        | _ => cases hd
    | _ => cases h
def keyGet (k : Dk) (d : PyData) : Option (Option PyData) := match k, d with
  | .I kvs, .int n => some (getK kvs n)
  | .T kvs, .tuple ds => (intsOf ds).map (getK kvs)
  | _, _ => none
theorem get_read {p : Addr} {k : Dk} {y : V} {d : PyData} {o : Option PyData} (l : Le HF H) (h : DkAt K H HF p k) (t : Top K g H HF y d) (e : keyGet k d = some o) :
    ∃ r, DGetS K H p y r ∧ ((o = none ∧ r = none) ∨ ∃ c v, o = some c ∧ r = some v ∧ DR K HF v c) := by
  cases k with
  | I kvs =>
    cases d <;> try cases e
    rename_i n
    have ey := t.int
    subst ey
    obtain ⟨xs, h1, h2⟩ := h
    refine ⟨_, .inl ⟨xs, Sum.inl n, h1, rfl, rfl⟩, ?_⟩
    rcases pair_get inl_inj h2 n with ⟨a, b⟩ | ⟨c, v, a, b, dr⟩
    · exact .inl ⟨a, b⟩
    · exact .inr ⟨c, v, a, b, dr⟩
  | T kvs =>
    cases d <;> try cases e
    rename_i ds
    unfold keyGet at e
    cases c : intsOf ds with
    | none =>
      simp only [c] at e
      cases e
    | some ks =>
      simp only [c] at e
      cases e
      have e2 := intsOf_some c
      subst e2
      obtain ⟨b, vs, rfl, hb, rb⟩ := t.tup
      have ev := rb.toInts
      subst ev
      obtain ⟨xs, h1, h2⟩ := h
      refine ⟨_, .inr ⟨xs, ks.map Sum.inl, b, h1, rfl, by rw [kV_inls]; exact l.sqT hb, rfl⟩, ?_⟩
      rcases pair_get inls_inj h2 ks with ⟨a, b⟩ | ⟨c, v, a, b, dr⟩
      · exact .inl ⟨a, b⟩
      · exact .inr ⟨c, v, a, b, dr⟩
end
/-- t[k] -/
def cDGet (i : Nat) (ix : Ex) : Ex := fun ρ f => match dictAt ρ i with
  | some t => pk (ix ρ f) fun k f1 => match keyGet t k with
    | some (some d) => .ok (.dat d) f1
    | _ => .no
  | none => .no
/-- t.get(k, d) -/
def cDGet2 (i : Nat) (ix dx : Ex) : Ex := fun ρ f => match dictAt ρ i with
  | some t => pk (ix ρ f) fun k f1 => dt (dx ρ f1) fun d f2 => match keyGet t k with
    | some o => .ok (.dat (o.getD d)) f2
    | none => .no
  | none => .no
/-- list(t.values()) -/
def Dk.vals : Dk → List PyData
  | .I kvs => kvs.map (·.2)
  | .T kvs => kvs.map (·.2)
def cDVals (i : Nat) : Ex := fun ρ f => match dictAt ρ i with
  | some t => .ok (.own t.vals) f
  | none => .no
/-- list(t), sorted(t) -/
def cDKeys (i : Nat) : Ex := fun ρ f => match dictAt ρ i with
  | some (.I kvs) => .ok (.own (kvs.map fun q => .int q.1)) f
  | _ => .no
def cDSort (i : Nat) : Ex := fun ρ f => match dictAt ρ i with
  | some (.T kvs) => if kvs.length ≤ 100000 then .ok (.own ((sortL (kvs.map (·.1))).map tupI)) f else .no
  | _ => .no
def sFrzD (i : Nat) : Sm := fun ρ f => match ρ[i]? with
  | some (.dct (.I kvs)) => .ok (.nx (ρ.set i (.dat (.dict (kvs.map fun q => (.int q.1, q.2)))))) f
  | _ => .ok (.nx ρ) f
theorem pair_vals {K : PySem.W.Frag} {HF : Hp} {κ κ' : Type} {ι : κ → κ'} : ∀ {xs : List (κ' × V)} {kvs : List (κ × PyData)}, Paired (fun x q => x.1 = ι q.1 ∧ DR K HF x.2 q.2) xs kvs → DRs K HF (xs.map (·.2)) (kvs.map (·.2))
  | _, _, .nil => .nil
  | _, _, .cons h r => .cons h.2 (pair_vals r)
theorem pair_keys {K : PySem.W.Frag} {HF : Hp} {κ κ' : Type} {ι : κ → κ'} : ∀ {xs : List (κ' × V)} {kvs : List (κ × PyData)}, Paired (fun x q => x.1 = ι q.1 ∧ DR K HF x.2 q.2) xs kvs → xs.map (·.1) = kvs.map fun q => ι q.1
  | _, _, .nil => rfl
  | _, _, .cons h r => by rw [List.map_cons, List.map_cons, h.1, pair_keys r]
section
variable {K : PySem.W.Frag} {g : Gh} {σ : St} {H HF : Hp} {ρ : Rho} {f : Feed}
/-- tuples that lie there may be frozen -/
theorem frz_tups : ∀ {ys : List V} {ls : List (List Int)} {HF : Hp}, At K g H HF f → Paired (fun (x : V) k => ∃ b, x = .ref b ∧ H b = some (.tup (k.map V.int))) ys ls → ∃ GF, Step g H HF H GF ∧ FeedAt g H GF f ∧ DRs K GF ys (ls.map tupI)
  | _, _, HF, a, .nil => ⟨HF, Step.refl a.sub, a.feed, .nil⟩
  | _, _, HF, a, .cons (a := x) (b := k) h r => by
    obtain ⟨b, rfl, hb⟩ := h
    have hfa : b ≠ g.fa := fun z => by
      subst z
      have := a.feed.d.symm.trans hb
      unfold feedO at this
      cases this
    have l : Le HF (upd HF b (.tup (k.map V.int))) := fun c o e => by
      by_cases z : c = b
      · subst z
        rw [upd_same, ← a.sub _ _ e, hb]
      · rw [upd_ne z]
        exact e
    have sub2 : Le (upd HF b (.tup (k.map V.int))) H := fun c o e => by
      by_cases z : c = b
      · subst z
        rw [upd_same] at e
        rw [hb]
        exact e
      · rw [upd_ne z] at e
        exact a.sub _ _ e
    have s1 : Step g H HF H (upd HF b (.tup (k.map V.int))) := ⟨fun _ _ _ e => e, l, fun c x y => by
      have nb : c ≠ b := fun z => by
        subst z
        obtain ⟨o, e1, e2⟩ := x
        rw [hb] at e1
        cases e1
        cases e2
      rw [upd_ne nb]
      exact y, sub2⟩
    have f1 : FeedAt g H (upd HF b (.tup (k.map V.int))) f := ⟨a.feed.d, by rw [upd_ne (Ne.symm hfa)]; exact a.feed.nf, l _ _ a.feed.c⟩
    obtain ⟨GF, s2, f2, d2⟩ := frz_tups (HF := upd HF b (.tup (k.map V.int))) ⟨sub2, f1⟩ r
    exact ⟨GF, s1.trans f1 s2, f2, .cons (.tup (.inl (.inl (s2.le _ _ upd_same))) (DRs.ints k)) d2⟩
theorem Rel.frzD {i : Nat} {kvs : List (Int × PyData)} (r : Rel K g σ H HF ρ f) (h : ρ[i]? = some (.dct (.I kvs))) : ∃ GF, Rel K g σ H GF (ρ.set i (.dat (.dict (kvs.map fun q => (.int q.1, q.2))))) f := by
  obtain ⟨p, e1, e2, e3, e4⟩ := r.slot i _ h
  have e40 := e4
  obtain ⟨xs, e5, e6⟩ := e4
  have l : Le HF (upd HF p (.dK xs)) := fun a o q => by
    rw [upd_ne (ne_of_none q e3)]
    exact q
  have np : g.fa ≠ p := fun q => e40.ne r.feed q.symm
  refine ⟨upd HF p (.dK xs), ⟨fun a o q => ?_, ⟨r.feed.d, ?_, l _ _ r.feed.c⟩, r.ext, r.le.trans l, fun a x y => ?_, ?_, fun j x e => ?_, fun a b xs ys ea eb ee => ?_, fun a b xs ys ea eb ee => ?_⟩⟩
  · by_cases z : a = p
    · subst z
      rw [upd_same] at q
      rw [e5]
      exact q
    · rw [upd_ne z] at q
      exact r.sub a o q
  · rw [upd_ne np]
    exact r.feed.nf
  · rw [upd_ne (fun z => x.some (by rw [z]; exact e2))]
    exact r.new a x y
  · rw [List.length_set, r.len]
  · rcases set_get e with ⟨z1, z2, z3⟩ | ⟨z1, z2⟩
    · subst z1
      subst z3
      refine ⟨.ref p, e1, .dic upd_same ?_ ?_⟩
      · have := congrArg (List.map keyD) (pair_keys e6)
        rw [List.map_map, List.map_map] at this
        rw [List.map_map]
        exact this.symm
      · rw [List.map_map]
        exact (pair_vals e6).mono l
    · have k := r.slot j x z2
      cases x with
      | emp => trivial
      | dat d =>
        obtain ⟨v, k1, k2⟩ := k
        exact ⟨v, k1, k2.mono l⟩
      | own fs =>
        obtain ⟨q, ws, k1, k2, k3, k4, k5⟩ := k
        have nq : q ≠ p := fun w => by
          subst w
          rw [e5] at k4
          cases k4
        exact ⟨q, ws, k1, k2, by rw [upd_ne nq]; exact k3, k4, k5.mono l⟩
      | feed => exact k
      | scr ns =>
        obtain ⟨a, k1, k2⟩ := k
        exact ⟨a, k1, l.sqL k2⟩
      | dct fs =>
        obtain ⟨q, k1, k2, k3, k4⟩ := k
        have nq : q ≠ p := fun w => by
          subst w
          exact z1 (r.sepD i j _ fs h z2 (e1.trans k1.symm))
        exact ⟨q, k1, k2, by rw [upd_ne nq]; exact k3, k4.mono (fun _ e => e) l⟩
      | key ks =>
        obtain ⟨a, k1, k2⟩ := k
        exact ⟨a, k1, l _ _ k2⟩
  · rcases set_get ea with ⟨a1, a2, a3⟩ | ⟨a1, a2⟩
    · cases a3
    · rcases set_get eb with ⟨b1, b2, b3⟩ | ⟨b1, b2⟩
      · cases b3
      · exact r.sep a b xs ys a2 b2 ee
  · rcases set_get ea with ⟨a1, a2, a3⟩ | ⟨a1, a2⟩
    · cases a3
    · rcases set_get eb with ⟨b1, b2, b3⟩ | ⟨b1, b2⟩
      · cases b3
      · exact r.sepD a b xs ys a2 b2 ee
end
theorem dss_frzD {X : Cx} {E : XK} {sts : List Stmt} {s : Sm} (i : Nat) (h : DSs X E sts s) : DSs X E sts (sSeq (sFrzD i) s) := pss_mono h fun D σ H ⟨g, HF, ρ, f, rel, q⟩ => by
  unfold sSeq sFrzD at q
  cases z : ρ[i]? with
  | none =>
    simp only [z] at q
    exact ⟨g, HF, ρ, f, rel, q⟩
  | some x =>
    cases x with
    | dct k =>
      cases k with
      | I kvs =>
        simp only [z] at q
        obtain ⟨GF, r2⟩ := rel.frzD z
        exact ⟨g, GF, _, f, r2, q⟩
      | T kvs =>
        simp only [z] at q
        exact ⟨g, HF, ρ, f, rel, q⟩
    | _ =>
      simp only [z] at q
      exact ⟨g, HF, ρ, f, rel, q⟩
section
variable {K : PySem.W.Frag} {g : Gh} {σ : St} {H HF : Hp} {ρ : Rho} {f : Feed} {i : Nat}
theorem dict_now {k : Dk} {p : Addr} (r : Rel K g σ H HF ρ f) (h : dictAt ρ i = some k) (e : σ[i]? = some (some (.ref p))) : DkAt K H HF p k := by
  obtain ⟨q, h1, h2⟩ := dict_here r h
  rw [e] at h1
  cases h1
  exact h2
end
section
variable {X : Cx} {W : Wish} {i : Nat} {o ie e : Expr} {xi x : Ex} {pos apos mpos cpos p : Pos}
theorem de_dget (hu : X.A.units + 64 < cLine) (ho : PE X o (tVar i)) (hi : DE X W ie xi) (hs : NoSl ie) : DE X W (.Subscript o ie pos) (cDGet i xi) :=
  pe_mono (pe_dgetS (by omega) ho hi hs) fun σ H Q ⟨g, HF, ρ, f, rel, q⟩ => by
  unfold cDGet at q
  cases c : dictAt ρ i with
  | none =>
    simp only [c] at q
    exact (show False from q).elim
  | some t =>
    simp only [c] at q
    obtain ⟨p, h1, _⟩ := dict_here rel c
    refine ⟨.ref p, h1, tD_pk rel q fun d f1 y G GF r1 s1 t1 q1 => ?_⟩
    cases c2 : keyGet t d with
    | none =>
      simp only [c2] at q1
      exact (show False from q1).elim
    | some o2 =>
      obtain ⟨r, g1, g2⟩ := get_read r1.sub (dict_now r1 c h1) t1 c2
      rcases g2 with ⟨rfl, rfl⟩ | ⟨c3, v, rfl, rfl, dr⟩
      · simp only [c2] at q1
        exact (show False from q1).elim
      · simp only [c2] at q1
        exact ⟨p, v, rfl, g1, (show Fin X.K g σ H HF Q (.dat c3) f1 from q1) v G GF s1 r1.feed dr⟩
theorem isD_of {K : PySem.W.Frag} {H HF : Hp} {p : Addr} {k : Dk} (h : DkAt K H HF p k) : IsD H p := by
  cases k with
  | I kvs =>
    obtain ⟨xs, h1, _⟩ := h
    exact .inl ⟨xs, .inl h1⟩
  | T kvs =>
    obtain ⟨xs, h1, _⟩ := h
    exact .inr ⟨xs, .inl h1⟩
theorem de_dget2 (hu : X.A.units + 64 < cLine) (ho : PE X o (tVar i)) (hi : DE X W ie xi) (he : DE X W e x) (m : M2 X o "get" apos ie e cpos := by exact ⟨by rfl, by rfl, by rfl, by rfl⟩) : DE X W (.Call (.Attribute o "get" apos) [ie, e] [] cpos) (cDGet2 i xi x) :=
  pe_mono (pe_dget2S (by omega) ho hi he m) fun σ H Q ⟨g, HF, ρ, f, rel, q⟩ => by
  unfold cDGet2 at q
  cases c : dictAt ρ i with
  | none =>
    simp only [c] at q
    exact (show False from q).elim
  | some t =>
    simp only [c] at q
    obtain ⟨p, h1, h2⟩ := dict_here rel c
    refine ⟨.ref p, h1, p, rfl, isD_of h2, tD_pk rel q fun d f1 y G GF r1 s1 t1 q1 => tD_dt r1 q1 fun d2 f2 z I IF r2 s2 dr2 q2 => ?_⟩
    cases c2 : keyGet t d with
    | none =>
      simp only [c2] at q2
      exact (show False from q2).elim
    | some o2 =>
      simp only [c2] at q2
      obtain ⟨r, g1, g2⟩ := get_read r2.sub (dict_now r2 c h1) (t1.step s2) c2
      refine ⟨r, g1, ?_⟩
      rcases g2 with ⟨rfl, rfl⟩ | ⟨c3, v, rfl, rfl, dr⟩
      · exact (show Fin X.K g σ H HF Q (.dat d2) f2 from q2) z I IF (s1.trans r1.feed s2) r2.feed dr2
      · exact (show Fin X.K g σ H HF Q (.dat c3) f2 from q2) v I IF (s1.trans r1.feed s2) r2.feed dr
theorem de_dvals (hc : X.calm = true) (hg : Gl X "list") (hm : X.mg "list" = none) (ho : PE X o (tVar i)) (hbase : attributeBase o "values" X.env (eval o X.env) = eval o X.env := by rfl) (hline : (apos.endLine == mpos.line) = true := by rfl)
    (na : starEach [Expr.Call (.Attribute o "values" apos) [] [] mpos] X.env = (false, eval (Expr.Call (.Attribute o "values" apos) [] [] mpos) X.env) :: starEach [] X.env := by rfl) :
    DE X W (.Call (.Name "list" p) [.Call (.Attribute o "values" apos) [] [] mpos] [] pos) (cDVals i) :=
  pe_mono (pe_listVals hc hg hm ho hbase hline na) fun σ H Q ⟨g, HF, ρ, f, rel, q⟩ => by
  unfold cDVals at q
  cases c : dictAt ρ i with
  | none =>
    simp only [c] at q
    exact (show False from q).elim
  | some t =>
    simp only [c] at q
    obtain ⟨p, h1, h2⟩ := dict_here rel c
    obtain ⟨rv, z, k⟩ := give_end (x := some (RV.own t.vals)) rel.feed (Step.refl rel.sub) q
    cases z
    cases t with
    | I kvs =>
      obtain ⟨xs, h3, h4⟩ := h2
      exact ⟨.ref p, h1, p, _, rfl, .inl ⟨xs, h3, rfl⟩, fun r hr => k.newL ⟨rel.sub, rel.feed⟩ (pair_vals h4) r hr⟩
    | T kvs =>
      obtain ⟨xs, h3, h4⟩ := h2
      exact ⟨.ref p, h1, p, _, rfl, .inr ⟨xs, h3, rfl⟩, fun r hr => k.newL ⟨rel.sub, rel.feed⟩ (pair_vals h4) r hr⟩
theorem de_dsort (hc : X.calm = true) (hu : X.A.units + 64 < cLine) (hg : Gl X "sorted") (hm : X.mg "sorted" = none) (ho : PE X o (tVar i)) (he : starEach [o] X.env = (false, eval o X.env) :: starEach [] X.env := by rfl) : DE X W (.Call (.Name "sorted" p) [o] [] pos) (cDSort i) :=
  pe_mono (pe_callB (cr_sortDT hc hu) hg hm (by decide +kernel) (pa_cons ho pa_nil he) (by decide) (by decide) he rfl) fun σ H Q ⟨g, HF, ρ, f, rel, q⟩ => by
  unfold cDSort at q
  cases c : dictAt ρ i with
  | none =>
    simp only [c] at q
    exact (show False from q).elim
  | some t =>
    cases t with
    | I kvs =>
      simp only [c] at q
      exact (show False from q).elim
    | T kvs =>
      simp only [c] at q
      by_cases c2 : kvs.length ≤ 100000
      · rw [if_pos c2] at q
        obtain ⟨p, h1, h2⟩ := dict_here rel c
        obtain ⟨xs, h3, h4⟩ := h2
        refine ⟨.ref p, h1, ?_⟩
        refine ⟨p, xs, kvs.map (·.1), rfl, h3, by rw [pair_keys h4, List.map_map]; rfl, by rw [List.length_map]; exact c2, fun ys ls r z1 z2 z3 z4 => ?_⟩
        obtain ⟨GF, s2, f2, d2⟩ := frz_tups ⟨rel.sub, rel.feed⟩ z1
        obtain ⟨rv, z, k⟩ := give_end (x := some (RV.own ((sortL (kvs.map (·.1))).map tupI))) rel.feed (Step.refl rel.sub) q
        cases z
        have k2 : Ends1 X.K g H GF f (.own ((sortL (kvs.map (·.1))).map tupI)) Q := fun v G IF s h rr => k v G IF (s2.trans f2 s) h rr
        rw [sortL_is z3 z2] at k2
        exact k2.newL ⟨s2.sub, f2⟩ d2 r z4
      · rw [if_neg c2] at q
        exact (show False from q).elim
theorem de_dkeys (hc : X.calm = true) (hg : Gl X "list") (hm : X.mg "list" = none) (ho : PE X o (tVar i)) (he : starEach [o] X.env = (false, eval o X.env) :: starEach [] X.env := by rfl) : DE X W (.Call (.Name "list" p) [o] [] pos) (cDKeys i) :=
  pe_mono (pe_callTy (call_list_dK hc) hg hm (by decide +kernel) (pa_cons ho pa_nil he) (by decide) (by decide) he rfl) fun σ H Q ⟨g, HF, ρ, f, rel, q⟩ => by
  unfold cDKeys at q
  cases c : dictAt ρ i with
  | none =>
    simp only [c] at q
    exact (show False from q).elim
  | some t =>
    cases t with
    | T kvs =>
      simp only [c] at q
      exact (show False from q).elim
    | I kvs =>
      simp only [c] at q
      obtain ⟨p, h1, h2⟩ := dict_here rel c
      obtain ⟨xs, h3, h4⟩ := h2
      obtain ⟨rv, z, k⟩ := give_end (x := some (RV.own (kvs.map fun q => .int q.1))) rel.feed (Step.refl rel.sub) q
      cases z
      refine ⟨.ref p, h1, p, xs, rfl, h3, fun r hr => k.newL ⟨rel.sub, rel.feed⟩ ?_ r hr⟩
      have e : (xs.map fun kv => kV kv.1) = (kvs.map (·.1)).map V.int := by
        have := congrArg (List.map kV) (pair_keys h4)
        rw [List.map_map, List.map_map] at this
        rw [List.map_map]
        exact this
      rw [e]
      have := DRs.ints (K := X.K) (H := HF) (kvs.map (·.1))
      rw [List.map_map (g := PyData.int)] at this
      exact this
end
end Dn

end
section
set_option maxHeartbeats 4000000
/-! what growing dicts do, for simp -/
namespace Dn
open PySem PySem.Spec L2
section
variable {α β : Type} {ρ : Rho} {f : Feed} {i j : Nat} {x y : Ex} {kx : Kx}
@[simp] theorem e_dctT : sDct true i ρ f = .ok (.nx (ρ.set i (.dct (.T [])))) f := nr rfl
@[simp] theorem e_dctI : sDct false i ρ f = .ok (.nx (ρ.set i (.dct (.I [])))) f := nr rfl
@[simp] theorem e_key : sKey i kx ρ f = (kx ρ f).bind fun ks f1 => .ok (.nx (ρ.set i (.key ks))) f1 := nr rfl
@[simp] theorem e_kVar : kVar i ρ f = match ρ[i]? with
  | some (.key ks) => .ok ks f
  | _ => .no := nr rfl
@[simp] theorem e_kTup {xs : List Ex} : kTup xs ρ f = (cArgs xs ρ f).bind fun ds f1 => match intsOf ds with
  | some ks => if ks.length ≤ 1000 then .ok ks f1 else .no
  | none => .no := nr rfl
@[simp] theorem e_dputI : sDputI i y x ρ f = match ρ[i]? with
  | some (.dct (.I kvs)) => dt (x ρ f) fun d f1 => pk (y ρ f1) fun k f2 => match k with
    | .int n => if kvs.length < 100000 then .ok (.nx (ρ.set i (.dct (.I (setK kvs n d))))) f2 else .no
    | _ => .no
  | _ => .no := nr rfl
@[simp] theorem e_dputT : sDputT i kx x ρ f = match ρ[i]? with
  | some (.dct (.T kvs)) => dt (x ρ f) fun d f1 => (kx ρ f1).bind fun ks f2 => if kvs.length < 100000 then .ok (.nx (ρ.set i (.dct (.T (setK kvs ks d))))) f2 else .no
  | _ => .no := nr rfl
@[simp] theorem e_dictAt : dictAt ρ i = match ρ[i]? with
  | some (.dct k) => some k
  | some (.dat (.dict ks)) => (intKeys ks).map Dk.I
  | _ => none := nr rfl
@[simp] theorem intKeys_mapS {kvs : List (Int × PyData)} : intKeys (kvs.map fun q => (.int q.1, q.2)) = some kvs := intKeys_map kvs
@[simp] theorem e_dget : cDGet i x ρ f = match dictAt ρ i with
  | some t => pk (x ρ f) fun k f1 => match keyGet t k with
    | some (some d) => .ok (.dat d) f1
    | _ => .no
  | none => .no := nr rfl
@[simp] theorem e_dget2 : cDGet2 i x y ρ f = match dictAt ρ i with
  | some t => pk (x ρ f) fun k f1 => dt (y ρ f1) fun d f2 => match keyGet t k with
    | some o => .ok (.dat (o.getD d)) f2
    | none => .no
  | none => .no := nr rfl
@[simp] theorem keyGetI {kvs : List (Int × PyData)} {n : Int} : keyGet (.I kvs) (.int n) = some (getK kvs n) := nr rfl
@[simp] theorem keyGetT {kvs : List (List Int × PyData)} {ds : List PyData} : keyGet (.T kvs) (.tuple ds) = (intsOf ds).map (getK kvs) := nr rfl
@[simp] theorem intsOf_nil : intsOf [] = some [] := nr rfl
@[simp] theorem intsOf_cons {n : Int} {r : List PyData} : intsOf (.int n :: r) = (intsOf r).map (n :: ·) := by
  cases h : intsOf r <;> simp [intsOf, h]
@[simp] theorem e_dvals : cDVals i ρ f = match dictAt ρ i with
  | some t => .ok (.own t.vals) f
  | none => .no := nr rfl
@[simp] theorem valsI {kvs : List (Int × PyData)} : Dk.vals (.I kvs) = kvs.map (·.2) := nr rfl
@[simp] theorem valsT {kvs : List (List Int × PyData)} : Dk.vals (.T kvs) = kvs.map (·.2) := nr rfl
@[simp] theorem e_dkeys : cDKeys i ρ f = match dictAt ρ i with
  | some (.I kvs) => .ok (.own (kvs.map fun q => .int q.1)) f
  | _ => .no := nr rfl
@[simp] theorem e_dsort : cDSort i ρ f = match dictAt ρ i with
  | some (.T kvs) => if kvs.length ≤ 100000 then .ok (.own ((sortL (kvs.map (·.1))).map tupI)) f else .no
  | _ => .no := nr rfl
@[simp] theorem e_frzD : sFrzD i ρ f = match ρ[i]? with
  | some (.dct (.I kvs)) => .ok (.nx (ρ.set i (.dat (.dict (kvs.map fun q => (.int q.1, q.2)))))) f
  | _ => .ok (.nx ρ) f := nr rfl
end
section
variable {κ : Type} [DecidableEq κ]
theorem setK_get (kvs : List (κ × PyData)) (k j : κ) (d : PyData) : getK (setK kvs k d) j = if k = j then some d else getK kvs j := by
  unfold setK
  by_cases c : (kvs.any fun p => decide (p.1 = k)) = true
  · rw [if_pos c]
    induction kvs with
    | nil => simp at c
    | cons p r ih =>
      rw [List.map_cons, getK_cons]
      by_cases e : p.1 = k
      · simp only [e, if_true]
        by_cases e2 : k = j
        · rw [if_pos e2, if_pos e2]
        · rw [if_neg e2, if_neg e2, getK_cons, if_neg (by rw [e]; exact e2)]
          by_cases c2 : (r.any fun p => decide (p.1 = k)) = true
          · rw [ih c2, if_neg e2]
          · congr 1
            have : r.map (fun p => if p.1 = k then (p.1, d) else p) = r.map id := List.map_congr_left fun q hq => by
              have : ¬ q.1 = k := fun z => c2 (List.any_eq_true.mpr ⟨q, hq, decide_eq_true z⟩)
              rw [if_neg this]
              rfl
            rw [this, List.map_id]
      · simp only [e, if_false]
        rw [getK_cons]
        by_cases e3 : p.1 = j
        · rw [if_pos e3, if_pos e3, if_neg (fun z => e (e3.trans z.symm))]
        · rw [if_neg e3, if_neg e3]
          refine ih ?_
          rw [List.any_cons] at c
          simpa [e] using c
  · rw [if_neg c]
    induction kvs with
    | nil => rw [List.nil_append, getK_cons, getK_nil]
    | cons p r ih =>
      rw [List.any_cons] at c
      simp only [Bool.or_eq_true, not_or, decide_eq_true_eq] at c
      rw [List.cons_append, getK_cons, getK_cons]
      by_cases e3 : p.1 = j
      · rw [if_pos e3, if_pos e3, if_neg (fun z => c.1 (e3.trans z.symm))]
      · rw [if_neg e3, if_neg e3]
        exact ih c.2
theorem setK_keys (kvs : List (κ × PyData)) (k : κ) (d : PyData) : (setK kvs k d).map (·.1) = if k ∈ kvs.map (·.1) then kvs.map (·.1) else kvs.map (·.1) ++ [k] := by
  unfold setK
  have e : (kvs.any fun p => decide (p.1 = k)) = true ↔ k ∈ kvs.map (·.1) := by
    rw [List.any_eq_true, List.mem_map]
    constructor
    · rintro ⟨p, h1, h2⟩
      exact ⟨p, h1, of_decide_eq_true h2⟩
    · rintro ⟨p, h1, h2⟩
      exact ⟨p, h1, decide_eq_true h2⟩
  by_cases c : k ∈ kvs.map (·.1)
  · rw [if_pos (e.mpr c), if_pos c, List.map_map]
    refine List.map_congr_left fun q _ => ?_
    show (if q.1 = k then (q.1, d) else q).1 = q.1
    split <;> rfl
  · rw [if_neg (fun z => c (e.mp z)), if_neg c, List.map_append]
    rfl
theorem setK_nodup {kvs : List (κ × PyData)} (k : κ) (d : PyData) (h : (kvs.map (·.1)).Nodup) : ((setK kvs k d).map (·.1)).Nodup := by
  rw [setK_keys]
  split
  · exact h
  · rename_i c
    exact List.nodup_append.mpr ⟨h, by simp, fun a ha b hb => by
      rw [List.mem_singleton] at hb
      subst hb
      exact fun z => c (z ▸ ha)⟩
theorem setK_mem {kvs : List (κ × PyData)} {k : κ} {d : PyData} {p : κ × PyData} (h : p ∈ setK kvs k d) : p ∈ kvs ∨ p = (k, d) := by
  unfold setK at h
  split at h
  · obtain ⟨q, hq, e⟩ := List.mem_map.mp h
    split at e
    · rename_i c
      exact .inr (by rw [← e, c])
    · exact .inl (e ▸ hq)
  · rcases List.mem_append.mp h with h | h
    · exact .inl h
    · exact .inr (List.mem_singleton.mp h)
theorem getK_mem {kvs : List (κ × PyData)} {k : κ} {d : PyData} (h : getK kvs k = some d) : (k, d) ∈ kvs := by
  induction kvs with
  | nil => cases h
  | cons p r ih =>
    rw [getK_cons] at h
    split at h
    · rename_i e
      cases h
      rw [← e]
      exact List.mem_cons_self
    · exact List.mem_cons_of_mem _ (ih h)
theorem getK_of_mem {kvs : List (κ × PyData)} {p : κ × PyData} (n : (kvs.map (·.1)).Nodup) (h : p ∈ kvs) : getK kvs p.1 = some p.2 := by
  induction kvs with
  | nil => cases h
  | cons q r ih =>
    rw [List.map_cons, List.nodup_cons] at n
    rw [getK_cons]
    rcases List.mem_cons.mp h with e | h
    · rw [e, if_pos rfl]
    · have : ¬ q.1 = p.1 := fun z => n.1 (by rw [z]; exact List.mem_map_of_mem h)
      rw [if_neg this]
      exact ih n.2 h
end
end Dn

end
namespace Fp
open PySem PySem.Spec L2 Dn

abbrev d_NOUGHT : PyData := .tuple [(.int 0), (.int 1)]
abbrev d_ONE : PyData := .tuple [(.int 1), (.int 1)]
abbrev d_LONGEST : PyData := .int 6
/-- _law_draw(_law_feed_here, _law_many); slots: 0 _law_feed_here, 1 _law_many, 2 _law_turn, 3 _law_digit, 4 _law_at, 5 _law_cells, 6 _law_cell, 7 _law_mixed -/
noncomputable def S_q_draw : Sm := sSeq (sSet 2 (cBin oAdd (cFeed "turn" (cVar 0)) (cC (.int 1)))) (sSeq (sFeed "turn" (cVar 0) (cVar 2)) (sSeq (sIf (cT (cBin oGt (cFeed "left" (cVar 0)) (cC (.int 0)))) (sSeq (sSet 3 (cBin oMod (cFeed "left" (cVar 0)) (cVar 1))) (sSeq (sFeed "left" (cVar 0) (cBin oDiv (cFeed "left" (cVar 0)) (cVar 1))) (sRet (cVar 3)))) (sNext)) (sSeq (sPar 4 5 (cFeed "at" (cVar 0)) (cFeed "cells" (cVar 0))) (sSeq (sFeed "at" (cVar 0) (cBin oAdd (cVar 4) (cC (.int 1)))) (sSeq (sSet 6 (cIf (cT (cBin oNe (cVar 5) (cLst []))) (cBin oIx (cVar 5) (cBin oMod (cVar 4) (cUn oLen (cVar 5)))) (cC (.int 0)))) (sSeq (sIf (tAndX (cT (cBin oGe (cVar 6) (cBin oPow (cC (.int 10)) (cC (.int 18))))) (cT (cBin oLt (cVar 4) (cUn oLen (cVar 5))))) (sSeq (sFeed "left" (cVar 0) (cBin oDiv (cVar 6) (cVar 1))) (sRet (cBin oMod (cVar 6) (cVar 1)))) (sNext)) (sSeq (sSet 7 (cBin oMod (cBin oPow (cBin oAdd (cBin oMod (cVar 6) (cC (.int 999983))) (cBin oMul (cC (.int 7919)) (cVar 2))) (cC (.int 5))) (cC (.int 2305843009213693951)))) (sRet (cBin oMod (cBin oDiv (cBin oMod (cBin oMul (cVar 7) (cBin oAdd (cBin oMul (cC (.int 2)) (cVar 2)) (cC (.int 104729)))) (cC (.int 2147483629))) (cC (.int 64))) (cVar 1))))))))))
noncomputable def F_q_draw : Dn.Fn := dBody 8 S_q_draw
theorem u_q_draw {a0 a1 : RV} {f : Feed} : F_q_draw [a0, a1] f = dEnd (S_q_draw [fnSlot a0, fnSlot a1, .emp, .emp, .emp, .emp, .emp, .emp] f) := rfl
/-- _law_low(_law_top, _law_bottom); slots: 0 _law_top, 1 _law_bottom, 2 _law_one, 3 _law_other -/
noncomputable def S_q_low : Sm := sSeq (sPar 2 3 (cUn oAbs (cVar 0)) (cVar 1)) (sSeq (sWhile (cT (cBin oGt (cVar 3) (cC (.int 0)))) (sPar 2 3 (cVar 3) (cBin oMod (cVar 2) (cVar 3)))) (sRet (cTup [cBin oDiv (cVar 0) (cVar 2), cBin oDiv (cVar 1) (cVar 2)])))
noncomputable def F_q_low : Dn.Fn := dBody 4 S_q_low
theorem u_q_low {a0 a1 : RV} {f : Feed} : F_q_low [a0, a1] f = dEnd (S_q_low [fnSlot a0, fnSlot a1, .emp, .emp] f) := rfl
/-- common(one, other); slots: 0 one, 1 other -/
noncomputable def S_common : Sm := sSeq (sWhile (cT (cBin oNe (cVar 1) (cC (.int 0)))) (sPar 0 1 (cVar 1) (cBin oMod (cVar 0) (cVar 1)))) (sRet (cVar 0))
noncomputable def F_common : Dn.Fn := dBody 2 S_common
theorem u_common {a0 a1 : RV} {f : Feed} : F_common [a0, a1] f = dEnd (S_common [fnSlot a0, fnSlot a1] f) := rfl
/-- ratio(top, bottom); slots: 0 top, 1 bottom, 2 sign, 3 part -/
noncomputable def S_ratio : Sm := sSeq (sIf (cT (cBin oEq (cVar 1) (cC (.int 0)))) (sNo) (sNext)) (sSeq (sSet 2 (cIf (cT (cBin oLt (cVar 1) (cC (.int 0)))) (cUn oNeg (cC (.int 1))) (cC (.int 1)))) (sSeq (sSet 3 (cCall F_common [cUn oAbs (cVar 0), cUn oAbs (cVar 1)])) (sRet (cTup [cBin oDiv (cBin oMul (cVar 2) (cVar 0)) (cVar 3), cBin oDiv (cBin oMul (cVar 2) (cVar 1)) (cVar 3)]))))
noncomputable def F_ratio : Dn.Fn := dBody 4 S_ratio
theorem u_ratio {a0 a1 : RV} {f : Feed} : F_ratio [a0, a1] f = dEnd (S_ratio [fnSlot a0, fnSlot a1, .emp, .emp] f) := rfl
/-- plus(one, other); slots: 0 one, 1 other -/
noncomputable def S_plus : Sm := sRet (cCall F_ratio [cBin oAdd (cBin oMul (cBin oIx (cVar 0) (cC (.int 0))) (cBin oIx (cVar 1) (cC (.int 1)))) (cBin oMul (cBin oIx (cVar 1) (cC (.int 0))) (cBin oIx (cVar 0) (cC (.int 1)))), cBin oMul (cBin oIx (cVar 0) (cC (.int 1))) (cBin oIx (cVar 1) (cC (.int 1)))])
noncomputable def F_plus : Dn.Fn := dBody 2 S_plus
theorem u_plus {a0 a1 : RV} {f : Feed} : F_plus [a0, a1] f = dEnd (S_plus [fnSlot a0, fnSlot a1] f) := rfl
/-- minus(one, other); slots: 0 one, 1 other -/
noncomputable def S_minus : Sm := sRet (cCall F_ratio [cBin oSub (cBin oMul (cBin oIx (cVar 0) (cC (.int 0))) (cBin oIx (cVar 1) (cC (.int 1)))) (cBin oMul (cBin oIx (cVar 1) (cC (.int 0))) (cBin oIx (cVar 0) (cC (.int 1)))), cBin oMul (cBin oIx (cVar 0) (cC (.int 1))) (cBin oIx (cVar 1) (cC (.int 1)))])
noncomputable def F_minus : Dn.Fn := dBody 2 S_minus
theorem u_minus {a0 a1 : RV} {f : Feed} : F_minus [a0, a1] f = dEnd (S_minus [fnSlot a0, fnSlot a1] f) := rfl
/-- times(one, other); slots: 0 one, 1 other -/
noncomputable def S_times : Sm := sRet (cCall F_ratio [cBin oMul (cBin oIx (cVar 0) (cC (.int 0))) (cBin oIx (cVar 1) (cC (.int 0))), cBin oMul (cBin oIx (cVar 0) (cC (.int 1))) (cBin oIx (cVar 1) (cC (.int 1)))])
noncomputable def F_times : Dn.Fn := dBody 2 S_times
theorem u_times {a0 a1 : RV} {f : Feed} : F_times [a0, a1] f = dEnd (S_times [fnSlot a0, fnSlot a1] f) := rfl
/-- is_below(one, other); slots: 0 one, 1 other -/
noncomputable def S_is_below : Sm := sRet (cBin oLt (cBin oMul (cBin oIx (cVar 0) (cC (.int 0))) (cBin oIx (cVar 1) (cC (.int 1)))) (cBin oMul (cBin oIx (cVar 1) (cC (.int 0))) (cBin oIx (cVar 0) (cC (.int 1)))))
noncomputable def F_is_below : Dn.Fn := dBody 2 S_is_below
theorem u_is_below {a0 a1 : RV} {f : Feed} : F_is_below [a0, a1] f = dEnd (S_is_below [fnSlot a0, fnSlot a1] f) := rfl
/-- chance_at(life, k); slots: 0 life, 1 k, 2 row, 3 step, 4 found, 5 turn -/
noncomputable def S_chance_at : Sm := sSeq (sAsg (.many [2, 3]) (cVar 0)) (sSeq (sIf (cT (cBin oLeA (cVar 1) (cUn oLen (cVar 2)))) (sRet (cBin oIx (cVar 2) (cBin oSub (cVar 1) (cC (.int 1))))) (sNext)) (sSeq (sIf (cT (cBin oEq (cVar 3) (cC d_NOUGHT))) (sRet (cC d_NOUGHT)) (sNext)) (sSeq (sSet 4 (cBin oIx (cVar 2) (cUn oNeg (cC (.int 1))))) (sSeq (sFor (iRange1 (cBin oSub (cVar 1) (cUn oLen (cVar 2)))) (.one 5) (sSet 4 (cCall F_times [cVar 4, cVar 3]))) (sRet (cVar 4))))))
noncomputable def F_chance_at : Dn.Fn := dBody 6 S_chance_at
theorem u_chance_at {a0 a1 : RV} {f : Feed} : F_chance_at [a0, a1] f = dEnd (S_chance_at [fnSlot a0, fnSlot a1, .emp, .emp, .emp, .emp] f) := rfl
/-- summed(some); slots: 0 some, 1 found, 2 one -/
noncomputable def S_summed : Sm := sSeq (sSet 1 (cC d_NOUGHT)) (sSeq (sFor (iSeq (cVar 0)) (.one 2) (sSet 1 (cCall F_plus [cVar 1, cVar 2]))) (sRet (cVar 1)))
noncomputable def F_summed : Dn.Fn := dBody 3 S_summed
theorem u_summed {a0 : RV} {f : Feed} : F_summed [a0] f = dEnd (S_summed [fnSlot a0, .emp, .emp] f) := rfl
/-- chances_to(life, most); slots: 0 life, 1 most, 2 k -/
noncomputable def S_chances_to : Sm := sRet (cLc (iRange2 (cC (.int 1)) (cBin oAdd (cVar 1) (cC (.int 1)))) (.one 2) (cYes) (cCall F_chance_at [cVar 0, cVar 2]) [2])
noncomputable def F_chances_to : Dn.Fn := dBody 3 S_chances_to
theorem u_chances_to {a0 a1 : RV} {f : Feed} : F_chances_to [a0, a1] f = dEnd (S_chances_to [fnSlot a0, fnSlot a1, .emp] f) := rfl
/-- lasting(life, k); slots: 0 life, 1 k -/
noncomputable def S_lasting : Sm := sRet (cCall F_minus [cC d_ONE, cCall F_summed [cCall F_chances_to [cVar 0, cVar 1]]])
noncomputable def F_lasting : Dn.Fn := dBody 2 S_lasting
theorem u_lasting {a0 a1 : RV} {f : Feed} : F_lasting [a0, a1] f = dEnd (S_lasting [fnSlot a0, fnSlot a1] f) := rfl
/-- over(one, other); slots: 0 one, 1 other -/
noncomputable def S_over : Sm := sRet (cCall F_ratio [cBin oMul (cBin oIx (cVar 0) (cC (.int 0))) (cBin oIx (cVar 1) (cC (.int 1))), cBin oMul (cBin oIx (cVar 0) (cC (.int 1))) (cBin oIx (cVar 1) (cC (.int 0)))])
noncomputable def F_over : Dn.Fn := dBody 2 S_over
theorem u_over {a0 a1 : RV} {f : Feed} : F_over [a0, a1] f = dEnd (S_over [fnSlot a0, fnSlot a1] f) := rfl
/-- chances_added(life); slots: 0 life, 1 row, 2 step, 3 found -/
noncomputable def S_chances_added : Sm := sSeq (sAsg (.many [1, 2]) (cVar 0)) (sSeq (sSet 3 (cCall F_summed [cVar 1])) (sSeq (sIf (cT (cBin oEq (cVar 2) (cC d_NOUGHT))) (sRet (cVar 3)) (sNext)) (sRet (cCall F_plus [cVar 3, cCall F_over [cCall F_times [cBin oIx (cVar 1) (cUn oNeg (cC (.int 1))), cVar 2], cCall F_minus [cC d_ONE, cVar 2]]]))))
noncomputable def F_chances_added : Dn.Fn := dBody 4 S_chances_added
theorem u_chances_added {a0 : RV} {f : Feed} : F_chances_added [a0] f = dEnd (S_chances_added [fnSlot a0, .emp, .emp, .emp] f) := rfl
/-- miss(life); slots: 0 life -/
noncomputable def S_miss : Sm := sRet (cCall F_minus [cC d_ONE, cCall F_chances_added [cVar 0]])
noncomputable def F_miss : Dn.Fn := dBody 1 S_miss
theorem u_miss {a0 : RV} {f : Feed} : F_miss [a0] f = dEnd (S_miss [fnSlot a0] f) := rfl
/-- _law_sum(_law_some); slots: 0 _law_some, 1 _law_found, 2 _law_one -/
noncomputable def S_q_sum : Sm := sSeq (sSet 1 (cTup [cC (.int 0), cC (.int 1)])) (sSeq (sFor (iSeq (cVar 0)) (.one 2) (sSet 1 (cCall F_q_low [cBin oAdd (cBin oMul (cBin oIx (cVar 1) (cC (.int 0))) (cBin oIx (cVar 2) (cC (.int 1)))) (cBin oMul (cBin oIx (cVar 2) (cC (.int 0))) (cBin oIx (cVar 1) (cC (.int 1)))), cBin oMul (cBin oIx (cVar 1) (cC (.int 1))) (cBin oIx (cVar 2) (cC (.int 1)))]))) (sRet (cVar 1)))
noncomputable def F_q_sum : Dn.Fn := dBody 3 S_q_sum
theorem u_q_sum {a0 : RV} {f : Feed} : F_q_sum [a0] f = dEnd (S_q_sum [fnSlot a0, .emp, .emp] f) := rfl
/-- _law_less(_law_one, _law_other); slots: 0 _law_one, 1 _law_other -/
noncomputable def S_q_less : Sm := sRet (cCall F_q_low [cBin oSub (cBin oMul (cBin oIx (cVar 0) (cC (.int 0))) (cBin oIx (cVar 1) (cC (.int 1)))) (cBin oMul (cBin oIx (cVar 1) (cC (.int 0))) (cBin oIx (cVar 0) (cC (.int 1)))), cBin oMul (cBin oIx (cVar 0) (cC (.int 1))) (cBin oIx (cVar 1) (cC (.int 1)))])
noncomputable def F_q_less : Dn.Fn := dBody 2 S_q_less
theorem u_q_less {a0 a1 : RV} {f : Feed} : F_q_less [a0, a1] f = dEnd (S_q_less [fnSlot a0, fnSlot a1] f) := rfl
/-- _law_times(_law_one, _law_other); slots: 0 _law_one, 1 _law_other -/
noncomputable def S_q_times : Sm := sRet (cCall F_q_low [cBin oMul (cBin oIx (cVar 0) (cC (.int 0))) (cBin oIx (cVar 1) (cC (.int 0))), cBin oMul (cBin oIx (cVar 0) (cC (.int 1))) (cBin oIx (cVar 1) (cC (.int 1)))])
noncomputable def F_q_times : Dn.Fn := dBody 2 S_q_times
theorem u_q_times {a0 a1 : RV} {f : Feed} : F_q_times [a0, a1] f = dEnd (S_q_times [fnSlot a0, fnSlot a1] f) := rfl
/-- _law_life(_law_feed_here, _law_way); slots: 0 _law_feed_here, 1 _law_way, 2 _law_many, 3 _law_part, 4 _law_weights, 5 _law_top, 6 _law_bottom, 7 _law_extra, 8 _law_whole, 9 _law_k, 10 _law_weight -/
noncomputable def S_q_life : Sm := sSeq (sSet 2 (cBin oAdd (cC (.int 1)) (cCall F_q_draw [cVar 0, cBin oIx (cLst [cC (.int 3), cC (.int 6)]) (cCall F_q_draw [cVar 0, cC (.int 2)])]))) (sSeq (sSet 3 (cBin oAdd (cC (.int 2)) (cCall F_q_draw [cVar 0, cC (.int 2)]))) (sSeq (sIf (cT (cBin oEq (cVar 1) (cC (.int 5)))) (sSet 2 (cBin oMul (cVar 3) (cBin oAdd (cC (.int 1)) (cCall F_q_draw [cVar 0, cBin oDiv (cC (.int 6)) (cVar 3)])))) (sNext)) (sSeq (sSet 4 (cLc (iRange1 (cVar 2)) (.one 9) (cYes) (cCall F_q_draw [cVar 0, cC (.int 5)]) [9])) (sSeq (sAsg (.many [5, 6]) (cIf (cT (cBin (oInF false) (cVar 1) (cTup [cC (.int 3), cC (.int 4)]))) (cBin oIx (cLst [cTup [cC (.int 1), cC (.int 2)], cTup [cC (.int 1), cC (.int 3)], cTup [cC (.int 2), cC (.int 3)], cTup [cC (.int 3), cC (.int 4)]]) (cCall F_q_draw [cVar 0, cC (.int 4)])) (cTup [cC (.int 0), cC (.int 1)]))) (sSeq (sIf (cT (cBin oEq (cVar 1) (cC (.int 5)))) (sSet 4 (cLc (iRange1 (cVar 2)) (.one 9) (cYes) (cBin oMul (cBin oIx (cVar 4) (cVar 9)) (cUn oInt (cBin oEq (cBin oMod (cBin oAdd (cVar 9) (cC (.int 1))) (cVar 3)) (cC (.int 0))))) [9])) (sNext)) (sSeq (sPut 4 (cUn oNeg (cC (.int 1))) (cBin oAdd (cBin oIx (cVar 4) (cUn oNeg (cC (.int 1)))) (cC (.int 1)))) (sSeq (sFrz 4) (sSeq (sSet 7 (cIf (cT (cBin (oInF false) (cVar 1) (cTup [cC (.int 2), cC (.int 4)]))) (cBin oAdd (cC (.int 1)) (cCall F_q_draw [cVar 0, cC (.int 8)])) (cC (.int 0)))) (sSeq (sSet 8 (cBin oAdd (cBin oMul (cBin oSub (cVar 6) (cVar 5)) (cBin oAdd (cUn oSum (cVar 4)) (cVar 7))) (cBin oMul (cVar 5) (cBin oIx (cVar 4) (cUn oNeg (cC (.int 1))))))) (sRet (cTup [cUn oTuple (cLc (iSeq (cVar 4)) (.one 10) (cYes) (cCall F_q_low [cBin oMul (cBin oSub (cVar 6) (cVar 5)) (cVar 10), cVar 8]) [10]), cTup [cVar 5, cVar 6]])))))))))))
noncomputable def F_q_life : Dn.Fn := dBody 11 S_q_life
theorem u_q_life {a0 a1 : RV} {f : Feed} : F_q_life [a0, a1] f = dEnd (S_q_life [fnSlot a0, fnSlot a1, .emp, .emp, .emp, .emp, .emp, .emp, .emp, .emp, .emp] f) := rfl
/-- _law_any_life(_law_feed_here); slots: 0 _law_feed_here, 1 _law_way, 2 _law_row, 3 _law_step, 4 _law_turn -/
noncomputable def S_q_any_life : Sm := sSeq (sSet 1 (cCall F_q_draw [cVar 0, cC (.int 8)])) (sSeq (sAsg (.many [2, 3]) (cCall F_q_life [cVar 0, cBin oMod (cVar 1) (cC (.int 6))])) (sSeq (sIf (cT (cBin oEq (cVar 1) (cC (.int 7)))) (sAsg (.many [2, 3]) (cTup [cTup [], cTup [cC (.int 0), cC (.int 1)]])) (sNext)) (sSeq (sSet 4 (cCall F_q_draw [cVar 0, cC (.int 4)])) (sSeq (sIf (tOrX (cT (cBin oGt (cVar 4) (cC (.int 1)))) (cT (cBin oGt (cUn oLen (cVar 2)) (cC (.int 5))))) (sRet (cTup [cVar 2, cVar 3])) (sNext)) (sSeq (sIf (cT (cBin oNe (cVar 3) (cTup [cC (.int 0), cC (.int 1)]))) (sRet (cTup [cBin oAdd (cVar 2) (cTup [cCall F_q_times [cBin oIx (cVar 2) (cUn oNeg (cC (.int 1))), cVar 3]]), cVar 3])) (sNext)) (sRet (cTup [cBin oAdd (cVar 2) (cTup [cTup [cC (.int 0), cC (.int 1)]]), cBin oIx (cLst [cTup [cC (.int 0), cC (.int 1)], cTup [cC (.int 1), cC (.int 3)]]) (cVar 4)])))))))
noncomputable def F_q_any_life : Dn.Fn := dBody 5 S_q_any_life
theorem u_q_any_life {a0 : RV} {f : Feed} : F_q_any_life [a0] f = dEnd (S_q_any_life [fnSlot a0, .emp, .emp, .emp, .emp] f) := rfl
/-- _law_chance(_law_life_here, _law_k); slots: 0 _law_life_here, 1 _law_k, 2 _law_row, 3 _law_step, 4 _law_far, 5 _law_top, 6 _law_bottom, 7 _law_turn -/
noncomputable def S_q_chance : Sm := sSeq (sAsg (.many [2, 3]) (cVar 0)) (sSeq (sIf (cT (cBin oLeA (cVar 1) (cUn oLen (cVar 2)))) (sRet (cBin oIx (cVar 2) (cBin oSub (cVar 1) (cC (.int 1))))) (sNext)) (sSeq (sIf (cT (cBin oEq (cVar 3) (cTup [cC (.int 0), cC (.int 1)]))) (sRet (cTup [cC (.int 0), cC (.int 1)])) (sNext)) (sSeq (sSet 4 (cBin oSub (cVar 1) (cUn oLen (cVar 2)))) (sSeq (sAsg (.many [5, 6]) (cBin oIx (cVar 2) (cUn oNeg (cC (.int 1))))) (sSeq (sFor (iRange1 (cVar 4)) (.one 7) (sPar 5 6 (cBin oMul (cVar 5) (cBin oIx (cVar 3) (cC (.int 0)))) (cBin oMul (cVar 6) (cBin oIx (cVar 3) (cC (.int 1)))))) (sRet (cCall F_q_low [cVar 5, cVar 6])))))))
noncomputable def F_q_chance : Dn.Fn := dBody 8 S_q_chance
theorem u_q_chance {a0 a1 : RV} {f : Feed} : F_q_chance [a0, a1] f = dEnd (S_q_chance [fnSlot a0, fnSlot a1, .emp, .emp, .emp, .emp, .emp, .emp] f) := rfl
/-- _law_power(_law_one, _law_far); slots: 0 _law_one, 1 _law_far, 2 _law_found, 3 _law_turn -/
noncomputable def S_q_power : Sm := sSeq (sSet 2 (cTup [cC (.int 1), cC (.int 1)])) (sSeq (sFor (iRange1 (cVar 1)) (.one 3) (sSet 2 (cCall F_q_times [cVar 2, cVar 0]))) (sRet (cVar 2)))
noncomputable def F_q_power : Dn.Fn := dBody 4 S_q_power
theorem u_q_power {a0 a1 : RV} {f : Feed} : F_q_power [a0, a1] f = dEnd (S_q_power [fnSlot a0, fnSlot a1, .emp, .emp] f) := rfl
/-- _law_rest(_law_life_here, _law_k); slots: 0 _law_life_here, 1 _law_k, 2 _law_row, 3 _law_step, 4 _law_found, 5 _law_first -/
noncomputable def S_q_rest : Sm := sSeq (sAsg (.many [2, 3]) (cVar 0)) (sSeq (sSet 4 (cCall F_q_sum [cSl (cVar 2) (some (cVar 1)) none])) (sSeq (sIf (tOrX (cT (cBin oEq (cVar 2) (cTup []))) (cT (cBin oEq (cVar 3) (cTup [cC (.int 0), cC (.int 1)])))) (sRet (cVar 4)) (sNext)) (sSeq (sSet 5 (cCall F_q_times [cBin oIx (cVar 2) (cUn oNeg (cC (.int 1))), cCall F_q_power [cVar 3, cBin oAdd (cC (.int 1)) (cBin oMax (cC (.int 0)) (cBin oSub (cVar 1) (cUn oLen (cVar 2))))]])) (sRet (cCall F_q_sum [cLst [cVar 4, cCall F_q_low [cBin oMul (cBin oIx (cVar 5) (cC (.int 0))) (cBin oIx (cVar 3) (cC (.int 1))), cBin oMul (cBin oIx (cVar 5) (cC (.int 1))) (cBin oSub (cBin oIx (cVar 3) (cC (.int 1))) (cBin oIx (cVar 3) (cC (.int 0))))]]])))))
noncomputable def F_q_rest : Dn.Fn := dBody 6 S_q_rest
theorem u_q_rest {a0 a1 : RV} {f : Feed} : F_q_rest [a0, a1] f = dEnd (S_q_rest [fnSlot a0, fnSlot a1, .emp, .emp, .emp, .emp] f) := rfl
/-- short(life); slots: 0 life, 1 row, 2 step -/
noncomputable def S_short : Sm := sSeq (sAsg (.many [1, 2]) (cVar 0)) (sSeq (sWhile (tAndX (cT (cBin oGt (cUn oLen (cVar 1)) (cC (.int 0)))) (cT (cBin oEq (cBin oIx (cVar 1) (cUn oNeg (cC (.int 1)))) (cC d_NOUGHT)))) (sPar 1 2 (cSl (cVar 1) none (some (cUn oNeg (cC (.int 1))))) (cC d_NOUGHT))) (sSeq (sIf (cT (cBin oEq (cVar 2) (cC d_NOUGHT))) (sRet (cTup [cVar 1, cVar 2])) (sNext)) (sSeq (sWhile (tAndX (cT (cBin oGt (cUn oLen (cVar 1)) (cC (.int 1)))) (cT (cBin oEq (cCall F_times [cBin oIx (cVar 1) (cUn oNeg (cC (.int 2))), cVar 2]) (cBin oIx (cVar 1) (cUn oNeg (cC (.int 1))))))) (sSet 1 (cSl (cVar 1) none (some (cUn oNeg (cC (.int 1))))))) (sRet (cTup [cVar 1, cVar 2])))))
noncomputable def F_short : Dn.Fn := dBody 3 S_short
theorem u_short {a0 : RV} {f : Feed} : F_short [a0] f = dEnd (S_short [fnSlot a0, .emp, .emp] f) := rfl
/-- behind_row(life, power); slots: 0 life, 1 power, 2 row, 3 step, 4 many, 5 rest, 6 once, 7 twice, 8 thrice, 9 found -/
noncomputable def S_behind_row : Sm := sSeq (sAsg (.many [2, 3]) (cVar 0)) (sSeq (sIf (cT (cBin oEq (cVar 3) (cC d_NOUGHT))) (sRet (cC d_NOUGHT)) (sNext)) (sSeq (sSet 4 (cTup [cUn oLen (cVar 2), cC (.int 1)])) (sSeq (sSet 5 (cCall F_minus [cC d_ONE, cVar 3])) (sSeq (sSet 6 (cCall F_over [cVar 3, cVar 5])) (sSeq (sSet 7 (cCall F_over [cVar 6, cVar 5])) (sSeq (sIf (cT (cBin oEq (cVar 1) (cC (.int 1)))) (sRet (cCall F_times [cBin oIx (cVar 2) (cUn oNeg (cC (.int 1))), cCall F_plus [cCall F_times [cVar 4, cVar 6], cVar 7]])) (sNext)) (sSeq (sSet 8 (cCall F_over [cCall F_times [cCall F_plus [cC d_ONE, cVar 3], cVar 7], cVar 5])) (sSeq (sSet 9 (cCall F_plus [cCall F_times [cCall F_times [cVar 4, cVar 4], cVar 6], cCall F_times [cCall F_times [cTup [cC (.int 2), cC (.int 1)], cVar 4], cVar 7]])) (sRet (cCall F_times [cBin oIx (cVar 2) (cUn oNeg (cC (.int 1))), cCall F_plus [cVar 9, cVar 8]]))))))))))
noncomputable def F_behind_row : Dn.Fn := dBody 10 S_behind_row
theorem u_behind_row {a0 a1 : RV} {f : Feed} : F_behind_row [a0, a1] f = dEnd (S_behind_row [fnSlot a0, fnSlot a1, .emp, .emp, .emp, .emp, .emp, .emp, .emp, .emp] f) := rfl
/-- mean(life); slots: 0 life, 1 own, 2 k, 3 chance -/
noncomputable def S_mean : Sm := sSeq (sIf (cT (cBin oNe (cCall F_miss [cVar 0]) (cC d_NOUGHT))) (sRet (cC .none)) (sNext)) (sSeq (sSet 1 (cCall F_summed [cLc (iEnum (cBin oIx (cVar 0) (cC (.int 0)))) (.many [2, 3]) (cYes) (cCall F_times [cTup [cBin oAdd (cVar 2) (cC (.int 1)), cC (.int 1)], cVar 3]) [2, 3]])) (sRet (cCall F_plus [cVar 1, cCall F_behind_row [cVar 0, cC (.int 1)]])))
noncomputable def F_mean : Dn.Fn := dBody 4 S_mean
theorem u_mean {a0 : RV} {f : Feed} : F_mean [a0] f = dEnd (S_mean [fnSlot a0, .emp, .emp, .emp] f) := rfl
/-- _law_most(_law_feed_here); slots: 0 _law_feed_here, 1 _law_way -/
noncomputable def S_q_most : Sm := sSeq (sSet 1 (cCall F_q_draw [cVar 0, cC (.int 8)])) (sRet (cIf (cT (cBin oGt (cVar 1) (cC (.int 0)))) (cCall F_q_draw [cVar 0, cC (.int 9)]) (cBin oAdd (cC (.int 12)) (cCall F_q_draw [cVar 0, cC (.int 9)]))))
noncomputable def F_q_most : Dn.Fn := dBody 2 S_q_most
theorem u_q_most {a0 : RV} {f : Feed} : F_q_most [a0] f = dEnd (S_q_most [fnSlot a0, .emp] f) := rfl
/-- anew(life, told); slots: 0 life, 1 told, 2 chances, 3 found, 4 n, 5 own, 6 k -/
noncomputable def S_anew : Sm := sSeq (sSet 2 (cCall F_chances_to [cVar 0, cUn oLen (cVar 1)])) (sSeq (sFrz 2) (sSeq (sSet 3 (cLst [])) (sSeq (sFor (iEnum (cVar 1)) (.many [4, 5]) (sApp 3 (cCall F_plus [cVar 5, cCall F_summed [cLc (iRange1 (cVar 4)) (.one 6) (cYes) (cCall F_times [cBin oIx (cVar 2) (cVar 6), cBin oIx (cVar 3) (cBin oSub (cBin oSub (cVar 4) (cC (.int 1))) (cVar 6))]) [6]]]))) (sSeq (sFrz 3) (sRet (cUn oTuple (cVar 3)))))))
noncomputable def F_anew : Dn.Fn := dBody 7 S_anew
theorem u_anew {a0 a1 : RV} {f : Feed} : F_anew [a0, a1] f = dEnd (S_anew [fnSlot a0, fnSlot a1, .emp, .emp, .emp, .emp, .emp] f) := rfl
/-- puts(life, most); slots: 0 life, 1 most -/
noncomputable def S_puts : Sm := sRet (cCall F_anew [cVar 0, cBin oAdd (cTup [cC d_ONE]) (cBin oMul (cTup [cC d_NOUGHT]) (cVar 1))])
noncomputable def F_puts : Dn.Fn := dBody 2 S_puts
theorem u_puts {a0 a1 : RV} {f : Feed} : F_puts [a0, a1] f = dEnd (S_puts [fnSlot a0, fnSlot a1] f) := rfl
/-- _law_by_parts(_law_life_here, _law_most_here); slots: 0 _law_life_here, 1 _law_most_here, 2 _law_chances, 3 _law_found, 4 _law_parts, 5 _law_here, 6 _law_more, 7 _law_n, 8 _law_k -/
noncomputable def S_q_by_parts : Sm := sSeq (sSet 2 (cLc (iRange2 (cC (.int 1)) (cBin oAdd (cVar 1) (cC (.int 1)))) (.one 8) (cYes) (cCall F_q_chance [cVar 0, cVar 8]) [8])) (sSeq (sFrz 2) (sSeq (sSet 3 (cLst [cBin oAdd (cLst [cTup [cC (.int 1), cC (.int 1)]]) (cBin oMul (cLst [cTup [cC (.int 0), cC (.int 1)]]) (cVar 1))])) (sSeq (sFor (iRange1 (cVar 1)) (.one 4) (sSeq (sSet 5 (cBin oIx (cVar 3) (cUn oNeg (cC (.int 1))))) (sSeq (sSet 6 (cBin oMul (cLst [cTup [cC (.int 0), cC (.int 1)]]) (cBin oAdd (cVar 1) (cC (.int 1))))) (sSeq (sFor (iRange1 (cVar 1)) (.one 7) (sIf (cT (cBin oNe (cBin oIx (cVar 5) (cVar 7)) (cTup [cC (.int 0), cC (.int 1)]))) (sFor (iRange2 (cC (.int 1)) (cBin oSub (cBin oAdd (cVar 1) (cC (.int 1))) (cVar 7))) (.one 8) (sIf (cT (cBin oNe (cBin oIx (cVar 2) (cBin oSub (cVar 8) (cC (.int 1)))) (cTup [cC (.int 0), cC (.int 1)]))) (sPut 6 (cBin oAdd (cVar 7) (cVar 8)) (cCall F_q_sum [cLst [cBin oIx (cVar 6) (cBin oAdd (cVar 7) (cVar 8)), cCall F_q_times [cBin oIx (cVar 5) (cVar 7), cBin oIx (cVar 2) (cBin oSub (cVar 8) (cC (.int 1)))]]])) (sNext))) (sNext))) (sSeq (sFrz 6) (sApp 3 (cVar 6))))))) (sRet (cVar 3)))))
noncomputable def F_q_by_parts : Dn.Fn := dBody 9 S_q_by_parts
theorem u_q_by_parts {a0 a1 : RV} {f : Feed} : F_q_by_parts [a0, a1] f = dEnd (S_q_by_parts [fnSlot a0, fnSlot a1, .emp, .emp, .emp, .emp, .emp, .emp, .emp] f) := rfl
/-- _law_puts(_law_life_here, _law_most_here); slots: 0 _law_life_here, 1 _law_most_here, 2 _law_some, 3 _law_n, 4 _law_here -/
noncomputable def S_q_puts : Sm := sSeq (sSet 2 (cCall F_q_by_parts [cVar 0, cVar 1])) (sSeq (sFrz 2) (sRet (cLc (iRange1 (cBin oAdd (cVar 1) (cC (.int 1)))) (.one 3) (cYes) (cCall F_q_sum [cLc (iSeq (cVar 2)) (.one 4) (cYes) (cBin oIx (cVar 4) (cVar 3)) [4]]) [3])))
noncomputable def F_q_puts : Dn.Fn := dBody 5 S_q_puts
theorem u_q_puts {a0 a1 : RV} {f : Feed} : F_q_puts [a0, a1] f = dEnd (S_q_puts [fnSlot a0, fnSlot a1, .emp, .emp, .emp] f) := rfl
/-- _law_all_ways(_law_life_here, _law_beat); slots: 0 _law_life_here, 1 _law_beat, 2 _law_found, 3 _law_n, 4 _law_here, 5 _law_k, 6 _law_own, 7 _law_way, 8 _law_one -/
noncomputable def S_q_all_ways : Sm := sSeq (sSet 2 (cLst [cLst [cTup [cTup [], cTup [cC (.int 1), cC (.int 1)]]]])) (sSeq (sFor (iRange2 (cC (.int 1)) (cBin oAdd (cVar 1) (cC (.int 1)))) (.one 3) (sSeq (sSet 4 (cLst [])) (sSeq (sFor (iRange2 (cC (.int 1)) (cBin oAdd (cVar 3) (cC (.int 1)))) (.one 5) (sSeq (sSet 6 (cCall F_q_chance [cVar 0, cVar 5])) (sIf (cT (cBin oNe (cVar 6) (cTup [cC (.int 0), cC (.int 1)]))) (sExt 4 (cLc (iSeq (cBin oIx (cVar 2) (cBin oSub (cVar 3) (cVar 5)))) (.many [7, 8]) (cYes) (cTup [cBin oAdd (cVar 7) (cTup [cVar 5]), cCall F_q_times [cVar 8, cVar 6]]) [7, 8])) (sNext)))) (sSeq (sFrz 4) (sApp 2 (cVar 4)))))) (sSeq (sFrz 2) (sRet (cBin oIx (cVar 2) (cVar 1)))))
noncomputable def F_q_all_ways : Dn.Fn := dBody 9 S_q_all_ways
theorem u_q_all_ways {a0 a1 : RV} {f : Feed} : F_q_all_ways [a0, a1] f = dEnd (S_q_all_ways [fnSlot a0, fnSlot a1, .emp, .emp, .emp, .emp, .emp, .emp, .emp] f) := rfl
/-- puts_after(first, life, most); slots: 0 first, 1 life, 2 most -/
noncomputable def S_puts_after : Sm := sRet (cCall F_anew [cVar 1, cBin oAdd (cTup [cC d_NOUGHT]) (cUn oTuple (cCall F_chances_to [cVar 0, cVar 2]))])
noncomputable def F_puts_after : Dn.Fn := dBody 3 S_puts_after
theorem u_puts_after {a0 a1 a2 : RV} {f : Feed} : F_puts_after [a0, a1, a2] f = dEnd (S_puts_after [fnSlot a0, fnSlot a1, fnSlot a2] f) := rfl
/-- next_puts(chances, here); slots: 0 chances, 1 here, 2 found, 3 n, 4 k -/
noncomputable def S_next_puts : Sm := sSeq (sSet 2 (cLst [])) (sSeq (sFor (iRange1 (cUn oLen (cVar 1))) (.one 3) (sApp 2 (cCall F_summed [cLc (iRange1 (cVar 3)) (.one 4) (cYes) (cCall F_times [cBin oIx (cVar 1) (cBin oSub (cBin oSub (cVar 3) (cC (.int 1))) (cVar 4)), cBin oIx (cVar 0) (cVar 4)]) [4]]))) (sRet (cVar 2)))
noncomputable def F_next_puts : Dn.Fn := dBody 5 S_next_puts
theorem u_next_puts {a0 a1 : RV} {f : Feed} : F_next_puts [a0, a1] f = dEnd (S_next_puts [fnSlot a0, fnSlot a1, .emp, .emp, .emp] f) := rfl
/-- counts(life, beat); slots: 0 life, 1 beat, 2 chances, 3 over_it, 4 here, 5 found, 6 j, 7 n, 8 chance, 9 stays -/
noncomputable def S_counts : Sm := sSeq (sSet 2 (cCall F_chances_to [cVar 0, cVar 1])) (sSeq (sFrz 2) (sSeq (sSet 3 (cLc (iRange1 (cBin oAdd (cVar 1) (cC (.int 1)))) (.one 7) (cYes) (cCall F_lasting [cVar 0, cBin oSub (cVar 1) (cVar 7)]) [7])) (sSeq (sFrz 3) (sSeq (sSet 4 (cBin oAdd (cLst [cC d_ONE]) (cBin oMul (cLst [cC d_NOUGHT]) (cVar 1)))) (sSeq (sFrz 4) (sSeq (sSet 5 (cLst [])) (sSeq (sFor (iRange1 (cBin oAdd (cVar 1) (cC (.int 1)))) (.one 6) (sSeq (sApp 5 (cCall F_summed [cLc (iZip (cVar 4) (cVar 3)) (.many [8, 9]) (cYes) (cCall F_times [cVar 8, cVar 9]) [8, 9]])) (sSeq (sSet 4 (cCall F_next_puts [cVar 2, cVar 4])) (sSeq (sFrz 4) (sNext))))) (sSeq (sFrz 5) (sRet (cUn oTuple (cVar 5)))))))))))
noncomputable def F_counts : Dn.Fn := dBody 10 S_counts
theorem u_counts {a0 a1 : RV} {f : Feed} : F_counts [a0, a1] f = dEnd (S_counts [fnSlot a0, fnSlot a1, .emp, .emp, .emp, .emp, .emp, .emp, .emp, .emp] f) := rfl
/-- many_by(life, beat); slots: 0 life, 1 beat -/
noncomputable def S_many_by : Sm := sRet (cCall F_summed [cSl (cCall F_puts [cVar 0, cVar 1]) (some (cC (.int 1))) none])
noncomputable def F_many_by : Dn.Fn := dBody 2 S_many_by
theorem u_many_by {a0 a1 : RV} {f : Feed} : F_many_by [a0, a1] f = dEnd (S_many_by [fnSlot a0, fnSlot a1] f) := rfl
/-- in_all(life); slots: 0 life, 1 lost -/
noncomputable def S_in_all : Sm := sSeq (sSet 1 (cCall F_miss [cVar 0])) (sRet (cIf (cT (cBin oEq (cVar 1) (cC d_NOUGHT))) (cC .none) (cCall F_over [cCall F_minus [cC d_ONE, cVar 1], cVar 1])))
noncomputable def F_in_all : Dn.Fn := dBody 2 S_in_all
theorem u_in_all {a0 : RV} {f : Feed} : F_in_all [a0] f = dEnd (S_in_all [fnSlot a0, .emp] f) := rfl
/-- _law_draw(_law_feed_here, _law_many); slots: 0 _law_feed_here, 1 _law_many, 2 _law_digit, 3 _law_spot, 4 _law_cell, 5 _law_mixed -/
noncomputable def S_q_draw_v2 : Sm := sSeq (sFeed "turn" (cVar 0) (cBin oAdd (cFeed "turn" (cVar 0)) (cC (.int 1)))) (sSeq (sIf (cT (cBin oGt (cFeed "left" (cVar 0)) (cC (.int 0)))) (sSeq (sSet 2 (cBin oMod (cFeed "left" (cVar 0)) (cVar 1))) (sSeq (sFeed "left" (cVar 0) (cBin oDiv (cFeed "left" (cVar 0)) (cVar 1))) (sRet (cVar 2)))) (sNext)) (sSeq (sSet 3 (cFeed "at" (cVar 0))) (sSeq (sFeed "at" (cVar 0) (cBin oAdd (cVar 3) (cC (.int 1)))) (sSeq (sSet 4 (cIf (cT (cBin oNe (cFeed "cells" (cVar 0)) (cLst []))) (cBin oIx (cFeed "cells" (cVar 0)) (cBin oMod (cVar 3) (cUn oLen (cFeed "cells" (cVar 0))))) (cC (.int 0)))) (sSeq (sIf (tAndX (cT (cBin oGe (cVar 4) (cBin oPow (cC (.int 10)) (cC (.int 18))))) (cT (cBin oLt (cVar 3) (cUn oLen (cFeed "cells" (cVar 0)))))) (sSeq (sFeed "left" (cVar 0) (cBin oDiv (cVar 4) (cVar 1))) (sRet (cBin oMod (cVar 4) (cVar 1)))) (sNext)) (sSeq (sSet 5 (cBin oMod (cBin oMul (cBin oAdd (cBin oMod (cVar 4) (cC (.int 1000003))) (cC (.int 8191))) (cBin oAdd (cBin oMul (cC (.int 104723)) (cFeed "turn" (cVar 0))) (cC (.int 57)))) (cC (.int 2147483629)))) (sSeq (sSet 5 (cBin oMod (cBin oMul (cBin oAdd (cBin oMod (cBin oPow (cVar 5) (cC (.int 5))) (cC (.int 2147483647))) (cBin oMul (cC (.int 613)) (cVar 3))) (cC (.int 48271))) (cC (.int 2147483587)))) (sRet (cBin oMod (cBin oDiv (cVar 5) (cC (.int 64))) (cVar 1))))))))))
noncomputable def F_q_draw_v2 : Dn.Fn := dBody 6 S_q_draw_v2
theorem u_q_draw_v2 {a0 a1 : RV} {f : Feed} : F_q_draw_v2 [a0, a1] f = dEnd (S_q_draw_v2 [fnSlot a0, fnSlot a1, .emp, .emp, .emp, .emp] f) := rfl
/-- share(life); slots: 0 life, 1 middle -/
noncomputable def S_share : Sm := sSeq (sSet 1 (cCall F_mean [cVar 0])) (sSeq (sIf (cT (cBin (oIsN false) (cVar 1) (cC .none))) (sRet (cTup [cC (.int 0), cC (.int 1)])) (sNext)) (sRet (cCall F_over [cTup [cC (.int 1), cC (.int 1)], cVar 1])))
noncomputable def F_share : Dn.Fn := dBody 2 S_share
theorem u_share {a0 : RV} {f : Feed} : F_share [a0] f = dEnd (S_share [fnSlot a0, .emp] f) := rfl
/-- is_whole(thing); slots: 0 thing -/
noncomputable def S_is_whole : Sm := sRet (cAnd (cUn (oIsi "int") (cVar 0)) (cUn cNot (cUn (oIsi "bool") (cVar 0))))
noncomputable def F_is_whole : Dn.Fn := dBody 1 S_is_whole
theorem u_is_whole {a0 : RV} {f : Feed} : F_is_whole [a0] f = dEnd (S_is_whole [fnSlot a0] f) := rfl
/-- is_ratio(thing); slots: 0 thing -/
noncomputable def S_is_ratio : Sm := sSeq (sIf (tOrX (tNotX (cT (cUn (oIsi "tuple") (cVar 0)))) (tOrX (cT (cBin oNe (cUn oLen (cVar 0)) (cC (.int 2)))) (tOrX (tNotX (cT (cCall F_is_whole [cBin oIx (cVar 0) (cC (.int 0))]))) (tNotX (cT (cCall F_is_whole [cBin oIx (cVar 0) (cC (.int 1))])))))) (sRet (cC (.bool false))) (sNext)) (sRet (cAnd (cBin oGe (cBin oIx (cVar 0) (cC (.int 1))) (cC (.int 1))) (cBin oEq (cCall F_common [cUn oAbs (cBin oIx (cVar 0) (cC (.int 0))), cBin oIx (cVar 0) (cC (.int 1))]) (cC (.int 1)))))
noncomputable def F_is_ratio : Dn.Fn := dBody 1 S_is_ratio
theorem u_is_ratio {a0 : RV} {f : Feed} : F_is_ratio [a0] f = dEnd (S_is_ratio [fnSlot a0] f) := rfl
/-- chain(kinds); slots: 0 kinds, 1 rows, 2 triples, 3 row, 4 stretch, 5 following, 6 chance, 7 triple -/
noncomputable def S_chain : Sm := sSeq (sSet 1 (cLst [])) (sSeq (sFor (iSeq (cVar 0)) (.one 2) (sSeq (sSet 3 (cLc (iSeq (cVar 0)) (.one 7) (cYes) (cC d_NOUGHT) [7])) (sSeq (sFor (iSeq (cVar 2)) (.many [4, 5, 6]) (sPut 3 (cVar 5) (cCall F_plus [cBin oIx (cVar 3) (cVar 5), cVar 6]))) (sSeq (sFrz 3) (sApp 1 (cUn oTuple (cVar 3))))))) (sSeq (sFrz 1) (sRet (cUn oTuple (cVar 1)))))
noncomputable def F_chain : Dn.Fn := dBody 8 S_chain
theorem u_chain {a0 : RV} {f : Feed} : F_chain [a0] f = dEnd (S_chain [fnSlot a0, .emp, .emp, .emp, .emp, .emp, .emp, .emp] f) := rfl
/-- kind_life(kinds, kind); slots: 0 kinds, 1 kind, 2 row, 3 stretch, 4 following, 5 chance, 6 k -/
noncomputable def S_kind_life : Sm := sSeq (sSet 2 (cLc (iRange1 (cC d_LONGEST)) (.one 6) (cYes) (cC d_NOUGHT) [6])) (sSeq (sFor (iSeq (cBin oIx (cVar 0) (cVar 1))) (.many [3, 4, 5]) (sPut 2 (cBin oSub (cVar 3) (cC (.int 1))) (cCall F_plus [cBin oIx (cVar 2) (cBin oSub (cVar 3) (cC (.int 1))), cVar 5]))) (sSeq (sFrz 2) (sRet (cCall F_short [cTup [cUn oTuple (cVar 2), cC d_NOUGHT]]))))
noncomputable def F_kind_life : Dn.Fn := dBody 7 S_kind_life
theorem u_kind_life {a0 a1 : RV} {f : Feed} : F_kind_life [a0, a1] f = dEnd (S_kind_life [fnSlot a0, fnSlot a1, .emp, .emp, .emp, .emp, .emp] f) := rfl
/-- _law_draw(_law_feed_here, _law_size); slots: 0 _law_feed_here, 1 _law_size, 2 _law_turn, 3 _law_digit, 4 _law_at, 5 _law_cell, 6 _law_mixed -/
noncomputable def S_q_draw_v3 : Sm := sSeq (sSet 2 (cBin oAdd (cFeed "turn" (cVar 0)) (cC (.int 1)))) (sSeq (sFeed "turn" (cVar 0) (cVar 2)) (sSeq (sIf (cT (cBin oGt (cFeed "left" (cVar 0)) (cC (.int 0)))) (sSeq (sSet 3 (cBin oMod (cFeed "left" (cVar 0)) (cVar 1))) (sSeq (sFeed "left" (cVar 0) (cBin oDiv (cFeed "left" (cVar 0)) (cVar 1))) (sRet (cVar 3)))) (sNext)) (sSeq (sSet 4 (cFeed "at" (cVar 0))) (sSeq (sFeed "at" (cVar 0) (cBin oAdd (cVar 4) (cC (.int 1)))) (sSeq (sSet 5 (cIf (cT (cBin oNe (cFeed "cells" (cVar 0)) (cLst []))) (cBin oIx (cFeed "cells" (cVar 0)) (cBin oMod (cVar 4) (cUn oLen (cFeed "cells" (cVar 0))))) (cC (.int 5)))) (sSeq (sIf (tAndX (cT (cBin oGe (cVar 5) (cBin oPow (cC (.int 10)) (cC (.int 18))))) (cT (cBin oLt (cVar 4) (cUn oLen (cFeed "cells" (cVar 0)))))) (sSeq (sFeed "left" (cVar 0) (cBin oDiv (cVar 5) (cVar 1))) (sRet (cBin oMod (cVar 5) (cVar 1)))) (sNext)) (sSeq (sSet 6 (cBin oMod (cBin oPow (cBin oAdd (cBin oAdd (cBin oMod (cVar 5) (cC (.int 999983))) (cBin oMul (cC (.int 40009)) (cVar 2))) (cC (.int 11))) (cC (.int 5))) (cC (.int 2147483647)))) (sSeq (sSet 6 (cBin oMod (cBin oPow (cBin oAdd (cVar 6) (cBin oMul (cC (.int 99991)) (cVar 2))) (cC (.int 5))) (cC (.int 2147483587)))) (sRet (cBin oMod (cBin oDiv (cVar 6) (cC (.int 16))) (cVar 1)))))))))))
noncomputable def F_q_draw_v3 : Dn.Fn := dBody 7 S_q_draw_v3
theorem u_q_draw_v3 {a0 a1 : RV} {f : Feed} : F_q_draw_v3 [a0, a1] f = dEnd (S_q_draw_v3 [fnSlot a0, fnSlot a1, .emp, .emp, .emp, .emp, .emp] f) := rfl
/-- _law_lowest(_law_top, _law_bottom); slots: 0 _law_top, 1 _law_bottom, 2 _law_one, 3 _law_other -/
noncomputable def S_q_lowest : Sm := sSeq (sPar 2 3 (cUn oAbs (cVar 0)) (cVar 1)) (sSeq (sWhile (cT (cBin oGt (cVar 3) (cC (.int 0)))) (sPar 2 3 (cVar 3) (cBin oMod (cVar 2) (cVar 3)))) (sRet (cTup [cBin oDiv (cVar 0) (cVar 2), cBin oDiv (cVar 1) (cVar 2)])))
noncomputable def F_q_lowest : Dn.Fn := dBody 4 S_q_lowest
theorem u_q_lowest {a0 a1 : RV} {f : Feed} : F_q_lowest [a0, a1] f = dEnd (S_q_lowest [fnSlot a0, fnSlot a1, .emp, .emp] f) := rfl
/-- _law_add(_law_one, _law_other); slots: 0 _law_one, 1 _law_other -/
noncomputable def S_q_add : Sm := sRet (cCall F_q_lowest [cBin oAdd (cBin oMul (cBin oIx (cVar 0) (cC (.int 0))) (cBin oIx (cVar 1) (cC (.int 1)))) (cBin oMul (cBin oIx (cVar 1) (cC (.int 0))) (cBin oIx (cVar 0) (cC (.int 1)))), cBin oMul (cBin oIx (cVar 0) (cC (.int 1))) (cBin oIx (cVar 1) (cC (.int 1)))])
noncomputable def F_q_add : Dn.Fn := dBody 2 S_q_add
theorem u_q_add {a0 a1 : RV} {f : Feed} : F_q_add [a0, a1] f = dEnd (S_q_add [fnSlot a0, fnSlot a1] f) := rfl
/-- _law_all(_law_numbers); slots: 0 _law_numbers, 1 _law_found, 2 _law_number -/
noncomputable def S_q_all : Sm := sSeq (sSet 1 (cTup [cC (.int 0), cC (.int 1)])) (sSeq (sFor (iSeq (cVar 0)) (.one 2) (sSet 1 (cCall F_q_add [cVar 1, cVar 2]))) (sRet (cVar 1)))
noncomputable def F_q_all : Dn.Fn := dBody 3 S_q_all
theorem u_q_all {a0 : RV} {f : Feed} : F_q_all [a0] f = dEnd (S_q_all [fnSlot a0, .emp, .emp] f) := rfl
/-- _law_rows(_law_kinds_here); slots: 0 _law_kinds_here, 1 _law_rows_here, 2 _law_triples, 3 _law_k, 4 _law_one -/
noncomputable def S_q_rows_v2 : Sm := sSeq (sSet 1 (cLst [])) (sSeq (sFor (iSeq (cVar 0)) (.one 2) (sApp 1 (cUn oTuple (cLc (iRange1 (cUn oLen (cVar 0))) (.one 3) (cYes) (cCall F_q_all [cLc (iSeq (cVar 2)) (.one 4) (cT (cBin oEq (cBin oIx (cVar 4) (cC (.int 1))) (cVar 3))) (cBin oIx (cVar 4) (cC (.int 2))) [4]]) [3])))) (sSeq (sFrz 1) (sRet (cUn oTuple (cVar 1)))))
noncomputable def F_q_rows_v2 : Dn.Fn := dBody 5 S_q_rows_v2
theorem u_q_rows_v2 {a0 : RV} {f : Feed} : F_q_rows_v2 [a0] f = dEnd (S_q_rows_v2 [fnSlot a0, .emp, .emp, .emp, .emp] f) := rfl
/-- _law_wide_kinds(_law_feed_here); slots: 0 _law_feed_here, 1 _law_size, 2 _law_kinds_here, 3 _law_k, 4 _law_weights, 5 _law_total, 6 _law_some, 7 _law_at -/
noncomputable def S_q_wide_kinds : Sm := sSeq (sSet 1 (cBin oAdd (cC (.int 2)) (cCall F_q_draw_v3 [cVar 0, cC (.int 3)]))) (sSeq (sSet 2 (cLst [])) (sSeq (sFor (iRange1 (cVar 1)) (.one 3) (sSeq (sSet 4 (cLc (iRange1 (cBin oMul (cC (.int 6)) (cVar 1))) (.one 7) (cYes) (cCall F_q_draw_v3 [cVar 0, cC (.int 9)]) [7])) (sSeq (sFrz 4) (sSeq (sSet 5 (cBin oMax (cC (.int 1)) (cBin oAdd (cUn oSum (cVar 4)) (cCall F_q_draw_v3 [cVar 0, cC (.int 2)])))) (sSeq (sSet 6 (cLc (iRange1 (cBin oMul (cC (.int 6)) (cVar 1))) (.one 7) (cT (cBin oGt (cBin oIx (cVar 4) (cVar 7)) (cC (.int 0)))) (cVar 7) [7])) (sSeq (sFrz 6) (sApp 2 (cUn oTuple (cLc (iSeq (cVar 6)) (.one 7) (cYes) (cTup [cBin oAdd (cC (.int 1)) (cBin oDiv (cVar 7) (cVar 1)), cBin oMod (cVar 7) (cVar 1), cCall F_q_lowest [cBin oIx (cVar 4) (cVar 7), cVar 5]]) [7]))))))))) (sSeq (sFrz 2) (sRet (cUn oTuple (cVar 2))))))
noncomputable def F_q_wide_kinds : Dn.Fn := dBody 8 S_q_wide_kinds
theorem u_q_wide_kinds {a0 : RV} {f : Feed} : F_q_wide_kinds [a0] f = dEnd (S_q_wide_kinds [fnSlot a0, .emp, .emp, .emp, .emp, .emp, .emp, .emp] f) := rfl
/-- begun_by(kinds, first); slots: 0 kinds, 1 first, 2 kind -/
noncomputable def S_begun_by : Sm := sRet (cLc (iRange1 (cUn oLen (cVar 0))) (.one 2) (cYes) (cIf (cT (cBin oEq (cVar 2) (cVar 1))) (cTup [cC (.int 1), cC (.int 1)]) (cC d_NOUGHT)) [2])
noncomputable def F_begun_by : Dn.Fn := dBody 3 S_begun_by
theorem u_begun_by {a0 a1 : RV} {f : Feed} : F_begun_by [a0, a1] f = dEnd (S_begun_by [fnSlot a0, fnSlot a1, .emp] f) := rfl
/-- row_behind(kinds, rows); slots: 0 kinds, 1 rows, 2 row, 3 kind, 4 triples, 5 stretch, 6 following, 7 chance -/
noncomputable def S_row_behind : Sm := sSeq (sSet 2 (cLc (iSeq (cVar 0)) (.one 4) (cYes) (cC d_NOUGHT) [4])) (sSeq (sFor (iEnum (cVar 0)) (.many [3, 4]) (sFor (iSeq (cVar 4)) (.many [5, 6, 7]) (sIf (cT (cBin oLeA (cVar 5) (cUn oLen (cVar 1)))) (sPut 2 (cVar 6) (cCall F_plus [cBin oIx (cVar 2) (cVar 6), cCall F_times [cBin oIx (cBin oIx (cVar 1) (cBin oSub (cUn oLen (cVar 1)) (cVar 5))) (cVar 3), cVar 7]])) (sNext)))) (sRet (cVar 2)))
noncomputable def F_row_behind : Dn.Fn := dBody 8 S_row_behind
theorem u_row_behind {a0 a1 : RV} {f : Feed} : F_row_behind [a0, a1] f = dEnd (S_row_behind [fnSlot a0, fnSlot a1, .emp, .emp, .emp, .emp, .emp, .emp] f) := rfl
/-- _law_by(_law_one, _law_other); slots: 0 _law_one, 1 _law_other -/
noncomputable def S_q_by : Sm := sRet (cCall F_q_lowest [cBin oMul (cBin oIx (cVar 0) (cC (.int 0))) (cBin oIx (cVar 1) (cC (.int 0))), cBin oMul (cBin oIx (cVar 0) (cC (.int 1))) (cBin oIx (cVar 1) (cC (.int 1)))])
noncomputable def F_q_by : Dn.Fn := dBody 2 S_q_by
theorem u_q_by {a0 a1 : RV} {f : Feed} : F_q_by [a0, a1] f = dEnd (S_q_by [fnSlot a0, fnSlot a1] f) := rfl
/-- _law_puts(_law_kinds_here, _law_beats); slots: 0 _law_kinds_here, 1 _law_beats, 2 _law_rows, 3 _law_beat, 4 _law_row, 5 _law_first, 6 _law_here, 7 _law_stretch, 8 _law_following_here, 9 _law_own, 10 _law_before, 11 _law_kind, 12 _law_one, 13 _law_other -/
noncomputable def S_q_puts_v2 : Sm := sSeq (sSet 2 (cLst [])) (sSeq (sFor (iRange1 (cBin oAdd (cVar 1) (cC (.int 1)))) (.one 3) (sSeq (sSet 4 (cLst [])) (sSeq (sFor (iRange1 (cUn oLen (cVar 0))) (.one 5) (sSeq (sSet 6 (cLc (iRange1 (cUn oLen (cVar 0))) (.one 11) (cYes) (cTup [cUn oInt (cAnd (cBin oEq (cVar 3) (cC (.int 0))) (cBin oEq (cVar 11) (cVar 5))), cC (.int 1)]) [11])) (sSeq (sFrz 6) (sSeq (sFor (iSeq (cBin oIx (cVar 0) (cVar 5))) (.many [7, 8, 9]) (sSeq (sIf (cT (cBin oLeA (cVar 7) (cVar 3))) (sSeq (sSet 10 (cBin oIx (cBin oIx (cVar 2) (cBin oSub (cVar 3) (cVar 7))) (cVar 8))) (sSeq (sSet 6 (cLc (iZip (cVar 6) (cVar 10)) (.many [12, 13]) (cYes) (cCall F_q_add [cVar 12, cCall F_q_by [cVar 9, cVar 13]]) [12, 13])) (sSeq (sFrz 6) (sNext)))) (sNext)) (sSeq (sFrz 6) (sNext)))) (sSeq (sFrz 6) (sApp 4 (cUn oTuple (cVar 6)))))))) (sSeq (sFrz 4) (sSeq (sFrz 6) (sApp 2 (cVar 4))))))) (sSeq (sFrz 2) (sSeq (sFrz 4) (sRet (cLc (iRange1 (cUn oLen (cVar 0))) (.one 5) (cYes) (cUn oTuple (cLc (iSeq (cVar 2)) (.one 4) (cYes) (cBin oIx (cVar 4) (cVar 5)) [4])) [5])))))
noncomputable def F_q_puts_v2 : Dn.Fn := dBody 14 S_q_puts_v2
theorem u_q_puts_v2 {a0 a1 : RV} {f : Feed} : F_q_puts_v2 [a0, a1] f = dEnd (S_q_puts_v2 [fnSlot a0, fnSlot a1, .emp, .emp, .emp, .emp, .emp, .emp, .emp, .emp, .emp, .emp, .emp, .emp] f) := rfl
/-- _law_still(_law_triples, _law_age); slots: 0 _law_triples, 1 _law_age, 2 _law_gone, 3 _law_stretch, 4 _law_following_here, 5 _law_own -/
noncomputable def S_q_still : Sm := sSeq (sSet 2 (cCall F_q_all [cLc (iSeq (cVar 0)) (.many [3, 4, 5]) (cT (cBin oLeA (cVar 3) (cVar 1))) (cVar 5) [3, 4, 5]])) (sRet (cTup [cBin oSub (cBin oIx (cVar 2) (cC (.int 1))) (cBin oIx (cVar 2) (cC (.int 0))), cBin oIx (cVar 2) (cC (.int 1))]))
noncomputable def F_q_still : Dn.Fn := dBody 6 S_q_still
theorem u_q_still {a0 a1 : RV} {f : Feed} : F_q_still [a0, a1] f = dEnd (S_q_still [fnSlot a0, fnSlot a1, .emp, .emp, .emp, .emp] f) := rfl
/-- _law_life(_law_triples); slots: 0 _law_triples, 1 _law_row, 2 _law_k, 3 _law_one -/
noncomputable def S_q_life_v3 : Sm := sSeq (sSet 1 (cLc (iRange2 (cC (.int 1)) (cC (.int 7))) (.one 2) (cYes) (cCall F_q_all [cLc (iSeq (cVar 0)) (.one 3) (cT (cBin oEq (cBin oIx (cVar 3) (cC (.int 0))) (cVar 2))) (cBin oIx (cVar 3) (cC (.int 2))) [3]]) [2])) (sSeq (sWhile (tAndX (cT (cBin oNe (cVar 1) (cLst []))) (cT (cBin oEq (cBin oIx (cVar 1) (cUn oNeg (cC (.int 1)))) (cTup [cC (.int 0), cC (.int 1)])))) (sPopD 1)) (sSeq (sFrz 1) (sRet (cTup [cUn oTuple (cVar 1), cTup [cC (.int 0), cC (.int 1)]]))))
noncomputable def F_q_life_v3 : Dn.Fn := dBody 4 S_q_life_v3
theorem u_q_life_v3 {a0 : RV} {f : Feed} : F_q_life_v3 [a0] f = dEnd (S_q_life_v3 [fnSlot a0, .emp, .emp, .emp] f) := rfl
/-- _law_short(_law_life_here); slots: 0 _law_life_here, 1 _law_row, 2 _law_step, 3 _law_some, 4 _law_first, 5 _law_k -/
noncomputable def S_q_short : Sm := sSeq (sAsg (.many [1, 2]) (cVar 0)) (sSeq (sIf (tAndX (cT (cBin oNe (cVar 1) (cTup []))) (cT (cBin oEq (cBin oIx (cVar 1) (cUn oNeg (cC (.int 1)))) (cTup [cC (.int 0), cC (.int 1)])))) (sSet 2 (cTup [cC (.int 0), cC (.int 1)])) (sNext)) (sSeq (sIf (cT (cBin oEq (cVar 2) (cTup [cC (.int 0), cC (.int 1)]))) (sSeq (sSet 3 (cLc (iRange1 (cUn oLen (cVar 1))) (.one 5) (cT (cBin oNe (cBin oIx (cVar 1) (cVar 5)) (cTup [cC (.int 0), cC (.int 1)]))) (cVar 5) [5])) (sSeq (sFrz 3) (sRet (cTup [cIf (cT (cBin oNe (cVar 3) (cLst []))) (cSl (cVar 1) none (some (cBin oAdd (cUn oMaxL (cVar 3)) (cC (.int 1))))) (cTup []), cVar 2])))) (sNext)) (sSeq (sSet 4 (cBin oSub (cUn oLen (cVar 1)) (cC (.int 1)))) (sSeq (sWhile (tAndX (cT (cBin oGt (cVar 4) (cC (.int 0)))) (cT (cBin oEq (cCall F_q_times [cBin oIx (cVar 1) (cBin oSub (cVar 4) (cC (.int 1))), cVar 2]) (cBin oIx (cVar 1) (cVar 4))))) (sSet 4 (cBin oSub (cVar 4) (cC (.int 1))))) (sRet (cTup [cSl (cVar 1) none (some (cBin oAdd (cVar 4) (cC (.int 1)))), cVar 2]))))))
noncomputable def F_q_short : Dn.Fn := dBody 6 S_q_short
theorem u_q_short {a0 : RV} {f : Feed} : F_q_short [a0] f = dEnd (S_q_short [fnSlot a0, .emp, .emp, .emp, .emp, .emp] f) := rfl
/-- kind_puts(kinds, first, most); slots: 0 kinds, 1 first, 2 most, 3 rows, 4 beat, 5 row -/
noncomputable def S_kind_puts_v2 : Sm := sSeq (sSet 3 (cLst [cCall F_begun_by [cVar 0, cVar 1]])) (sSeq (sFor (iRange2 (cC (.int 1)) (cBin oAdd (cVar 2) (cC (.int 1)))) (.one 4) (sApp 3 (cCallL F_row_behind [cVar 0] 3))) (sSeq (sFrz 3) (sRet (cUn oTuple (cLc (iSeq (cVar 3)) (.one 5) (cYes) (cUn oTuple (cVar 5)) [5])))))
noncomputable def F_kind_puts_v2 : Dn.Fn := dBody 6 S_kind_puts_v2
theorem u_kind_puts_v2 {a0 a1 a2 : RV} {f : Feed} : F_kind_puts_v2 [a0, a1, a2] f = dEnd (S_kind_puts_v2 [fnSlot a0, fnSlot a1, fnSlot a2, .emp, .emp, .emp] f) := rfl
/-- kind_stands(kinds, first, beat); slots: 0 kinds, 1 first, 2 beat, 3 rows, 4 found, 5 kind, 6 life, 7 still, 8 total, 9 age -/
noncomputable def S_kind_stands_v2 : Sm := sSeq (sSet 3 (cCall F_kind_puts_v2 [cVar 0, cVar 1, cVar 2])) (sSeq (sSet 4 (cLst [])) (sSeq (sFor (iRange1 (cUn oLen (cVar 0))) (.one 5) (sSeq (sSet 6 (cCall F_kind_life [cVar 0, cVar 5])) (sSeq (sSet 7 (cLc (iRange1 (cBin oAdd (cC d_LONGEST) (cC (.int 1)))) (.one 9) (cYes) (cCall F_lasting [cVar 6, cVar 9]) [9])) (sSeq (sFrz 7) (sSeq (sSet 8 (cC d_NOUGHT)) (sSeq (sFor (iRange1 (cBin oAdd (cVar 2) (cC (.int 1)))) (.one 9) (sSet 8 (cCall F_plus [cVar 8, cCall F_times [cBin oIx (cBin oIx (cVar 3) (cBin oSub (cVar 2) (cVar 9))) (cVar 5), cBin oIx (cVar 7) (cBin oMin (cVar 9) (cC d_LONGEST))]]))) (sApp 4 (cVar 8)))))))) (sSeq (sFrz 4) (sRet (cUn oTuple (cVar 4))))))
noncomputable def F_kind_stands_v2 : Dn.Fn := dBody 10 S_kind_stands_v2
theorem u_kind_stands_v2 {a0 a1 a2 : RV} {f : Feed} : F_kind_stands_v2 [a0, a1, a2] f = dEnd (S_kind_stands_v2 [fnSlot a0, fnSlot a1, fnSlot a2, .emp, .emp, .emp, .emp, .emp, .emp, .emp] f) := rfl
/-- _law_right(_law_kinds_here, _law_beat); slots: 0 _law_kinds_here, 1 _law_beat, 2 _law_text, 3 _law_rows, 4 _law_still_here, 5 _law_first, 6 _law_due, 7 _law_kind, 8 _law_parts, 9 _law_triples, 10 _law_age, 11 _law_n, 12 _law_turn -/
noncomputable def S_q_right_v7 : Sm := sSeq (sSet 2 (cUn oRepr (cVar 0))) (sSeq (sSet 3 (cCall F_q_puts_v2 [cVar 0, cVar 1])) (sSeq (sFrz 3) (sSeq (sSet 4 (cLc (iSeq (cVar 0)) (.one 9) (cYes) (cLc (iRange1 (cBin oAdd (cVar 1) (cC (.int 1)))) (.one 10) (cYes) (cCall F_q_still [cVar 9, cVar 10]) [10]) [9])) (sSeq (sFrz 4) (sSeq (sFor (iRange1 (cUn oLen (cVar 0))) (.one 5) (sSeq (sSet 6 (cLst [])) (sSeq (sFor (iRange1 (cUn oLen (cVar 0))) (.one 7) (sSeq (sSet 8 (cLc (iRange1 (cBin oAdd (cVar 1) (cC (.int 1)))) (.one 11) (cYes) (cCall F_q_by [cBin oIx (cBin oIx (cBin oIx (cVar 3) (cVar 5)) (cVar 11)) (cVar 7), cBin oIx (cBin oIx (cVar 4) (cVar 7)) (cBin oSub (cVar 1) (cVar 11))]) [11])) (sSeq (sFrz 8) (sApp 6 (cCall F_q_all [cVar 8]))))) (sSeq (sFrz 6) (sSeq (sFrz 8) (sSeq (sIf (cT (cBin oNe (cLc (iRange1 (cC (.int 2))) (.one 12) (cYes) (cUn oRepr (cCall F_kind_stands_v2 [cVar 0, cVar 5, cVar 1])) [12]) (cBin oMul (cLst [cUn oRepr (cUn oTuple (cVar 6))]) (cC (.int 2))))) (sRet (cC (.bool false))) (sNext)) (sIf (cT (cBin oNe (cCall F_q_all [cVar 6]) (cTup [cC (.int 1), cC (.int 1)]))) (sRet (cC (.bool false))) (sNext)))))))) (sRet (cBin oEq (cUn oRepr (cVar 0)) (cVar 2))))))))
noncomputable def F_q_right_v7 : Dn.Fn := dBody 13 S_q_right_v7
theorem u_q_right_v7 {a0 a1 : RV} {f : Feed} : F_q_right_v7 [a0, a1] f = dEnd (S_q_right_v7 [fnSlot a0, fnSlot a1, .emp, .emp, .emp, .emp, .emp, .emp, .emp, .emp, .emp, .emp, .emp] f) := rfl
/-- _law_following(_law_feed_here, _law_way, _law_k, _law_size); slots: 0 _law_feed_here, 1 _law_way, 2 _law_k, 3 _law_size -/
noncomputable def S_q_following : Sm := sSeq (sIf (cT (cBin oEq (cVar 1) (cC (.int 1)))) (sRet (cBin oMod (cBin oAdd (cVar 2) (cC (.int 1))) (cVar 3))) (sNext)) (sSeq (sIf (cT (cBin oEq (cVar 1) (cC (.int 2)))) (sRet (cVar 2)) (sNext)) (sSeq (sIf (cT (cBin oEq (cVar 1) (cC (.int 3)))) (sRet (cBin oMin (cBin oSub (cVar 3) (cC (.int 1))) (cBin oAdd (cBin oMul (cBin oDiv (cVar 2) (cC (.int 2))) (cC (.int 2))) (cCall F_q_draw_v3 [cVar 0, cC (.int 2)])))) (sNext)) (sRet (cIf (cT (cBin oEq (cVar 1) (cC (.int 4)))) (cCall F_q_draw_v3 [cVar 0, cBin oAdd (cVar 2) (cC (.int 1))]) (cCall F_q_draw_v3 [cVar 0, cVar 3])))))
noncomputable def F_q_following : Dn.Fn := dBody 4 S_q_following
theorem u_q_following {a0 a1 a2 a3 : RV} {f : Feed} : F_q_following [a0, a1, a2, a3] f = dEnd (S_q_following [fnSlot a0, fnSlot a1, fnSlot a2, fnSlot a3] f) := rfl
/-- _law_kinds(_law_feed_here, _law_size, _law_is_full); slots: 0 _law_feed_here, 1 _law_size, 2 _law_is_full, 3 _law_way, 4 _law_kinds_here, 5 _law_k, 6 _law_marks, 7 _law_lack, 8 _law_turn, 9 _law_pair, 10 _law_total -/
noncomputable def S_q_kinds : Sm := sSeq (sSet 3 (cCall F_q_draw_v3 [cVar 0, cC (.int 7)])) (sSeq (sSet 4 (cLst [])) (sSeq (sFor (iRange1 (cVar 1)) (.one 5) (sSeq (sDct true 6) (sSeq (sSet 7 (cBin oMul (cBin oIx (cLst [cC (.int 0), cC (.int 0), cC (.int 1), cC (.int 5), cC (.int 9)]) (cCall F_q_draw_v3 [cVar 0, cC (.int 5)])) (cUn oInt (cUn cNot (cVar 2))))) (sSeq (sFor (iRange1 (cBin oAdd (cC (.int 1)) (cCall F_q_draw_v3 [cVar 0, cC (.int 4)]))) (.one 8) (sSeq (sKey 9 (kTup [cBin oAdd (cC (.int 1)) (cCall F_q_draw_v3 [cVar 0, cC (.int 6)]), cCall F_q_following [cVar 0, cVar 3, cVar 5, cVar 1]])) (sDputT 6 (kVar 9) (cBin oAdd (cC (.int 1)) (cCall F_q_draw_v3 [cVar 0, cC (.int 9)]))))) (sSeq (sIf (tAndX (cT (cBin oEq (cVar 7) (cC (.int 9)))) (cT (cBin oEq (cCall F_q_draw_v3 [cVar 0, cC (.int 3)]) (cC (.int 0))))) (sDct true 6) (sNext)) (sSeq (sSet 10 (cBin oAdd (cUn oSum (cDVals 6)) (cVar 7))) (sApp 4 (cUn oTuple (cLc (iSeq (cDSort 6)) (.one 9) (cYes) (cTup [cBin oIx (cVar 9) (cC (.int 0)), cBin oIx (cVar 9) (cC (.int 1)), cCall F_q_lowest [cDGet 6 (cVar 9), cVar 10]]) [9]))))))))) (sSeq (sFrz 4) (sRet (cUn oTuple (cVar 4))))))
noncomputable def F_q_kinds : Dn.Fn := dBody 11 S_q_kinds
theorem u_q_kinds {a0 a1 a2 : RV} {f : Feed} : F_q_kinds [a0, a1, a2] f = dEnd (S_q_kinds [fnSlot a0, fnSlot a1, fnSlot a2, .emp, .emp, .emp, .emp, .emp, .emp, .emp, .emp] f) := rfl
end Fp

/-! mathematics: data that may be shown and compared; the draw -/
namespace Fp
open PySem PySem.Spec L2 Dn
/-- no dict, small texts, ints of at most 560 figures, depth and bulk bounded -/
structure Nice (b k : Nat) (d : PyData) : Prop where
  can : d.canLay0 = true
  sh : d.showable = true
  short : d.intsShort 600 = true
  dep : d.depth ≤ k
  bk : d.bulk ≤ b
structure NiceL (b k : Nat) (ds : List PyData) : Prop where
  can : PyData.canLayAll0 ds = true
  sh : PyData.showableAll ds = true
  short : PyData.intsShortAll 600 ds = true
  dep : PyData.depthAll ds ≤ k
  bk : PyData.bulkAll ds ≤ b
theorem Nice.up {b k c l : Nat} {d : PyData} (h : Nice b k d) (hb : b ≤ c) (hk : k ≤ l) : Nice c l d := ⟨h.can, h.sh, h.short, Nat.le_trans h.dep hk, Nat.le_trans h.bk hb⟩
theorem Nice.shaped {b k : Nat} {d : PyData} (h : Nice b k d) (hk : k ≤ 64) : SeqAt.shaped d = true := by
  unfold SeqAt.shaped
  rw [h.can, decide_eq_true (Nat.le_trans h.dep hk)]
  rfl
theorem Nice.shows {b k : Nat} {d : PyData} (h : Nice b k d) (hk : k ≤ 60) (hb : b ≤ 16000) : shows d = true := by
  have hd : d.hasDict = false := PyData.hasDict_of_canLay d h.can
  have hl := PyData.shown_le_bulk 600 (by decide) d (PyData.leavesShort_of_canLay0 600 d h.can h.short)
  have h3 : d.shown.length ≤ 10000000 := by
    have := h.bk
    have e : (600 + 2) * d.bulk ≤ 602 * 16000 := Nat.mul_le_mul_left _ (by omega)
    omega
  unfold Dn.shows
  rw [h.sh, hd, decide_eq_true (Nat.le_trans h.dep hk), decide_eq_true h3]
  rfl
theorem nice_none : Nice 0 0 .none := ⟨rfl, rfl, rfl, Nat.le_refl 0, Nat.le_refl 0⟩
theorem nice_bool {b : Bool} : Nice 0 0 (.bool b) := ⟨by cases b <;> rfl, by cases b <;> rfl, by cases b <;> rfl, Nat.le_refl 0, Nat.le_refl 0⟩
theorem nice_int {i : Int} (h : i.natAbs < 10 ^ 560) : Nice 0 0 (.int i) := by
  refine ⟨rfl, ?_, ?_, Nat.le_refl 0, Nat.le_refl 0⟩
  · simp only [PyData.showable, decide_eq_true_eq]
    by_cases z : i.natAbs = 0
    · rw [z]
      decide
    · rw [Nat.log2_lt z]
      exact Nat.lt_of_lt_of_le h (by decide)
  · simp only [PyData.intsShort, decide_eq_true_eq]
    have e := int_text_length_le10 (k := 560) (by decide) h
    show (Str.ofString (toString i)).length ≤ 600
    rw [ofString_length]
    omega
theorem niceL_nil {k : Nat} : NiceL 0 k [] := ⟨rfl, rfl, rfl, Nat.zero_le _, Nat.le_refl 0⟩
theorem niceL_cons {b c k : Nat} {d : PyData} {ds : List PyData} (h : Nice b k d) (t : NiceL c k ds) : NiceL (b + 1 + c) k (d :: ds) := by
  refine ⟨?_, ?_, ?_, ?_, ?_⟩
  · simp only [PyData.canLayAll0, h.can, t.can, Bool.and_self]
  · simp only [PyData.showableAll, h.sh, t.sh, Bool.and_self]
  · simp only [PyData.intsShortAll, h.short, t.short, Bool.and_self]
  · simp only [PyData.depthAll]
    exact Nat.max_le.mpr ⟨h.dep, t.dep⟩
  · simp only [PyData.bulkAll]
    have := h.bk
    have := t.bk
    omega
theorem niceL_of {b k : Nat} : ∀ {ds : List PyData}, (∀ d ∈ ds, Nice b k d) → NiceL (ds.length * (b + 1)) k ds
  | [], _ => by
    rw [List.length_nil, Nat.zero_mul]
    exact niceL_nil
  | d :: ds, h => by
    have q := niceL_cons (h d List.mem_cons_self) (niceL_of fun e he => h e (List.mem_cons_of_mem _ he))
    have e : (d :: ds).length * (b + 1) = b + 1 + ds.length * (b + 1) := by
      rw [List.length_cons, Nat.add_mul, Nat.one_mul, Nat.add_comm]
    rw [e]
    exact q
theorem NiceL.up {b k c l : Nat} {ds : List PyData} (h : NiceL b k ds) (hb : b ≤ c) (hk : k ≤ l) : NiceL c l ds := ⟨h.can, h.sh, h.short, Nat.le_trans h.dep hk, Nat.le_trans h.bk hb⟩
theorem nice_tuple {b k : Nat} {ds : List PyData} (h : NiceL b k ds) : Nice b (k + 1) (.tuple ds) :=
  ⟨by simpa only [PyData.canLay0] using h.can, by simpa only [PyData.showable] using h.sh, by simpa only [PyData.intsShort] using h.short, by simpa only [PyData.depth] using Nat.succ_le_succ h.dep, by simpa only [PyData.bulk] using h.bk⟩
theorem nice_list {b k : Nat} {ds : List PyData} (h : NiceL b k ds) : Nice b (k + 1) (.list ds) :=
  ⟨by simpa only [PyData.canLay0] using h.can, by simpa only [PyData.showable] using h.sh, by simpa only [PyData.intsShort] using h.short, by simpa only [PyData.depth] using Nat.succ_le_succ h.dep, by simpa only [PyData.bulk] using h.bk⟩
/-! shapes alone, for comparisons -/
theorem canLay_ints : ∀ ns : List Int, PyData.canLayAll0 (ns.map .int) = true
  | [] => rfl
  | n :: r => by
    simp only [List.map_cons, PyData.canLayAll0, PyData.canLay0, canLay_ints r, Bool.and_self]
theorem depth_ints : ∀ ns : List Int, PyData.depthAll (ns.map .int) = 0
  | [] => rfl
  | n :: r => by
    simp only [List.map_cons, PyData.depthAll, PyData.depth, depth_ints r, Nat.max_self]
@[simp] theorem shaped_int {i : Int} : SeqAt.shaped (.int i) = true := rfl
@[simp] theorem shaped_bool {i : Bool} : SeqAt.shaped (.bool i) = true := rfl
theorem shaped_tuple {ds : List PyData} (h : PyData.canLayAll0 ds = true) (h2 : PyData.depthAll ds ≤ 63) : SeqAt.shaped (.tuple ds) = true := by
  unfold SeqAt.shaped
  have e1 : PyData.canLay0 (.tuple ds) = true := by simpa only [PyData.canLay0] using h
  have e2 : PyData.depth (.tuple ds) = PyData.depthAll ds + 1 := by simp only [PyData.depth]
  rw [e1, e2]
  exact decide_eq_true (by omega)
theorem shaped_list {ds : List PyData} (h : PyData.canLayAll0 ds = true) (h2 : PyData.depthAll ds ≤ 63) : SeqAt.shaped (.list ds) = true := by
  unfold SeqAt.shaped
  have e1 : PyData.canLay0 (.list ds) = true := by simpa only [PyData.canLay0] using h
  have e2 : PyData.depth (.list ds) = PyData.depthAll ds + 1 := by simp only [PyData.depth]
  rw [e1, e2]
  exact decide_eq_true (by omega)
@[simp] theorem shaped_list_ints {ns : List Int} : SeqAt.shaped (.list (ns.map .int)) = true := shaped_list (canLay_ints ns) (by rw [depth_ints]; decide)
@[simp] theorem shaped_list_nil : SeqAt.shaped (.list []) = true := rfl
theorem eqv_ints : ∀ (ns ms : List Int), PyData.eqvAll (ns.map .int) (ms.map .int) = decide (ns = ms)
  | [], [] => rfl
  | [], m :: ms => by
    simp only [List.map_nil, List.map_cons, PyData.eqvAll]
    exact (decide_eq_false (fun h => by cases h)).symm
  | n :: ns, [] => by
    simp only [List.map_nil, List.map_cons, PyData.eqvAll]
    exact (decide_eq_false (fun h => by cases h)).symm
  | n :: ns, m :: ms => by
    simp only [List.map_cons, PyData.eqvAll, PyData.eqv, eqv_ints ns ms]
    by_cases h : n = m
    · by_cases h2 : ns = ms
      · simp [h, h2]
      · simp [h, h2]
    · simp [h]
/-! numbers that may be multiplied -/
theorem log2_small {i : Int} {k : Nat} (h : i.natAbs < 2 ^ k) (hk : 0 < k) : i.natAbs.log2 < k := by
  by_cases z : i.natAbs = 0
  · rw [z]
    exact hk
  · exact (Nat.log2_lt z).mpr h
theorem mulC_small {i j : Int} {k l : Nat} (h : i.natAbs < 2 ^ k) (h2 : j.natAbs < 2 ^ l) (hk : k + l < 1000000) (h0 : 0 < k := by decide) (h1 : 0 < l := by decide) : mulC i j = true := by
  have a := log2_small h h0
  have b := log2_small h2 h1
  exact decide_eq_true (by omega)
/-! the draw -/
/-- what a draw tells -/
structure Fd (t : Int) (f : Feed) : Prop where
  t0 : 0 ≤ f.turn
  t1 : f.turn ≤ t
  s0 : 0 ≤ f.spot
  s1 : f.spot ≤ t
theorem Fd.up {t u : Int} {f : Feed} (h : Fd t f) (hu : t ≤ u) : Fd u f := ⟨h.t0, Int.le_trans h.t1 hu, h.s0, Int.le_trans h.s1 hu⟩
theorem fd_a {t l : Int} {f : Feed} {cs : List Int} (h : Fd t f) : Fd (t + 1) ⟨cs, f.spot, l, f.turn + 1⟩ := ⟨by have := h.t0; show 0 ≤ f.turn + 1; omega, by have := h.t1; show f.turn + 1 ≤ t + 1; omega, h.s0, by have := h.s1; show f.spot ≤ t + 1; omega⟩
theorem fd_b {t l : Int} {f : Feed} {cs : List Int} (h : Fd t f) : Fd (t + 1) ⟨cs, f.spot + 1, l, f.turn + 1⟩ := ⟨by have := h.t0; show 0 ≤ f.turn + 1; omega, by have := h.t1; show f.turn + 1 ≤ t + 1; omega, by have := h.s0; show 0 ≤ f.spot + 1; omega, by have := h.s1; show f.spot + 1 ≤ t + 1; omega⟩
def Drawn (t : Int) (s : Int) (rv : RV) (f2 : Feed) : Prop := ∃ i : Int, rv = .dat (.int i) ∧ 0 ≤ i ∧ i < s ∧ Fd (t + 1) f2
theorem cells_ne (f : Feed) : oNe (.list (f.cells.map .int)) (.list []) = some (.dat (.bool (!decide (f.cells = [])))) := by
  rw [oNe_of shaped_list_ints shaped_list_nil]
  have := eqv_ints f.cells []
  rw [List.map_nil] at this
  simp only [PyData.eqv, this]
@[simp] theorem ne_nil2 : oNe (.list []) (.list []) = some (.dat (.bool false)) := by
  rw [oNe_of rfl rfl]
  rfl
theorem at_mod {cs : List Int} {i : Int} (h : ¬ cs = []) : oMod (.int i) (.int cs.length) = some (.dat (.int (i % cs.length))) ∧ ∃ c, atI (cs.map PyData.int) (i % cs.length) = some (.int c) := by
  have hl : (0 : Int) < cs.length := by
    have := List.length_pos_iff.mpr h
    omega
  refine ⟨oMod_int hl, ?_⟩
  have h1 := Int.emod_nonneg i (show (cs.length : Int) ≠ 0 by omega)
  have h2 := Int.emod_lt_of_pos i hl
  obtain ⟨n, e⟩ := Int.eq_ofNat_of_zero_le h1
  rw [e] at h2 ⊢
  have hn : n < cs.length := by omega
  exact ⟨cs[n], by rw [Dn.atI_nat, List.getElem?_map, List.getElem?_eq_getElem hn]; rfl⟩
theorem drawn_mk {t : Int} {s i : Int} (hs : 0 < s) {g : Feed} (h : Fd (t + 1) g) : Drawn t s (.dat (.int (i % s))) g := ⟨_, rfl, Int.emod_nonneg _ (by omega), Int.emod_lt_of_pos _ hs, h⟩
theorem draw_ok {s t : Int} {f : Feed} (hs : 0 < s) (h2 : s < 2 ^ 500) (hF : Fd t f) (ht : t < 2 ^ 40) : Ev (F_q_draw [.feed, .dat (.int s)] f) (Drawn t s) := by
  have t0 := hF.t0
  have t1 := hF.t1
  have t2 := hF.s0
  have t3 := hF.s1
  have hl : s.natAbs.log2 < 9000 := Nat.lt_trans (log2_small (k := 500) (by omega) (by decide)) (by decide)
  have p0 : oPow (.int 10) (.int 18) = some (.dat (.int (10 ^ 18))) := oPow_int (by decide) (by decide) (by decide)
  have q1 : ∀ c : Int, oMod (.int c) (.int 999983) = some (.dat (.int (c % 999983))) := fun c => oMod_int (by decide)
  have q2 : ∀ c : Int, oMod (.int c) (.int 2305843009213693951) = some (.dat (.int (c % 2305843009213693951))) := fun c => oMod_int (by decide)
  have q3 : ∀ c : Int, oMod (.int c) (.int 2147483629) = some (.dat (.int (c % 2147483629))) := fun c => oMod_int (by decide)
  have d1 : ∀ c : Int, oDiv (.int c) (.int 64) = some (.dat (.int (c / 64))) := fun c => oDiv_int (by decide) (by decide)
  have m1 : oMul (.int 7919) (.int (f.turn + 1)) = some (.dat (.int (7919 * (f.turn + 1)))) := oMul_int (mulC_small (k := 16) (l := 41) (by decide) (by omega) (by decide))
  have p1 : ∀ c : Int, oPow (.int (c % 999983 + 7919 * (f.turn + 1))) (.int 5) = some (.dat (.int ((c % 999983 + 7919 * (f.turn + 1)) ^ 5))) := fun c => oPow_int (by decide) (by decide) (by omega)
  have m2 : oMul (.int 2) (.int (f.turn + 1)) = some (.dat (.int (2 * (f.turn + 1)))) := oMul_int (mulC_small (k := 16) (l := 41) (by decide) (by omega) (by decide))
  have m3 : ∀ c : Int, oMul (.int (c % 2305843009213693951)) (.int (2 * (f.turn + 1) + 104729)) = some (.dat (.int (c % 2305843009213693951 * (2 * (f.turn + 1) + 104729)))) := fun c => oMul_int (mulC_small (k := 63) (l := 63) (by omega) (by omega) (by decide))
  have p9 : oPow (.int (7919 * (f.turn + 1))) (.int 5) = some (.dat (.int ((7919 * (f.turn + 1)) ^ 5))) := oPow_int (by decide) (by decide) (by omega)
  rw [u_q_draw, ev_dEnd]
  unfold S_q_draw
  simp [oMod_int hs, oDiv_int hs hl, ev_ite]
  refine ⟨fun h => drawn_mk hs (by first | exact fd_a hF | exact fd_b hF), fun h => ?_⟩
  by_cases hc : f.cells = []
  · simp [cells_ne, p9, hc, ev_ite, oMod_int hs, oDiv_int hs hl, p0, q1, q2, q3, d1, m1, p1, m2, m3]
    repeat' (first | exact drawn_mk hs (by first | exact fd_a hF | exact fd_b hF) | apply And.intro | intro _)
  · obtain ⟨w1, c, w2⟩ := at_mod (i := f.spot) hc
    simp [cells_ne, p9, hc, ev_ite, oMod_int hs, oDiv_int hs hl, p0, q1, q2, q3, d1, m1, p1, m2, m3, w1, w2]
    repeat' (first | exact drawn_mk hs (by first | exact fd_a hF | exact fd_b hF) | apply And.intro | intro _)
theorem draw_v2_ok {s t : Int} {f : Feed} (hs : 0 < s) (h2 : s < 2 ^ 500) (hF : Fd t f) (ht : t < 2 ^ 40) : Ev (F_q_draw_v2 [.feed, .dat (.int s)] f) (Drawn t s) := by
  have t0 := hF.t0
  have t1 := hF.t1
  have t2 := hF.s0
  have t3 := hF.s1
  have hl : s.natAbs.log2 < 9000 := Nat.lt_trans (log2_small (k := 500) (by omega) (by decide)) (by decide)
  have p0 : oPow (.int 10) (.int 18) = some (.dat (.int (10 ^ 18))) := oPow_int (by decide) (by decide) (by decide)
  have q1 : ∀ c : Int, oMod (.int c) (.int 1000003) = some (.dat (.int (c % 1000003))) := fun c => oMod_int (by decide)
  have q2 : ∀ c : Int, oMod (.int c) (.int 2147483629) = some (.dat (.int (c % 2147483629))) := fun c => oMod_int (by decide)
  have q3 : ∀ c : Int, oMod (.int c) (.int 2147483647) = some (.dat (.int (c % 2147483647))) := fun c => oMod_int (by decide)
  have q4 : ∀ c : Int, oMod (.int c) (.int 2147483587) = some (.dat (.int (c % 2147483587))) := fun c => oMod_int (by decide)
  have d1 : ∀ c : Int, oDiv (.int c) (.int 64) = some (.dat (.int (c / 64))) := fun c => oDiv_int (by decide) (by decide)
  have m1 : oMul (.int 104723) (.int (f.turn + 1)) = some (.dat (.int (104723 * (f.turn + 1)))) := oMul_int (mulC_small (k := 17) (l := 41) (by decide) (by omega) (by decide))
  have m2 : ∀ c : Int, oMul (.int (c % 1000003 + 8191)) (.int (104723 * (f.turn + 1) + 57)) = some (.dat (.int ((c % 1000003 + 8191) * (104723 * (f.turn + 1) + 57)))) := fun c => oMul_int (mulC_small (k := 63) (l := 63) (by omega) (by omega) (by decide))
  have m9 : oMul (.int 8191) (.int (104723 * (f.turn + 1) + 57)) = some (.dat (.int (8191 * (104723 * (f.turn + 1) + 57)))) := oMul_int (mulC_small (k := 63) (l := 63) (by omega) (by omega) (by decide))
  have p1 : ∀ c : Int, oPow (.int (c % 2147483629)) (.int 5) = some (.dat (.int ((c % 2147483629) ^ 5))) := fun c => oPow_int (by decide) (by decide) (by omega)
  have m3 : oMul (.int 613) (.int f.spot) = some (.dat (.int (613 * f.spot))) := oMul_int (mulC_small (k := 17) (l := 41) (by decide) (by omega) (by decide))
  have m4 : ∀ c : Int, oMul (.int (c % 2147483647 + 613 * f.spot)) (.int 48271) = some (.dat (.int ((c % 2147483647 + 613 * f.spot) * 48271))) := fun c => oMul_int (mulC_small (k := 63) (l := 17) (by omega) (by decide) (by decide))
  rw [u_q_draw_v2, ev_dEnd]
  unfold S_q_draw_v2
  simp [oMod_int hs, oDiv_int hs hl, ev_ite]
  refine ⟨fun h => drawn_mk hs (by first | exact fd_a hF | exact fd_b hF), fun h => ?_⟩
  by_cases hc : f.cells = []
  · simp [cells_ne, hc, ev_ite, oMod_int hs, oDiv_int hs hl, p0, q1, q2, q3, q4, d1, m1, m2, m9, p1, m3, m4]
    repeat' (first | exact drawn_mk hs (by first | exact fd_a hF | exact fd_b hF) | apply And.intro | intro _)
  · obtain ⟨w1, c, w2⟩ := at_mod (i := f.spot) hc
    simp [cells_ne, hc, ev_ite, oMod_int hs, oDiv_int hs hl, p0, q1, q2, q3, q4, d1, m1, m2, p1, m3, m4, w1, w2]
    repeat' (first | exact drawn_mk hs (by first | exact fd_a hF | exact fd_b hF) | apply And.intro | intro _)
theorem draw_v3_ok {s t : Int} {f : Feed} (hs : 0 < s) (h2 : s < 2 ^ 500) (hF : Fd t f) (ht : t < 2 ^ 40) : Ev (F_q_draw_v3 [.feed, .dat (.int s)] f) (Drawn t s) := by
  have t0 := hF.t0
  have t1 := hF.t1
  have t2 := hF.s0
  have t3 := hF.s1
  have hl : s.natAbs.log2 < 9000 := Nat.lt_trans (log2_small (k := 500) (by omega) (by decide)) (by decide)
  have m1 : oMul (.int 40009) (.int (f.turn + 1)) = some (.dat (.int (40009 * (f.turn + 1)))) := oMul_int (mulC_small (k := 16) (l := 41) (by decide) (by omega) (by decide))
  have m2 : oMul (.int 99991) (.int (f.turn + 1)) = some (.dat (.int (99991 * (f.turn + 1)))) := oMul_int (mulC_small (k := 17) (l := 41) (by decide) (by omega) (by decide))
  have p0 : oPow (.int 10) (.int 18) = some (.dat (.int (10 ^ 18))) := oPow_int (by decide) (by decide) (by decide)
  have p1 : ∀ c : Int, oPow (.int (c % 999983 + 40009 * (f.turn + 1) + 11)) (.int 5) = some (.dat (.int ((c % 999983 + 40009 * (f.turn + 1) + 11) ^ 5))) := fun c => oPow_int (by decide) (by decide) (by omega)
  have p2 : ∀ c : Int, oPow (.int (c % 2147483647 + 99991 * (f.turn + 1))) (.int 5) = some (.dat (.int ((c % 2147483647 + 99991 * (f.turn + 1)) ^ 5))) := fun c => oPow_int (by decide) (by decide) (by omega)
  have q1 : ∀ c : Int, oMod (.int c) (.int 999983) = some (.dat (.int (c % 999983))) := fun c => oMod_int (by decide)
  have q2 : ∀ c : Int, oMod (.int c) (.int 2147483647) = some (.dat (.int (c % 2147483647))) := fun c => oMod_int (by decide)
  have q3 : ∀ c : Int, oMod (.int c) (.int 2147483587) = some (.dat (.int (c % 2147483587))) := fun c => oMod_int (by decide)
  have q4 : ∀ c : Int, oDiv (.int c) (.int 16) = some (.dat (.int (c / 16))) := fun c => oDiv_int (by decide) (by decide)
  have p9 : oPow (.int (5 + 40009 * (f.turn + 1) + 11)) (.int 5) = some (.dat (.int ((5 + 40009 * (f.turn + 1) + 11) ^ 5))) := oPow_int (by decide) (by decide) (by omega)
  rw [u_q_draw_v3, ev_dEnd]
  unfold S_q_draw_v3
  simp only [e_seq, e_set, e_feedS, e_feed, e_Bin, e_V, e_C, e_if, e_T, e_ret, e_next]
  simp [oMod_int hs, oDiv_int hs hl, ev_ite]
  refine ⟨fun h => drawn_mk hs (by first | exact fd_a hF | exact fd_b hF), fun h => ?_⟩
  by_cases hc : f.cells = []
  · simp [cells_ne, p9, hc, ev_ite, oMod_int hs, oDiv_int hs hl, m1, m2, p0, p1, p2, q1, q2, q3, q4]
    repeat' (first | exact drawn_mk hs (by first | exact fd_a hF | exact fd_b hF) | apply And.intro | intro _)
  · obtain ⟨w1, c, w2⟩ := at_mod (i := f.spot) hc
    simp [cells_ne, p9, hc, ev_ite, oMod_int hs, oDiv_int hs hl, m1, m2, p0, p1, p2, q1, q2, q3, q4, w1, w2]
    repeat' (first | exact drawn_mk hs (by first | exact fd_a hF | exact fd_b hF) | apply And.intro | intro _)
end Fp

/-! mathematics: common divisors, ratios -/
namespace Fp
open PySem PySem.Spec L2 Dn
/-! ratios -/
abbrev rat (p : Int) (q : Nat) : PyData := .tuple [.int p, .int q]
/-- in lowest terms -/
def low (p : Int) (q : Nat) : PyData := rat (p / (Nat.gcd p.natAbs q : Nat)) (q / Nat.gcd p.natAbs q)
theorem common_ok {a b : Nat} {f : Feed} : F_common [.dat (.int a), .dat (.int b)] f = .ok (.dat (.int (Nat.gcd a b : Nat))) f := by
  apply ev_is
  rw [u_common, ev_dEnd]
  unfold S_common
  simp only [e_seq, ev_bind]
  refine ev_while (I := fun n ρ g => g = f ∧ ∃ x y : Nat, n = y ∧ ρ = [.dat (.int x), .dat (.int y)] ∧ Nat.gcd x y = Nat.gcd a b) (n := b) ?_ ⟨rfl, a, b, rfl, rfl, rfl⟩
  rintro n ρ g ⟨rfl, x, y, rfl, rfl, e⟩
  simp
  refine ⟨fun h => ?_, fun h => ?_⟩
  · have hy : (0 : Int) < n := by omega
    simp [oMod_int hy]
    exact ⟨x % n, Nat.mod_lt _ (by omega), n, ⟨rfl, by omega⟩, by rw [← e, Nat.gcd_comm x n, Nat.gcd_rec n x]; exact Nat.gcd_comm _ _⟩
  · subst h
    rw [Nat.gcd_zero_right] at e
    rw [e]
theorem lowest_ok {a : Int} {b : Nat} {f : Feed} (hb : 0 < b) (h2 : b < 2 ^ 2000) : F_q_lowest [.dat (.int a), .dat (.int b)] f = .ok (.dat (low a b)) f := by
  have hg : 0 < Nat.gcd a.natAbs b := Nat.gcd_pos_of_pos_right _ hb
  have hl : Nat.gcd a.natAbs b ≤ b := Nat.gcd_le_right _ hb
  have d1 : ∀ c : Int, oDiv (.int c) (.int (Nat.gcd a.natAbs b : Nat)) = some (.dat (.int (c / (Nat.gcd a.natAbs b : Nat)))) := fun c => oDiv_int (by omega) (Nat.lt_trans (log2_small (k := 2000) (by rw [Int.natAbs_natCast]; omega) (by decide)) (by decide))
  apply ev_is
  rw [u_q_lowest, ev_dEnd]
  unfold S_q_lowest
  simp
  refine ev_while (I := fun n ρ g => g = f ∧ ∃ x y : Nat, n = y ∧ ρ = [.dat (.int a), .dat (.int b), .dat (.int x), .dat (.int y)] ∧ Nat.gcd x y = Nat.gcd a.natAbs b) (n := b) ?_ ⟨rfl, a.natAbs, b, rfl, rfl, rfl⟩
  rintro n ρ g ⟨rfl, x, y, rfl, rfl, e⟩
  simp
  refine ⟨fun h => ?_, fun h => ?_⟩
  · have hy : (0 : Int) < n := by omega
    simp [oMod_int hy]
    exact ⟨x % n, Nat.mod_lt _ (by omega), n, ⟨rfl, by omega⟩, by rw [← e, Nat.gcd_comm x n, Nat.gcd_rec n x]; exact Nat.gcd_comm _ _⟩
  · subst h
    rw [Nat.gcd_zero_right] at e
    subst e
    simp [d1, low]
@[simp] theorem is_whole_int {i : Int} {f : Feed} : F_is_whole [.dat (.int i)] f = .ok (.dat (.bool true)) f := by
  apply ev_is
  rw [u_is_whole, ev_dEnd]
  unfold S_is_whole
  simp [isOf, tyName]
theorem is_below_ok {p r : Int} {q s : Nat} {f : Feed} (h1 : mulC p s = true) (h2 : mulC r q = true) : F_is_below [.dat (rat p q), .dat (rat r s)] f = .ok (.dat (.bool (decide (p * s < r * q)))) f := by
  apply ev_is
  rw [u_is_below, ev_dEnd]
  unfold S_is_below
  simp [oMul_int h1, oMul_int h2]
theorem is_ratio_low {p : Int} {q : Nat} {f : Feed} (hq : 0 < q) (hc : Nat.gcd p.natAbs q = 1) : F_is_ratio [.dat (rat p q)] f = .ok (.dat (.bool true)) f := by
  apply ev_is
  rw [u_is_ratio, ev_dEnd]
  unfold S_is_ratio
  have hq1 : (1 : Int) ≤ q := by omega
  simp [isOf, tyName, common_ok, hc, hq1]
theorem ratio_ok {p : Int} {q : Nat} {f : Feed} (hq : 0 < q) (h1 : p.natAbs < 2 ^ 2000) (h2 : q < 2 ^ 2000) : F_ratio [.dat (.int p), .dat (.int q)] f = .ok (.dat (low p q)) f := by
  have hg : 0 < Nat.gcd p.natAbs q := Nat.gcd_pos_of_pos_right _ hq
  have hl : Nat.gcd p.natAbs q ≤ q := Nat.gcd_le_right _ hq
  have d1 : ∀ c : Int, oDiv (.int c) (.int (Nat.gcd p.natAbs q : Nat)) = some (.dat (.int (c / (Nat.gcd p.natAbs q : Nat)))) := fun c => oDiv_int (by omega) (Nat.lt_trans (log2_small (k := 2000) (by rw [Int.natAbs_natCast]; omega) (by decide)) (by decide))
  have m1 : ∀ c : Int, c.natAbs < 2 ^ 2000 → oMul (.int 1) (.int c) = some (.dat (.int (1 * c))) := fun c hc => oMul_int (mulC_small (k := 1) (l := 2000) (by decide) hc (by decide))
  have m2 := m1 p h1
  have m3 := m1 q (by rw [Int.natAbs_natCast]; exact h2)
  have z1 : ¬ (q : Int) < 0 := by omega
  have z2 : ¬ (q : Int) = 0 := by omega
  have z3 : ¬ q = 0 := by omega
  apply ev_is
  rw [u_ratio, ev_dEnd]
  unfold S_ratio
  simp [common_ok, z1, z2, z3, m2, m3, d1, ev_ite]
  simp [low]
theorem ev_forT {τ : Type} {enc : τ → PyData} {T : Tgt} {s : Sm} {P : Ctl → Feed → Prop} (I : List τ → Rho → Feed → Prop) (hs : ∀ x xs ρ f, I (x :: xs) ρ f → ∃ ρ1, T.put (enc x) ρ = some ρ1 ∧ Ev (s ρ1 f) (LoopP (I xs) P)) (he : ∀ ρ f, I [] ρ f → P (.nx ρ) f) :
    ∀ (xs : List τ) (ρ : Rho) (f : Feed), I xs ρ f → Ev (forN T s (xs.map enc) ρ f) P := by
  intro xs ρ f h
  refine ev_forL (fun r ρ f => ∃ ys : List τ, r = ys.map enc ∧ I ys ρ f) (fun d r ρ f z => ?_) (fun ρ f z => ?_) _ ρ f ⟨xs, rfl, h⟩
  · obtain ⟨ys, e, z⟩ := z
    cases ys with
    | nil => cases e
    | cons y ys =>
      cases e
      obtain ⟨ρ1, p, q⟩ := hs y ys ρ f z
      refine ⟨ρ1, p, q.mono fun c f1 w => ?_⟩
      cases c with
      | nx ρ2 => exact ⟨ys, rfl, w⟩
      | ct ρ2 => exact ⟨ys, rfl, w⟩
      | bk ρ2 => exact w
      | rt v => exact w
  · obtain ⟨ys, e, z⟩ := z
    cases ys with
    | nil => exact he ρ f z
    | cons y ys => cases e
theorem low_scale {p : Int} {q k : Nat} (hk : 0 < k) (hq : 0 < q) : low (k * p) (k * q) = low p q := by
  unfold low
  have e : Nat.gcd ((k : Int) * p).natAbs (k * q) = k * Nat.gcd p.natAbs q := by
    rw [Int.natAbs_mul, Int.natAbs_natCast, Nat.gcd_mul_left]
  have hg : 0 < Nat.gcd p.natAbs q := Nat.gcd_pos_of_pos_right _ hq
  rw [e]
  have e1 : ((k : Int) * p) / ((k * Nat.gcd p.natAbs q : Nat) : Int) = p / (Nat.gcd p.natAbs q : Nat) := by
    rw [Int.natCast_mul, Int.mul_ediv_mul_of_pos _ _ (by omega)]
  have e2 : k * q / (k * Nat.gcd p.natAbs q) = q / Nat.gcd p.natAbs q := Nat.mul_div_mul_left _ _ hk
  rw [e1, e2]
/-- what the lowest terms are -/
theorem low_parts (p : Int) {q : Nat} (hq : 0 < q) : ∃ (g : Nat) (a : Int) (b : Nat), 0 < g ∧ 0 < b ∧ p = g * a ∧ q = g * b ∧ Nat.gcd a.natAbs b = 1 ∧ low p q = rat a b := by
  have hg : 0 < Nat.gcd p.natAbs q := Nat.gcd_pos_of_pos_right _ hq
  have d1 : ((Nat.gcd p.natAbs q : Nat) : Int) ∣ p := Int.ofNat_dvd_left.mpr (Nat.gcd_dvd_left _ _)
  have d2 : Nat.gcd p.natAbs q ∣ q := Nat.gcd_dvd_right _ _
  refine ⟨Nat.gcd p.natAbs q, p / (Nat.gcd p.natAbs q : Nat), q / Nat.gcd p.natAbs q, hg, Nat.div_pos (Nat.le_of_dvd hq d2) hg, (Int.mul_ediv_cancel' d1).symm, (Nat.mul_div_cancel' d2).symm, ?_, rfl⟩
  rw [Int.natAbs_ediv_of_dvd d1, Int.natAbs_natCast]
  exact Nat.gcd_div_gcd_div_gcd_of_pos_right hq
theorem plus_ok {p r : Int} {q s : Nat} {f : Feed} (hq : 0 < q) (hs : 0 < s) (h1 : p.natAbs < 2 ^ 900) (h2 : q < 2 ^ 900) (h3 : r.natAbs < 2 ^ 900) (h4 : s < 2 ^ 900) : F_plus [.dat (rat p q), .dat (rat r s)] f = .ok (.dat (low (p * s + r * q) (q * s))) f := by
  have m1 : oMul (.int p) (.int s) = some (.dat (.int (p * s))) := oMul_int (mulC_small (k := 900) (l := 900) h1 (by rw [Int.natAbs_natCast]; exact h4) (by decide))
  have m2 : oMul (.int r) (.int q) = some (.dat (.int (r * q))) := oMul_int (mulC_small (k := 900) (l := 900) h3 (by rw [Int.natAbs_natCast]; exact h2) (by decide))
  have m3 : oMul (.int q) (.int s) = some (.dat (.int (q * s))) := oMul_int (mulC_small (k := 900) (l := 900) (by rw [Int.natAbs_natCast]; exact h2) (by rw [Int.natAbs_natCast]; exact h4) (by decide))
  have b1 : p.natAbs * s < 2 ^ 900 * 2 ^ 900 := Nat.mul_lt_mul_of_lt_of_lt h1 h4
  have b2 : r.natAbs * q < 2 ^ 900 * 2 ^ 900 := Nat.mul_lt_mul_of_lt_of_lt h3 h2
  have b3 : q * s < 2 ^ 900 * 2 ^ 900 := Nat.mul_lt_mul_of_lt_of_lt h2 h4
  have b4 : (p * s + r * q).natAbs < 2 ^ 2000 := by
    have a1 : (p * s).natAbs = p.natAbs * s := by rw [Int.natAbs_mul, Int.natAbs_natCast]
    have a2 : (r * q).natAbs = r.natAbs * q := by rw [Int.natAbs_mul, Int.natAbs_natCast]
    have a3 := Int.natAbs_add_le (p * s) (r * q)
    have a4 : (2 : Nat) ^ 900 * 2 ^ 900 + 2 ^ 900 * 2 ^ 900 ≤ 2 ^ 2000 := by decide
    omega
  have b5 : q * s < 2 ^ 2000 := Nat.lt_of_lt_of_le b3 (by decide)
  have r1 := ratio_ok (f := f) (Nat.mul_pos hq hs) b4 b5
  rw [Int.natCast_mul] at r1
  apply ev_is
  rw [u_plus, ev_dEnd]
  unfold S_plus
  simp [m1, m2, m3, r1]
/-- two of one bottom -/
theorem low_add {a b : Int} {T : Nat} (hT : 0 < T) {p r : Int} {q s g k : Nat} (hg : 0 < g) (hk : 0 < k) (e1 : a = g * p) (e2 : T = g * q) (e3 : b = k * r) (e4 : T = k * s) (hq : 0 < q) (hs : 0 < s) : low (p * s + r * q) (q * s) = low (a + b) T := by
  have h1 := low_scale (p := p * s + r * q) (q := q * s) (Nat.mul_pos hg hk) (Nat.mul_pos hq hs)
  have h2 := low_scale (p := a + b) (q := T) hT hT
  rw [← h1, ← h2]
  have x1 : (((g * k : Nat) : Int) * (p * s + r * q)) = T * (a + b) := by
    have e2' : (T : Int) = g * q := by rw [e2, Int.natCast_mul]
    have e4' : (T : Int) = k * s := by rw [e4, Int.natCast_mul]
    have : ((g * k : Nat) : Int) * (p * s + r * q) = (g * p) * (k * s) + (k * r) * (g * q) := by
      rw [Int.natCast_mul]
      simp only [Int.mul_add, Int.add_mul, Int.mul_assoc, Int.mul_left_comm, Int.mul_comm]
    rw [this, ← e1, ← e3, ← e4', ← e2', Int.mul_add, Int.mul_comm a, Int.mul_comm b]
  have x2 : g * k * (q * s) = T * T := by
    have : g * k * (q * s) = (g * q) * (k * s) := by simp only [Nat.mul_assoc, Nat.mul_left_comm, Nat.mul_comm]
    rw [this, ← e2, ← e4]
  rw [x1, x2]
theorem eqv_rat {p r : Int} {q s : Nat} : PyData.eqv (rat p q) (rat r s) = (decide (p = r) && decide (q = s)) := by
  simp only [PyData.eqv, PyData.eqvAll, Bool.and_true]
  congr 1
  by_cases h : q = s
  · rw [h]
    simp
  · simp [h]
    omega
theorem shaped_rat {p : Int} {q : Nat} : SeqAt.shaped (rat p q) = true := by
  apply shaped_tuple
  · simp [PyData.canLayAll0, PyData.canLay0]
  · simp [PyData.depthAll, PyData.depth]
theorem ne_rat {p r : Int} {q s : Nat} : oNe (rat p q) (rat r s) = some (.dat (.bool (!(decide (p = r) && decide (q = s))))) := by
  rw [oNe_of shaped_rat shaped_rat, eqv_rat]
theorem eq_rat {p r : Int} {q s : Nat} : oEq (rat p q) (rat r s) = some (.dat (.bool (decide (p = r) && decide (q = s)))) := by
  rw [oEq_of shaped_rat shaped_rat, eqv_rat]
theorem nice_rat {p : Int} {q : Nat} (h1 : p.natAbs < 10 ^ 560) (h2 : q < 10 ^ 560) : Nice 2 1 (rat p q) :=
  nice_tuple ((niceL_cons (nice_int h1) (niceL_cons (nice_int (by rw [Int.natAbs_natCast]; exact h2)) niceL_nil)).up (by decide) (by decide))
theorem smallI_ok {n : Int} (h : 0 ≤ n) (h2 : n < 2 ^ 60) : smallI n = true := by
  unfold smallI
  rw [decide_eq_true (by omega), decide_eq_true (by omega)]
  rfl
theorem range_len {lo : Int} {n : Nat} : (rangeD lo n).length = n := by simp [rangeD]
theorem range_at {lo : Int} {n i : Nat} {d : PyData} (h : (rangeD lo n)[i]? = some d) : d = .int (lo + i) ∧ i < n := by
  have hi : i < n := by
    have := (List.getElem?_eq_some_iff.mp h).1
    rwa [range_len] at this
  unfold rangeD at h
  rw [List.getElem?_map, List.getElem?_range hi] at h
  cases h
  exact ⟨rfl, hi⟩
@[simp] theorem oSum_nats {ns : List Nat} : oSum (.list (ns.map fun (n : Nat) => .int n)) = some (.dat (.int (ns.sum : Nat))) := by
  have := oSum_ints (ns := ns.map fun (n : Nat) => (n : Int))
  rw [List.map_map] at this
  refine this.trans ?_
  congr 3
  induction ns with
  | nil => rfl
  | cons n r ih =>
    rw [List.map_cons, List.sum_cons, List.sum_cons, ih (by
      have := oSum_ints (ns := r.map fun (n : Nat) => (n : Int))
      rw [List.map_map] at this
      exact this)]
    simp
theorem cutD_take {ds : List PyData} {n : Nat} : cutD ds none (some (n : Int)) = ds.take n := by
  unfold cutD
  rw [HT.sIx_none, HT.sIx_nat]
  simp
theorem Ev.drawn {β : Type} {t s : Int} {r : R RV} {k : PyData → Feed → R β} {Q : β → Feed → Prop} (h : Ev r (Drawn t s)) (hk : ∀ i g, 0 ≤ i → i < s → Fd (t + 1) g → Ev (k (.int i) g) Q) : Ev (pk r k) Q := by
  obtain ⟨_, g, e, i, rfl, h0, h1, hF⟩ := h
  rw [e]
  exact hk i g h0 h1 hF
theorem Ev.drawnD {β : Type} {t s : Int} {r : R RV} {k : PyData → Feed → R β} {Q : β → Feed → Prop} (h : Ev r (Drawn t s)) (hk : ∀ i g, 0 ≤ i → i < s → Fd (t + 1) g → Ev (k (.int i) g) Q) : Ev (dt r k) Q := by
  obtain ⟨_, g, e, i, rfl, h0, h1, hF⟩ := h
  rw [e]
  exact hk i g h0 h1 hF
theorem Ev.drawnE {t s : Int} {r : R RV} {Q : RV → Feed → Prop} (h : Ev r (Drawn t s)) (hk : ∀ i g, 0 ≤ i → i < s → Fd (t + 1) g → Q (.dat (.int i)) g) : Ev r Q := by
  obtain ⟨_, g, e, i, rfl, h0, h1, hF⟩ := h
  rw [e]
  exact ev_ok.mpr (hk i g h0 h1 hF)
theorem mem_le_sum : ∀ {l : List Nat} {x : Nat}, x ∈ l → x ≤ l.sum
  | y :: l, x, h => by
    rw [List.sum_cons]
    rcases List.mem_cons.mp h with e | h
    · omega
    · have := mem_le_sum h
      omega
end Fp

/-! mathematics: ratios as rational numbers -/
namespace Fp
open PySem PySem.Spec L2 Dn
/-- a rational number as a ratio in lowest terms -/
def enc (x : Rat) : PyData := .tuple [.int x.num, .int (x.den : Nat)]
theorem enc_inj {x y : Rat} (h : enc x = enc y) : x = y := by
  have h1 : PyData.tuple [.int x.num, .int (x.den : Nat)] = PyData.tuple [.int y.num, .int (y.den : Nat)] := h
  injection h1 with h1
  injection h1 with h2 h3
  injection h2 with h2
  injection h3 with h3 h4
  injection h3 with h3
  exact Rat.ext h2 (Int.ofNat.inj h3)
theorem low_eq {p : Int} {q : Nat} (hq : 0 < q) : low p q = enc (mkRat p q) := by
  have h : mkRat p q = Rat.normalize p q (by omega) := by
    unfold mkRat
    rw [dif_neg (by omega)]
  rw [h, Rat.normalize_eq]
  rfl
theorem cast_ne {D : Nat} (hD : 0 < D) : (D : Rat) ≠ 0 := by
  intro z
  have := Rat.natCast_eq_zero_iff.mp z
  omega
theorem num_div (x : Rat) : x = x.num / (x.den : Rat) := by
  rw [← Rat.mkRat_eq_div, Rat.mkRat_self]
theorem mul_den (x : Rat) : x * (x.den : Rat) = (x.num : Rat) := by
  have h := num_div x
  have d := cast_ne x.den_pos
  grind
/-- a whole number comes of it by D -/
def Wh (D : Nat) (x : Rat) : Prop := ∃ i : Int, x * (D : Rat) = (i : Rat)
theorem Wh.dvd {D : Nat} {x : Rat} (hD : 0 < D) (h : Wh D x) : x.den ∣ D := by
  obtain ⟨i, h⟩ := h
  have e : x = mkRat i D := by
    rw [Rat.mkRat_eq_div, ← h]
    have d := cast_ne hD
    grind
  rw [e, Rat.den_mkRat, if_neg (by omega)]
  exact Nat.div_dvd_of_dvd (Nat.gcd_dvd_left _ _)
theorem wh_of {D : Nat} {x : Rat} (h : x.den ∣ D) : Wh D x := by
  obtain ⟨k, rfl⟩ := h
  refine ⟨x.num * k, ?_⟩
  rw [Rat.natCast_mul, Rat.intCast_mul, Rat.intCast_natCast, ← mul_den x]
  grind
theorem Wh.up {D E : Nat} {x : Rat} (h : Wh D x) (hd : D ∣ E) : Wh E x := by
  obtain ⟨k, rfl⟩ := hd
  obtain ⟨i, h⟩ := h
  refine ⟨i * k, ?_⟩
  rw [Rat.natCast_mul, Rat.intCast_mul, Rat.intCast_natCast, ← h]
  grind
theorem Wh.add {D : Nat} {x y : Rat} (h : Wh D x) (k : Wh D y) : Wh D (x + y) := by
  obtain ⟨i, h⟩ := h
  obtain ⟨j, k⟩ := k
  refine ⟨i + j, ?_⟩
  rw [Rat.intCast_add, ← h, ← k]
  grind
theorem Wh.neg {D : Nat} {x : Rat} (h : Wh D x) : Wh D (-x) := by
  obtain ⟨i, h⟩ := h
  refine ⟨-i, ?_⟩
  rw [Rat.intCast_neg, ← h]
  grind
theorem Wh.sub {D : Nat} {x y : Rat} (h : Wh D x) (k : Wh D y) : Wh D (x - y) := by
  rw [Rat.sub_eq_add_neg]
  exact h.add k.neg
theorem Wh.mul {D E : Nat} {x y : Rat} (h : Wh D x) (k : Wh E y) : Wh (D * E) (x * y) := by
  obtain ⟨i, h⟩ := h
  obtain ⟨j, k⟩ := k
  refine ⟨i * j, ?_⟩
  rw [Rat.intCast_mul, ← h, ← k, Rat.natCast_mul]
  grind
theorem wh_int {D : Nat} (i : Int) : Wh D (i : Rat) := ⟨i * D, by rw [Rat.intCast_mul, Rat.intCast_natCast]⟩
theorem wh_nat {D : Nat} (i : Nat) : Wh D (i : Rat) := wh_int (D := D) i
theorem wh_0 {D : Nat} : Wh D 0 := wh_int 0
theorem wh_1 {D : Nat} : Wh D 1 := wh_int 1
/-- at most B either way -/
def Ab (B x : Rat) : Prop := -B ≤ x ∧ x ≤ B
theorem Ab.up {B C x : Rat} (h : Ab B x) (hC : B ≤ C) : Ab C x := ⟨by have := h.1; grind, by have := h.2; grind⟩
theorem Ab.add {B C x y : Rat} (h : Ab B x) (k : Ab C y) : Ab (B + C) (x + y) := ⟨by have := h.1; have := k.1; grind, by have := h.2; have := k.2; grind⟩
theorem Ab.sub {B C x y : Rat} (h : Ab B x) (k : Ab C y) : Ab (B + C) (x - y) := ⟨by have := h.1; have := k.2; grind, by have := h.2; have := k.1; grind⟩
theorem Ab.mul {B C x y : Rat} (h : Ab B x) (k : Ab C y) : Ab (B * C) (x * y) := by
  obtain ⟨h1, h2⟩ := h
  obtain ⟨k1, k2⟩ := k
  have a := Rat.mul_nonneg (show 0 ≤ B - x by grind) (show 0 ≤ C + y by grind)
  have b := Rat.mul_nonneg (show 0 ≤ B + x by grind) (show 0 ≤ C - y by grind)
  have c := Rat.mul_nonneg (show 0 ≤ B - x by grind) (show 0 ≤ C - y by grind)
  have d := Rat.mul_nonneg (show 0 ≤ B + x by grind) (show 0 ≤ C + y by grind)
  exact ⟨by grind, by grind⟩
theorem ab_01 {x : Rat} (h : 0 ≤ x) (h1 : x ≤ 1) : Ab 1 x := ⟨by grind, h1⟩
theorem ab_0 {B : Rat} (h : 0 ≤ B) : Ab B 0 := ⟨by grind, h⟩
/-- short enough for the operations -/
structure Sz (n : Nat) (x : Rat) : Prop where
  num : x.num.natAbs < 2 ^ n
  den : x.den < 2 ^ n
theorem Sz.up {m n : Nat} {x : Rat} (h : Sz m x) (hn : m ≤ n) : Sz n x := ⟨Nat.lt_of_lt_of_le h.num (Nat.pow_le_pow_right (by decide) hn), Nat.lt_of_lt_of_le h.den (Nat.pow_le_pow_right (by decide) hn)⟩
theorem num_le {B : Nat} {x : Rat} (h : Ab (B : Rat) x) : x.num.natAbs ≤ B * x.den := by
  obtain ⟨h1, h2⟩ := h
  have e := mul_den x
  have d : (0 : Rat) ≤ (x.den : Rat) := Rat.natCast_nonneg
  have a := Rat.mul_nonneg (show 0 ≤ (B : Rat) - x by grind) d
  have b := Rat.mul_nonneg (show 0 ≤ (B : Rat) + x by grind) d
  have a2 : ((x.num : Int) : Rat) ≤ ((B * x.den : Int) : Rat) := by
    rw [Rat.intCast_mul, Rat.intCast_natCast, Rat.intCast_natCast, ← e]
    grind
  have b2 : ((-(B * x.den) : Int) : Rat) ≤ ((x.num : Int) : Rat) := by
    rw [Rat.intCast_neg, Rat.intCast_mul, Rat.intCast_natCast, Rat.intCast_natCast, ← e]
    grind
  have a3 := Rat.intCast_le_intCast.mp a2
  have b3 := Rat.intCast_le_intCast.mp b2
  rw [← Int.natCast_mul] at a3 b3
  omega
theorem sz_of {D B n : Nat} {x : Rat} (hD : 0 < D) (hw : Wh D x) (ha : Ab (B : Rat) x) (h1 : B * D < 2 ^ n) (h2 : D < 2 ^ n) : Sz n x := by
  have hd := Nat.le_of_dvd hD (hw.dvd hD)
  exact ⟨Nat.lt_of_le_of_lt (num_le ha) (Nat.lt_of_le_of_lt (Nat.mul_le_mul_left B hd) h1), Nat.lt_of_le_of_lt hd h2⟩
/-! the operations -/
section
variable {x y : Rat} {f : Feed}
theorem mulC_sz {a b : Int} {n : Nat} (h : a.natAbs < 2 ^ n) (h2 : b.natAbs < 2 ^ n) (hn : n ≤ 4000) : mulC a b = true := by
  have h3 : (2 : Nat) ^ n ≤ 2 ^ 4000 := Nat.pow_le_pow_right (by decide) hn
  exact mulC_small (k := 4000) (l := 4000) (Nat.lt_of_lt_of_le h h3) (Nat.lt_of_lt_of_le h2 h3) (by decide)
theorem ratio_big {p : Int} {q : Nat} {f : Feed} (hq : 0 < q) (h1 : p.natAbs < 2 ^ 8500) (h2 : q < 2 ^ 8500) : F_ratio [.dat (.int p), .dat (.int q)] f = .ok (.dat (enc (mkRat p q))) f := by
  have hg : 0 < Nat.gcd p.natAbs q := Nat.gcd_pos_of_pos_right _ hq
  have hl : Nat.gcd p.natAbs q ≤ q := Nat.gcd_le_right _ hq
  have d1 : ∀ c : Int, oDiv (.int c) (.int (Nat.gcd p.natAbs q : Nat)) = some (.dat (.int (c / (Nat.gcd p.natAbs q : Nat)))) := fun c => oDiv_int (by omega) (Nat.lt_trans (log2_small (k := 8500) (by rw [Int.natAbs_natCast]; omega) (by decide)) (by decide))
  have m1 : ∀ c : Int, c.natAbs < 2 ^ 8500 → oMul (.int 1) (.int c) = some (.dat (.int (1 * c))) := fun c hc => oMul_int (mulC_small (k := 1) (l := 8500) (by decide) hc (by decide))
  have m2 := m1 p h1
  have m3 := m1 q (by rw [Int.natAbs_natCast]; exact h2)
  have z1 : ¬ (q : Int) < 0 := by omega
  have z2 : ¬ (q : Int) = 0 := by omega
  have z3 : ¬ q = 0 := by omega
  rw [← low_eq hq]
  apply ev_is
  rw [u_ratio, ev_dEnd]
  unfold S_ratio
  simp [common_ok, z1, z2, z3, m2, m3, d1, ev_ite]
  simp [low]
theorem prod_lt {a b : Nat} {n : Nat} (h : a < 2 ^ n) (h2 : b < 2 ^ n) (hn : n ≤ 4000) : a * b < 2 ^ 8000 := by
  have h3 : (2 : Nat) ^ n ≤ 2 ^ 4000 := Nat.pow_le_pow_right (by decide) hn
  have := Nat.mul_lt_mul_of_lt_of_lt (Nat.lt_of_lt_of_le h h3) (Nat.lt_of_lt_of_le h2 h3)
  exact Nat.lt_of_lt_of_le this (by decide)
theorem add_eq (x y : Rat) : mkRat (x.num * y.den + y.num * x.den) (x.den * y.den) = x + y := by
  rw [Rat.mkRat_eq_div, Rat.natCast_mul, Rat.intCast_add, Rat.intCast_mul, Rat.intCast_mul, Rat.intCast_natCast, Rat.intCast_natCast, ← mul_den x, ← mul_den y]
  have a := cast_ne x.den_pos
  have b := cast_ne y.den_pos
  grind
theorem sub_eq (x y : Rat) : mkRat (x.num * y.den - y.num * x.den) (x.den * y.den) = x - y := by
  rw [Rat.mkRat_eq_div, Rat.natCast_mul, Rat.intCast_sub, Rat.intCast_mul, Rat.intCast_mul, Rat.intCast_natCast, Rat.intCast_natCast, ← mul_den x, ← mul_den y]
  have a := cast_ne x.den_pos
  have b := cast_ne y.den_pos
  grind
theorem mul_eq (x y : Rat) : mkRat (x.num * y.num) (x.den * y.den) = x * y := by
  rw [Rat.mkRat_eq_div, Rat.natCast_mul, Rat.intCast_mul, ← mul_den x, ← mul_den y]
  have a := cast_ne x.den_pos
  have b := cast_ne y.den_pos
  grind
theorem plus_q {n : Nat} (hx : Sz n x) (hy : Sz n y) (hn : n ≤ 4000) : F_plus [.dat (enc x), .dat (enc y)] f = .ok (.dat (enc (x + y))) f := by
  have m1 : oMul (.int x.num) (.int (y.den : Nat)) = some (.dat (.int (x.num * y.den))) := oMul_int (mulC_sz hx.num (by rw [Int.natAbs_natCast]; exact hy.den) hn)
  have m2 : oMul (.int y.num) (.int (x.den : Nat)) = some (.dat (.int (y.num * x.den))) := oMul_int (mulC_sz hy.num (by rw [Int.natAbs_natCast]; exact hx.den) hn)
  have m3 : oMul (.int (x.den : Nat)) (.int (y.den : Nat)) = some (.dat (.int (x.den * y.den))) := oMul_int (mulC_sz (by rw [Int.natAbs_natCast]; exact hx.den) (by rw [Int.natAbs_natCast]; exact hy.den) hn)
  have b1 := prod_lt hx.num hy.den hn
  have b2 := prod_lt hy.num hx.den hn
  have b3 := prod_lt hx.den hy.den hn
  have k : (2 : Nat) ^ 8000 + 2 ^ 8000 ≤ 2 ^ 8500 := by decide
  have b4 : (x.num * y.den + y.num * x.den).natAbs < 2 ^ 8500 := by
    have a1 : (x.num * y.den).natAbs = x.num.natAbs * y.den := by rw [Int.natAbs_mul, Int.natAbs_natCast]
    have a2 : (y.num * x.den).natAbs = y.num.natAbs * x.den := by rw [Int.natAbs_mul, Int.natAbs_natCast]
    have a3 := Int.natAbs_add_le (x.num * y.den) (y.num * x.den)
    omega
  have r1 := ratio_big (f := f) (Nat.mul_pos x.den_pos y.den_pos) b4 (by omega)
  rw [Int.natCast_mul, add_eq] at r1
  apply ev_is
  rw [u_plus, ev_dEnd]
  unfold S_plus enc
  simp [m1, m2, m3]
  exact ⟨_, f, r1, by simp [enc]⟩
theorem times_q {n : Nat} (hx : Sz n x) (hy : Sz n y) (hn : n ≤ 4000) : F_times [.dat (enc x), .dat (enc y)] f = .ok (.dat (enc (x * y))) f := by
  have m1 : oMul (.int x.num) (.int y.num) = some (.dat (.int (x.num * y.num))) := oMul_int (mulC_sz hx.num hy.num hn)
  have m3 : oMul (.int (x.den : Nat)) (.int (y.den : Nat)) = some (.dat (.int (x.den * y.den))) := oMul_int (mulC_sz (by rw [Int.natAbs_natCast]; exact hx.den) (by rw [Int.natAbs_natCast]; exact hy.den) hn)
  have b1 := prod_lt hx.num hy.num hn
  have b3 := prod_lt hx.den hy.den hn
  have k : (2 : Nat) ^ 8000 ≤ 2 ^ 8500 := by decide
  have b4 : (x.num * y.num).natAbs < 2 ^ 8500 := by
    rw [Int.natAbs_mul]
    omega
  have r1 := ratio_big (f := f) (Nat.mul_pos x.den_pos y.den_pos) b4 (by omega)
  rw [Int.natCast_mul, mul_eq] at r1
  apply ev_is
  rw [u_times, ev_dEnd]
  unfold S_times enc
  simp [m1, m3]
  exact ⟨_, f, r1, by simp [enc]⟩
end
end Fp

/-! mathematics: sums, lives, chances -/
namespace Fp
open PySem PySem.Spec L2 Dn
theorem enc0 : enc 0 = .tuple [.int 0, .int 1] := rfl
theorem enc1 : enc 1 = .tuple [.int 1, .int 1] := rfl
theorem shaped_enc {x : Rat} : SeqAt.shaped (enc x) = true := shaped_rat (p := x.num) (q := x.den)
theorem eqv_enc {x y : Rat} : PyData.eqv (enc x) (enc y) = decide (x = y) := by
  refine (eqv_rat (p := x.num) (q := x.den) (r := y.num) (s := y.den)).trans ?_
  by_cases h : x = y
  · subst h
    simp
  · rw [decide_eq_false h]
    by_cases a : x.num = y.num
    · by_cases b : x.den = y.den
      · exact absurd (Rat.ext a b) h
      · simp [b]
    · simp [a]
theorem eq_enc {x y : Rat} : oEq (enc x) (enc y) = some (.dat (.bool (decide (x = y)))) := by
  rw [oEq_of shaped_enc shaped_enc, eqv_enc]
theorem ne_enc {x y : Rat} : oNe (enc x) (enc y) = some (.dat (.bool (!decide (x = y)))) := by
  rw [oNe_of shaped_enc shaped_enc, eqv_enc]
theorem eq_enc0 {x : Rat} : oEq (enc x) (.tuple [.int 0, .int 1]) = some (.dat (.bool (decide (x = 0)))) := eq_enc (y := 0)
theorem ne_enc0 {x : Rat} : oNe (enc x) (.tuple [.int 0, .int 1]) = some (.dat (.bool (!decide (x = 0)))) := ne_enc (y := 0)
theorem nice_enc {x : Rat} {n : Nat} (h : Sz n x) (hn : n ≤ 1850) : Nice 2 1 (enc x) := by
  have k : (2 : Nat) ^ n ≤ 2 ^ 1850 := Nat.pow_le_pow_right (by decide) hn
  have k2 : (2 : Nat) ^ 1850 < 10 ^ 560 := by decide
  have := h.num
  have := h.den
  exact nice_rat (p := x.num) (q := x.den) (by omega) (by omega)
section
variable {x y : Rat} {f : Feed}
theorem q_low_q {p : Int} {q : Nat} (hq : 0 < q) (h2 : q < 2 ^ 8500) : F_q_low [.dat (.int p), .dat (.int q)] f = .ok (.dat (enc (mkRat p q))) f := by
  have hg : 0 < Nat.gcd p.natAbs q := Nat.gcd_pos_of_pos_right _ hq
  have hl : Nat.gcd p.natAbs q ≤ q := Nat.gcd_le_right _ hq
  have d1 : ∀ c : Int, oDiv (.int c) (.int (Nat.gcd p.natAbs q : Nat)) = some (.dat (.int (c / (Nat.gcd p.natAbs q : Nat)))) := fun c => oDiv_int (by omega) (Nat.lt_trans (log2_small (k := 8500) (by rw [Int.natAbs_natCast]; omega) (by decide)) (by decide))
  rw [← low_eq hq]
  apply ev_is
  rw [u_q_low, ev_dEnd]
  unfold S_q_low
  simp
  refine ev_while (I := fun n ρ g => g = f ∧ ∃ x y : Nat, n = y ∧ ρ = [.dat (.int p), .dat (.int q), .dat (.int x), .dat (.int y)] ∧ Nat.gcd x y = Nat.gcd p.natAbs q) (n := q) ?_ ⟨rfl, p.natAbs, q, rfl, rfl, rfl⟩
  rintro n ρ g ⟨rfl, x, y, rfl, rfl, e⟩
  simp
  refine ⟨fun h => ?_, fun h => ?_⟩
  · have hy : (0 : Int) < n := by omega
    simp [oMod_int hy]
    exact ⟨x % n, Nat.mod_lt _ (by omega), n, ⟨rfl, by omega⟩, by rw [← e, Nat.gcd_comm x n, Nat.gcd_rec n x]; exact Nat.gcd_comm _ _⟩
  · subst h
    rw [Nat.gcd_zero_right] at e
    subst e
    simp [d1, low]
theorem q_times_q {n : Nat} (hx : Sz n x) (hy : Sz n y) (hn : n ≤ 4000) : F_q_times [.dat (enc x), .dat (enc y)] f = .ok (.dat (enc (x * y))) f := by
  have m1 : oMul (.int x.num) (.int y.num) = some (.dat (.int (x.num * y.num))) := oMul_int (mulC_sz hx.num hy.num hn)
  have m3 : oMul (.int (x.den : Nat)) (.int (y.den : Nat)) = some (.dat (.int (x.den * y.den))) := oMul_int (mulC_sz (by rw [Int.natAbs_natCast]; exact hx.den) (by rw [Int.natAbs_natCast]; exact hy.den) hn)
  have b3 := prod_lt hx.den hy.den hn
  have k : (2 : Nat) ^ 8000 ≤ 2 ^ 8500 := by decide
  have r1 := q_low_q (f := f) (p := x.num * y.num) (Nat.mul_pos x.den_pos y.den_pos) (by omega)
  rw [Int.natCast_mul, mul_eq] at r1
  apply ev_is
  rw [u_q_times, ev_dEnd]
  unfold S_q_times enc
  simp [m1, m3]
  exact ⟨_, f, r1, by simp [enc]⟩
theorem ab_sz {D B n : Nat} (hD : 0 < D) (hw : Wh D x) (ha : Ab (B : Rat) x) (hB : 0 < B) (h1 : B * D < 2 ^ n) : Sz n x := sz_of hD hw ha h1 (Nat.lt_of_le_of_lt (Nat.le_mul_of_pos_left D hB) h1)
end
/-! sums -/
theorem sum_wh {D : Nat} : ∀ {xs : List Rat}, (∀ x ∈ xs, Wh D x) → Wh D xs.sum
  | [], _ => wh_0
  | x :: xs, h => by
    rw [List.sum_cons]
    exact (h x List.mem_cons_self).add (sum_wh fun y hy => h y (List.mem_cons_of_mem _ hy))
theorem summed_q {D B L : Nat} {xs : List Rat} {f : Feed} (hD : 0 < D) (hB : 0 < B) (hw : ∀ x ∈ xs, Wh D x) (hb : ∀ x ∈ xs, Ab (B : Rat) x) (hL : xs.length ≤ L) (hs : B * (L + 1) * D < 2 ^ 4000) : F_summed [.dat (.list (xs.map enc))] f = .ok (.dat (enc xs.sum)) f := by
  apply ev_is
  rw [u_summed, ev_dEnd]
  unfold S_summed
  simp
  refine ev_forT (I := fun (rest : List Rat) ρ g => g = f ∧ ∃ (acc : Rat) (k : Nat) (s2 : Slot), ρ = [.dat (.list (xs.map enc)), .dat (enc acc), s2] ∧ acc + rest.sum = xs.sum ∧ Wh D acc ∧ Ab ((B * k : Nat) : Rat) acc ∧ k + rest.length ≤ L ∧ (∀ x ∈ rest, Wh D x ∧ Ab (B : Rat) x)) ?_ ?_ xs _ f ⟨rfl, 0, 0, .emp, rfl, by grind, wh_0, ab_0 Rat.natCast_nonneg, by omega, fun x hx => ⟨hw x hx, hb x hx⟩⟩
  · rintro x rest ρ g ⟨rfl, acc, k, s2, rfl, e, w, a, l, h⟩
    obtain ⟨hx1, hx2⟩ := h x List.mem_cons_self
    rw [List.length_cons] at l
    rw [List.sum_cons] at e
    have hm : ∀ j, j ≤ L → (B * (j + 1)) * D < 2 ^ 4000 := fun j hj => Nat.lt_of_le_of_lt (Nat.mul_le_mul_right D (Nat.mul_le_mul_left B (by omega))) hs
    have s1 : Sz 4000 acc := ab_sz hD w (a.up (Rat.natCast_le_natCast.mpr (Nat.mul_le_mul_left B (Nat.le_succ k)))) (Nat.mul_pos hB (Nat.succ_pos k)) (hm k (by omega))
    have s2 : Sz 4000 x := ab_sz hD hx1 hx2 hB (by have := hm 0 (by omega); rwa [Nat.zero_add, Nat.mul_one] at this)
    have p := plus_q (f := g) s1 s2 (Nat.le_refl _)
    refine ⟨_, rfl, ?_⟩
    simp [p]
    refine ⟨acc + x, rfl, by grind, w.add hx1, k + 1, ?_, by omega, fun y hy => h y (List.mem_cons_of_mem _ hy)⟩
    have := a.add hx2
    rw [← Rat.natCast_add] at this
    rw [← Rat.natCast_mul, Nat.mul_succ]
    exact this
  · rintro ρ g ⟨rfl, acc, k, s2, rfl, e, w, a, l, h⟩
    simp
    rw [List.sum_nil] at e
    have : acc = xs.sum := by grind
    rw [this]
theorem q_sum_q {D B L : Nat} {xs : List Rat} {f : Feed} (hD : 0 < D) (hB : 0 < B) (hw : ∀ x ∈ xs, Wh D x) (hb : ∀ x ∈ xs, Ab (B : Rat) x) (hL : xs.length ≤ L) (hs : B * (L + 1) * D < 2 ^ 4000) : F_q_sum [.dat (.list (xs.map enc))] f = .ok (.dat (enc xs.sum)) f := by
  apply ev_is
  rw [u_q_sum, ev_dEnd]
  unfold S_q_sum
  simp
  refine ev_forT (I := fun (rest : List Rat) ρ g => g = f ∧ ∃ (acc : Rat) (k : Nat) (s2 : Slot), ρ = [.dat (.list (xs.map enc)), .dat (enc acc), s2] ∧ acc + rest.sum = xs.sum ∧ Wh D acc ∧ Ab ((B * k : Nat) : Rat) acc ∧ k + rest.length ≤ L ∧ (∀ x ∈ rest, Wh D x ∧ Ab (B : Rat) x)) ?_ ?_ xs _ f ⟨rfl, 0, 0, .emp, rfl, by grind, wh_0, ab_0 Rat.natCast_nonneg, by omega, fun x hx => ⟨hw x hx, hb x hx⟩⟩
  · rintro x rest ρ g ⟨rfl, acc, k, s2, rfl, e, w, a, l, h⟩
    obtain ⟨hx1, hx2⟩ := h x List.mem_cons_self
    rw [List.length_cons] at l
    rw [List.sum_cons] at e
    have hm : ∀ j, j ≤ L → (B * (j + 1)) * D < 2 ^ 4000 := fun j hj => Nat.lt_of_le_of_lt (Nat.mul_le_mul_right D (Nat.mul_le_mul_left B (by omega))) hs
    have s1 : Sz 4000 acc := ab_sz hD w (a.up (Rat.natCast_le_natCast.mpr (Nat.mul_le_mul_left B (Nat.le_succ k)))) (Nat.mul_pos hB (Nat.succ_pos k)) (hm k (by omega))
    have s2 : Sz 4000 x := ab_sz hD hx1 hx2 hB (by have := hm 0 (by omega); rwa [Nat.zero_add, Nat.mul_one] at this)
    have m1 : oMul (.int acc.num) (.int (x.den : Nat)) = some (.dat (.int (acc.num * x.den))) := oMul_int (mulC_sz s1.num (by rw [Int.natAbs_natCast]; exact s2.den) (Nat.le_refl _))
    have m2 : oMul (.int x.num) (.int (acc.den : Nat)) = some (.dat (.int (x.num * acc.den))) := oMul_int (mulC_sz s2.num (by rw [Int.natAbs_natCast]; exact s1.den) (Nat.le_refl _))
    have m3 : oMul (.int (acc.den : Nat)) (.int (x.den : Nat)) = some (.dat (.int (acc.den * x.den))) := oMul_int (mulC_sz (by rw [Int.natAbs_natCast]; exact s1.den) (by rw [Int.natAbs_natCast]; exact s2.den) (Nat.le_refl _))
    have b3 := prod_lt s1.den s2.den (Nat.le_refl _)
    have kk : (2 : Nat) ^ 8000 ≤ 2 ^ 8500 := by decide
    have p := q_low_q (f := g) (p := acc.num * x.den + x.num * acc.den) (Nat.mul_pos acc.den_pos x.den_pos) (by omega)
    rw [Int.natCast_mul, add_eq] at p
    refine ⟨_, rfl, ?_⟩
    simp only [e_set, e_Call, e_Vals_cons, e_Vals_nil, e_Bin, e_V, e_C, List.getElem?_cons_succ, List.getElem?_cons_zero, List.set_cons_succ, List.set_cons_zero, pk_ok_dat, enc, e_ix_tuple, e_at0, e_at1, Option.map_some, give_some, m1, m2, m3, oAdd_int, bind_ok, e_arg_dat]
    rw [p]
    simp
    refine ⟨acc + x, rfl, by grind, w.add hx1, k + 1, ?_, by omega, fun y hy => h y (List.mem_cons_of_mem _ hy)⟩
    have := a.add hx2
    rw [← Rat.natCast_add] at this
    rw [← Rat.natCast_mul, Nat.mul_succ]
    exact this
  · rintro ρ g ⟨rfl, acc, k, s2, rfl, e, w, a, l, h⟩
    simp
    rw [List.sum_nil] at e
    have : acc = xs.sum := by grind
    rw [this]
end Fp

/-! mathematics: lives and their chances -/
namespace Fp
open PySem PySem.Spec L2 Dn
structure Life where
  row : List Rat
  step : Rat
def lifeD (L : Life) : PyData := .tuple [.tuple (L.row.map enc), enc L.step]
def lastR (L : Life) : Rat := L.row.getLastD 0
/-- all chances, added -/
def tot (L : Life) : Rat := L.row.sum + lastR L * L.step / (1 - L.step)
/-- the chance at k -/
def ch (L : Life) (k : Nat) : Rat := if k ≤ L.row.length then L.row.getD (k - 1) 0 else if L.step = 0 then 0 else lastR L * L.step ^ (k - L.row.length)
/-- what is needed of a life here: W the rows' bottom, s the step's -/
structure LOk (W s : Nat) (L : Life) : Prop where
  W0 : 0 < W
  s0 : 0 < s
  row : ∀ x ∈ L.row, Wh W x ∧ 0 ≤ x ∧ x ≤ 1
  step : Wh s L.step
  st0 : 0 ≤ L.step
  st1 : L.step < 1
  emp : L.row = [] → L.step = 0
  tot1 : tot L ≤ 1
theorem lastR_mem {L : Life} (h : L.row ≠ []) : lastR L ∈ L.row := by
  unfold lastR
  rw [List.getLastD_eq_getLast?, List.getLast?_eq_some_getLast h]
  exact List.getLast_mem h
theorem wh_pow {D : Nat} {x : Rat} (h : Wh D x) : ∀ n : Nat, Wh (D ^ n) (x ^ n)
  | 0 => by
    rw [Rat.pow_zero, Nat.pow_zero]
    exact wh_1
  | n + 1 => by
    rw [Rat.pow_succ, Nat.pow_succ]
    exact (wh_pow h n).mul h
theorem pow_01 {x : Rat} (h : 0 ≤ x) (h1 : x ≤ 1) : ∀ n : Nat, 0 ≤ x ^ n ∧ x ^ n ≤ 1
  | 0 => by
    rw [Rat.pow_zero]
    exact ⟨by decide, by decide⟩
  | n + 1 => by
    rw [Rat.pow_succ]
    obtain ⟨a, b⟩ := pow_01 h h1 n
    have c := Rat.mul_nonneg a h
    have d := Rat.mul_nonneg (show 0 ≤ 1 - x ^ n by grind) h
    exact ⟨c, by grind⟩
theorem mul_01 {x y : Rat} (h : 0 ≤ x ∧ x ≤ 1) (k : 0 ≤ y ∧ y ≤ 1) : 0 ≤ x * y ∧ x * y ≤ 1 := by
  have c := Rat.mul_nonneg h.1 k.1
  have d := Rat.mul_nonneg (show 0 ≤ 1 - x by grind) k.1
  exact ⟨c, by grind⟩
section
variable {W s : Nat} {L : Life}
theorem LOk.tail (h : LOk W s L) (hr : L.row ≠ []) (n : Nat) : Wh (W * s ^ n) (lastR L * L.step ^ n) ∧ 0 ≤ lastR L * L.step ^ n ∧ lastR L * L.step ^ n ≤ 1 := by
  have a := h.row _ (lastR_mem hr)
  have b := pow_01 h.st0 (by have := h.st1; grind) n
  exact ⟨a.1.mul (wh_pow h.step n), mul_01 a.2 b⟩
theorem LOk.ch (h : LOk W s L) {k m : Nat} (hk : k ≤ m) : Wh (W * s ^ m) (ch L k) ∧ 0 ≤ Fp.ch L k ∧ Fp.ch L k ≤ 1 := by
  have z : Wh (W * s ^ m) 0 ∧ (0 : Rat) ≤ 0 ∧ (0 : Rat) ≤ 1 := ⟨wh_0, by decide, by decide⟩
  unfold Fp.ch
  split
  · rename_i hl
    by_cases q : k - 1 < L.row.length
    · rw [List.getD_eq_getElem?_getD, List.getElem?_eq_getElem q]
      have a := h.row _ (List.getElem_mem q)
      exact ⟨a.1.up (Nat.dvd_mul_right _ _), a.2⟩
    · rw [List.getD_eq_getElem?_getD, List.getElem?_eq_none (by omega)]
      exact z
  · split
    · exact z
    · rename_i h1 h2
      have hr : L.row ≠ [] := fun q => h2 (h.emp q)
      have a := h.tail hr (k - L.row.length)
      exact ⟨a.1.up (Nat.mul_dvd_mul_left W (Nat.pow_dvd_pow s (by omega))), a.2⟩
theorem pow_bd {s m : Nat} (h : s ≤ 4) (m) : s ^ m ≤ 2 ^ (2 * m) := by
  rw [Nat.pow_mul]
  exact Nat.pow_le_pow_left h m
end
theorem atI_last {x : Rat} {row : List Rat} (h : row ≠ []) : atI (row.map enc) (-1) = some (enc (row.getLastD 0)) := by
  obtain ⟨ys, y, rfl⟩ : ∃ ys y, row = ys ++ [y] := ⟨row.dropLast, row.getLast h, (List.dropLast_concat_getLast h).symm⟩
  rw [List.map_append, List.map_cons, List.map_nil]
  rw [L2.atI_last]
  simp
theorem chance_at_q {W s m k : Nat} {L : Life} {f : Feed} (h : LOk W s L) (h1 : 1 ≤ k) (hk : k ≤ m) (hm : W * s ^ m < 2 ^ 4000) (hs : s < 2 ^ 4000) (hm2 : m < 1000) : F_chance_at [.dat (lifeD L), .dat (.int k)] f = .ok (.dat (enc (ch L k))) f := by
  apply ev_is
  rw [u_chance_at, ev_dEnd]
  unfold S_chance_at lifeD
  simp [eq_enc0, ev_ite]
  refine ⟨fun hl => ?_, fun hl => ⟨fun h0 => ?_, fun h0 => ?_⟩⟩
  · have e : ((k : Int) - 1) = ((k - 1 : Nat) : Int) := by omega
    have hl2 : k ≤ L.row.length := by omega
    have hq : k - 1 < L.row.length := by omega
    rw [e]
    simp [List.getElem?_eq_getElem hq, ch, hl2]
  · have hl2 : ¬ k ≤ L.row.length := by omega
    simp [ch, hl2, h0, enc0]
  · have hl2 : ¬ k ≤ L.row.length := by omega
    have hr : L.row ≠ [] := fun q => h0 (h.emp q)
    have al : atI (L.row.map enc) (-1) = some (enc (lastR L)) := atI_last (x := 0) hr
    have e : ((k : Int) - L.row.length) = ((k - L.row.length : Nat) : Int) := by omega
    have sz : ∀ n, n ≤ m → Sz 4000 (lastR L * L.step ^ n) := fun n hn => by
      have t := h.tail hr n
      have d : W * s ^ n ≤ W * s ^ m := Nat.mul_le_mul_left W (Nat.pow_le_pow_right h.s0 hn)
      exact ab_sz (D := W * s ^ n) (B := 1) (Nat.mul_pos h.W0 (Nat.pow_pos h.s0)) t.1 (ab_01 t.2.1 t.2.2) (by decide) (by omega)
    have ss : Sz 4000 L.step := ab_sz (D := s) (B := 1) h.s0 h.step (ab_01 h.st0 (by have := h.st1; grind)) (by decide) (by omega)
    rw [al]
    simp [e, smallI_ok (n := ((k - L.row.length : Nat) : Int)) (by omega) (by omega)]
    refine ev_for (I := fun i ρ g => g = f ∧ ∃ s5 : Slot, ρ = [.dat (.tuple [.tuple (L.row.map enc), enc L.step]), .dat (.int k), .dat (.tuple (L.row.map enc)), .dat (enc L.step), .dat (enc (lastR L * L.step ^ i)), s5]) ⟨rfl, .emp, ?_⟩ ?_ ?_
    · rw [Rat.pow_zero, Rat.mul_one]
    · rintro i d ρ g hd ⟨rfl, s5, rfl⟩
      obtain ⟨rfl, hi⟩ := range_at hd
      have p := times_q (f := g) (sz i (by omega)) ss (Nat.le_refl _)
      refine ⟨_, rfl, ?_⟩
      simp [p]
      rw [Rat.pow_succ, Rat.mul_assoc]
    · rintro ρ g ⟨rfl, s5, rfl⟩
      rw [range_len]
      simp [ch, hl2, h0]
theorem mk_pow (x y : Rat) : ∀ i : Nat, mkRat (x.num * y.num ^ i) (x.den * y.den ^ i) = x * y ^ i
  | 0 => by rw [Int.pow_zero, Nat.pow_zero, Int.mul_one, Nat.mul_one, Rat.mkRat_self, Rat.pow_zero, Rat.mul_one]
  | i + 1 => by
    rw [Int.pow_succ, Nat.pow_succ, Rat.pow_succ, ← Int.mul_assoc, ← Nat.mul_assoc, ← Rat.mkRat_mul_mkRat, mk_pow x y i, Rat.mkRat_self, Rat.mul_assoc]
theorem frac_le {W : Nat} {x : Rat} (hW : 0 < W) (h : Wh W x) (h0 : 0 ≤ x) (h1 : x ≤ 1) : x.num.natAbs ≤ W ∧ x.den ≤ W := by
  have d := Nat.le_of_dvd hW (h.dvd hW)
  have n := num_le (B := 1) (ab_01 h0 h1)
  omega
theorem q_chance_q {W s m k : Nat} {L : Life} {f : Feed} (h : LOk W s L) (h1 : 1 ≤ k) (hk : k ≤ m) (hm : W * s ^ m < 2 ^ 4000) (hs : s < 2 ^ 4000) (hm2 : m < 1000) : F_q_chance [.dat (lifeD L), .dat (.int k)] f = .ok (.dat (enc (ch L k))) f := by
  apply ev_is
  rw [u_q_chance, ev_dEnd]
  unfold S_q_chance lifeD
  simp [eq_enc0, ev_ite]
  refine ⟨fun hl => ?_, fun hl => ⟨fun h0 => ?_, fun h0 => ?_⟩⟩
  · have e : ((k : Int) - 1) = ((k - 1 : Nat) : Int) := by omega
    have hl2 : k ≤ L.row.length := by omega
    have hq : k - 1 < L.row.length := by omega
    rw [e]
    simp [List.getElem?_eq_getElem hq, ch, hl2]
  · have hl2 : ¬ k ≤ L.row.length := by omega
    simp [ch, hl2, h0, enc0]
  · have hl2 : ¬ k ≤ L.row.length := by omega
    have hr : L.row ≠ [] := fun q => h0 (h.emp q)
    have al : atI (L.row.map enc) (-1) = some (enc (lastR L)) := atI_last (x := 0) hr
    have e : ((k : Int) - L.row.length) = ((k - L.row.length : Nat) : Int) := by omega
    have b1 := h.row _ (lastR_mem hr)
    obtain ⟨l1, l2⟩ := frac_le h.W0 b1.1 b1.2.1 b1.2.2
    obtain ⟨t1, t2⟩ := frac_le h.s0 h.step h.st0 (by have := h.st1; grind)
    have pn : ∀ i, (lastR L).num.natAbs * L.step.num.natAbs ^ i ≤ W * s ^ i := fun i => Nat.mul_le_mul l1 (Nat.pow_le_pow_left t1 i)
    have pd : ∀ i, (lastR L).den * L.step.den ^ i ≤ W * s ^ i := fun i => Nat.mul_le_mul l2 (Nat.pow_le_pow_left t2 i)
    have sm : ∀ i, i ≤ m → W * s ^ i < 2 ^ 4000 := fun i hi => Nat.lt_of_le_of_lt (Nat.mul_le_mul_left W (Nat.pow_le_pow_right h.s0 hi)) hm
    rw [al]
    simp [e]
    rw [show enc (lastR L) = .tuple [.int (lastR L).num, .int ((lastR L).den : Nat)] from rfl]
    simp [smallI_ok (n := ((k - L.row.length : Nat) : Int)) (by omega) (by omega)]
    refine ev_for (I := fun i ρ g => g = f ∧ ∃ s7 : Slot, ρ = [.dat (.tuple [.tuple (L.row.map enc), enc L.step]), .dat (.int k), .dat (.tuple (L.row.map enc)), .dat (enc L.step), .dat (.int ((k - L.row.length : Nat) : Int)), .dat (.int ((lastR L).num * L.step.num ^ i)), .dat (.int ((lastR L).den * L.step.den ^ i : Nat)), s7]) ⟨rfl, .emp, by simp⟩ ?_ ?_
    · rintro i d ρ g hd ⟨rfl, s7, rfl⟩
      obtain ⟨rfl, hi⟩ := range_at hd
      have hi2 : i < k - L.row.length := by simpa using hi
      have m1 : oMul (.int ((lastR L).num * L.step.num ^ i)) (.int L.step.num) = some (.dat (.int ((lastR L).num * L.step.num ^ i * L.step.num))) := oMul_int (mulC_sz (n := 4000) (by rw [Int.natAbs_mul, Int.natAbs_pow]; exact Nat.lt_of_le_of_lt (pn i) (sm i (by omega))) (by omega) (Nat.le_refl _))
      have m2 : oMul (.int ((lastR L).den * L.step.den ^ i : Nat)) (.int (L.step.den : Nat)) = some (.dat (.int (((lastR L).den * L.step.den ^ i : Nat) * (L.step.den : Nat) : Int))) := oMul_int (mulC_sz (n := 4000) (by rw [Int.natAbs_natCast]; exact Nat.lt_of_le_of_lt (pd i) (sm i (by omega))) (by omega) (Nat.le_refl _))
      refine ⟨_, rfl, ?_⟩
      simp only [e_par, e_Bin, e_V, e_C, List.getElem?_cons_succ, List.getElem?_cons_zero, List.set_cons_succ, List.set_cons_zero, pk_ok_dat, enc, e_ix_tuple, e_at0, e_at1, Option.map_some, give_some, m1, m2, dt_ok_dat, ev_ok, loopP_nx]
      refine ⟨trivial, .dat (.int (0 + (i : Int))), ?_⟩
      rw [Int.pow_succ, Int.mul_assoc, Nat.pow_succ, ← Nat.mul_assoc, Int.natCast_mul (_ * _)]
    · rintro ρ g ⟨rfl, s7, rfl⟩
      rw [range_len]
      have q := q_low_q (f := g) (p := (lastR L).num * L.step.num ^ (k - L.row.length)) (q := (lastR L).den * L.step.den ^ (k - L.row.length)) (Nat.mul_pos (lastR L).den_pos (Nat.pow_pos L.step.den_pos)) (Nat.lt_trans (Nat.lt_of_le_of_lt (pd _) (sm _ (by omega))) (by decide))
      rw [mk_pow] at q
      simp only [e_ret, e_Call, e_Vals_cons, e_Vals_nil, e_then_nx, e_V, List.getElem?_cons_succ, List.getElem?_cons_zero, bind_ok, e_arg_dat, q, ev_ok, retP_rt, e_up_dat]
      simp [ch, hl2, h0]
theorem chances_to_q {W s m n : Nat} {L : Life} {f : Feed} (h : LOk W s L) (hk : n ≤ m) (hm : W * s ^ m < 2 ^ 4000) (hs : s < 2 ^ 4000) (hm2 : m < 1000) : F_chances_to [.dat (lifeD L), .dat (.int n)] f = .ok (.own ((List.range n).map fun k => enc (ch L (k + 1)))) f := by
  have c : lcN (.one 2) cYes (cCall F_chance_at [cVar 0, cVar 2]) [.dat (lifeD L), .dat (.int n), .emp] ((List.range n).map fun (i : Nat) => .int (1 + (i : Nat))) [] f = .ok ((List.range n).map fun k => enc (ch L (k + 1))) f := by
    refine lc_map (by rw [List.length_range]; omega) fun i hi => ⟨_, rfl, ?_⟩
    have hi2 := List.mem_range.mp hi
    have e : (1 + (i : Int)) = ((i + 1 : Nat) : Int) := by omega
    have q := chance_at_q (f := f) (k := i + 1) h (by omega) (show i + 1 ≤ m by omega) hm hs hm2
    rw [e]
    simp only [List.set_cons_succ, List.set_cons_zero, e_Call, e_Vals_cons, e_Vals_nil, e_V, List.getElem?_cons_succ, List.getElem?_cons_zero, bind_ok, e_arg_dat, q]
  have r : rangeD 1 n = (List.range n).map fun (i : Nat) => .int (1 + (i : Nat)) := rfl
  have e : ((n : Int) + 1 - 1).toNat = n := by omega
  apply ev_is
  rw [u_chances_to, ev_dEnd]
  unfold S_chances_to
  simp [smallI_ok (n := 1) (by decide) (by decide), smallI_ok (n := (n : Int) + 1) (by omega) (by omega), e, r, c]
end Fp

/-! mathematics: the lives that are drawn (k04, k10..k16, k90, ..) -/
namespace Fp
open PySem PySem.Spec L2 Dn
theorem oInF_int2 {n : Bool} {x a b : Int} : oInF n (.int x) (.tuple [.int a, .int b]) = some (.dat (.bool (if n then !(decide (a = x) || decide (b = x)) else (decide (a = x) || decide (b = x))))) := by
  have e : ∀ a : Int, (a == x) = decide (a = x) := fun a => by
    by_cases h : a = x
    · simp [h]
    · simp [h]
  cases n <;> simp [oInF, seqOf, flatD, PyData.eqv, e]
theorem ev_step {s s2 : Sm} {ρ : Rho} {f : Feed} {P : Ctl → Feed → Prop} (Q : Rho → Feed → Prop) (h : Ev (s ρ f) fun c g => ∃ ρ2, c = .nx ρ2 ∧ Q ρ2 g) (k : ∀ ρ2 g, Q ρ2 g → Ev (s2 ρ2 g) P) : Ev (sSeq s s2 ρ f) P := by
  rw [e_seq, ev_bind]
  refine h.mono ?_
  rintro _ g ⟨ρ2, rfl, q⟩
  rw [e_then_nx]
  exact k ρ2 g q
theorem ev_stop {r : R Ctl} {P : RV → Feed → Prop} (h : Ev r (RetP P)) : Ev (dEnd r) P := ev_dEnd.mpr h
theorem at_two {a x y : Int} (h : 0 ≤ a) (h1 : a < 2) : ∃ n : Int, (n = x ∨ n = y) ∧ atI [PyData.int x, PyData.int y] a = some (.int n) := by
  obtain rfl | rfl : a = 0 ∨ a = 1 := by omega
  · exact ⟨x, .inl rfl, rfl⟩
  · exact ⟨y, .inr rfl, rfl⟩
theorem oMul_nat {a b : Nat} (h : a < 2 ^ 4000) (h2 : b < 2 ^ 4000) : oMul (.int (a : Nat)) (.int (b : Nat)) = some (.dat (.int ((a * b : Nat) : Int))) := by
  rw [Int.natCast_mul]
  exact oMul_int (mulC_sz (n := 4000) (by rw [Int.natAbs_natCast]; exact h) (by rw [Int.natAbs_natCast]; exact h2) (Nat.le_refl _))
theorem wh_mk {W : Nat} {i : Int} (hW : 0 < W) : Wh W (mkRat i W) := by
  refine ⟨i, ?_⟩
  rw [Rat.mkRat_eq_div]
  have := cast_ne hW
  grind
theorem mk_mul {W : Nat} {i : Int} (hW : 0 < W) : mkRat i W * (W : Rat) = (i : Rat) := by
  rw [Rat.mkRat_eq_div]
  have := cast_ne hW
  grind
theorem frac01 {W i : Nat} (hW : 0 < W) (h : i ≤ W) : 0 ≤ mkRat (i : Nat) W ∧ mkRat (i : Nat) W ≤ 1 := by
  have e := mk_mul (i := (i : Nat)) hW
  have w0 : (0 : Rat) < (W : Rat) := Rat.natCast_pos.mpr hW
  rw [Rat.intCast_natCast] at e
  have h2 : (i : Rat) ≤ (W : Rat) := Rat.natCast_le_natCast.mpr h
  have h3 : (0 : Rat) ≤ (i : Rat) := Rat.natCast_nonneg
  exact ⟨Rat.le_of_mul_le_mul_right (c := (W : Rat)) (by grind) w0, Rat.le_of_mul_le_mul_right (c := (W : Rat)) (by grind) w0⟩
theorem frac_lt {W i : Nat} (hW : 0 < W) (h : i < W) : mkRat (i : Nat) W < 1 := by
  have e := mk_mul (i := (i : Nat)) hW
  have w0 : (0 : Rat) < (W : Rat) := Rat.natCast_pos.mpr hW
  rw [Rat.intCast_natCast] at e
  have h2 : (i : Rat) < (W : Rat) := Rat.natCast_lt_natCast.mpr h
  exact Rat.lt_of_mul_lt_mul_right (c := (W : Rat)) (by grind) (by grind)
theorem range0 {n : Nat} : rangeD 0 n = (List.range n).map fun (i : Nat) => .int (i : Nat) := by
  unfold rangeD
  simp
theorem oMul_if {w : Nat} {c : Prop} [Decidable c] (h : w < 2 ^ 4000) : oMul (.int (w : Nat)) (.int (if c then 1 else 0)) = some (.dat (.int ((if c then w else 0 : Nat) : Int))) := by
  by_cases q : c
  · rw [if_pos q, if_pos q]
    refine (oMul_nat (a := w) (b := 1) h (by decide)).trans ?_
    rw [Nat.mul_one]
  · rw [if_neg q, if_neg q]
    refine (oMul_nat (a := w) (b := 0) h (by decide)).trans ?_
    rw [Nat.mul_zero]
theorem ixN_last {n : Nat} : ixN (n + 1) (-1) = some n := by
  unfold ixN
  rw [if_neg (by decide), if_pos (by omega)]
  congr 1
  omega
theorem getLastD_map {α β : Type} (f : α → β) (d : α) (l : List α) : (l.map f).getLastD (f d) = f (l.getLastD d) := by
  rw [List.getLastD_eq_getLast?, List.getLastD_eq_getLast?, List.getLast?_map]
  cases l.getLast? <;> rfl
theorem sum_mk {W B : Nat} (W0 : 0 < W) : ∀ us : List Nat, (us.map fun (w : Nat) => mkRat ((B * w : Nat) : Int) W).sum * (W : Rat) = (B : Rat) * (us.sum : Nat)
  | [] => by
    rw [List.map_nil, List.sum_nil, List.sum_nil]
    have : ((0 : Nat) : Rat) = 0 := rfl
    grind
  | u :: us => by
    have e := mk_mul (i := ((B * u : Nat) : Int)) W0
    have ih := sum_mk (B := B) W0 us
    rw [Rat.intCast_natCast, Rat.natCast_mul] at e
    rw [List.map_cons, List.sum_cons, List.sum_cons, Rat.natCast_add]
    grind
theorem tot_drawn {us : List Nat} {a b x W : Nat} (hab : a < b) (hW : W = (b - a) * (us.sum + x) + a * us.getLastD 0) (W0 : 0 < W) : (1 - tot ⟨us.map fun (w : Nat) => mkRat (((b - a) * w : Nat) : Int) W, mkRat (a : Nat) b⟩) * (W : Rat) = ((b - a : Nat) : Rat) * (x : Rat) := by
  have e1 := sum_mk (B := b - a) W0 us
  have e2 : lastR ⟨us.map fun (w : Nat) => mkRat (((b - a) * w : Nat) : Int) W, mkRat (a : Nat) b⟩ = mkRat (((b - a) * us.getLastD 0 : Nat) : Int) W := by
    have := getLastD_map (fun (w : Nat) => mkRat (((b - a) * w : Nat) : Int) W) 0 us
    unfold lastR
    rw [← this]
    congr 1
    simp
  have e3 := mk_mul (i := (((b - a) * us.getLastD 0 : Nat) : Int)) W0
  have e4 := mk_mul (i := (a : Int)) (W := b) (by omega)
  rw [Rat.intCast_natCast] at e3 e4
  have hB : ((b - a : Nat) : Rat) ≠ 0 := cast_ne (by omega)
  have eB : ((b - a : Nat) : Rat) = (b : Rat) - (a : Rat) := by
    have : ((b - a + a : Nat) : Rat) = (b : Rat) := by rw [Nat.sub_add_cancel (by omega)]
    rw [Rat.natCast_add] at this
    grind
  have eW : (W : Rat) = ((b - a : Nat) : Rat) * ((us.sum : Nat) + (x : Rat)) + (a : Rat) * (us.getLastD 0 : Nat) := by
    conv => lhs; rw [hW]
    rw [Rat.natCast_add, Rat.natCast_mul, Rat.natCast_mul, Rat.natCast_add]
  rw [Rat.natCast_mul] at e3
  unfold tot
  rw [e2]
  show (1 - ((us.map fun (w : Nat) => mkRat (((b - a) * w : Nat) : Int) W).sum + mkRat (((b - a) * us.getLastD 0 : Nat) : Int) W * mkRat (a : Nat) b / (1 - mkRat (a : Nat) b))) * (W : Rat) = _
  generalize (us.map fun (w : Nat) => mkRat (((b - a) * w : Nat) : Int) W).sum = S at *
  generalize mkRat (((b - a) * us.getLastD 0 : Nat) : Int) W = p at *
  generalize mkRat (a : Nat) b = st at *
  generalize ((b - a : Nat) : Rat) = B at *
  generalize (us.getLastD 0 : Nat) = la at *
  have hb : (b : Rat) ≠ 0 := cast_ne (by omega)
  have h1 : (1 - st) * (b : Rat) = B := by grind
  have h2 : (1 - st) ≠ 0 := by
    intro z
    rw [z] at h1
    grind
  have h3 : p * st / (1 - st) * (1 - st) = p * st := by grind
  generalize p * st / (1 - st) = y at *
  have h4 : y * B = p * (a : Rat) := by grind
  have h5 : y * (W : Rat) * B = (la : Rat) * (a : Rat) * B := by grind
  have h6 : y * (W : Rat) = (la : Rat) * (a : Rat) := by grind
  grind
theorem le_one_of {x y : Rat} {W : Nat} (W0 : 0 < W) (h : (1 - x) * (W : Rat) = y) (hy : 0 ≤ y) : x ≤ 1 := by
  have w0 : (0 : Rat) < (W : Rat) := Rat.natCast_pos.mpr W0
  have : 0 ≤ 1 - x := Rat.le_of_mul_le_mul_right (c := (W : Rat)) (by grind) w0
  grind
theorem is_one_of {x : Rat} {W : Nat} (W0 : 0 < W) (h : (1 - x) * (W : Rat) = 0) : x = 1 := by
  have w0 := cast_ne W0
  grind
theorem q_life_okW {t : Int} {f : Feed} {way : Int} (hw0 : 0 ≤ way) (hway : way ≤ 5) (hF : Fd t f) (ht : t < 2 ^ 30) (t0 : 0 ≤ t) : Ev (F_q_life [.feed, .dat (.int way)] f) (fun rv g => ∃ L W s, rv = .dat (lifeD L) ∧ LOk W s L ∧ W ≤ 200 ∧ s ≤ 4 ∧ L.row ≠ [] ∧ L.row.length ≤ 6 ∧ Fd (t + 20) g ∧ (way ≠ 2 → way ≠ 4 → tot L = 1) ∧ (way ≠ 3 → way ≠ 4 → L.step = 0) ∧ (way = 2 ∨ way = 4 → tot L ≠ 1) ∧ (way ≠ 2 → way ≠ 3 → way ≠ 4 → W ≤ 30 ∧ s = 1)) := by
  have big : (1000 : Nat) < 2 ^ 4000 := by decide
  rw [u_q_life, ev_dEnd]
  unfold S_q_life
  -- many
  refine ev_step (fun ρ g => ∃ m : Nat, ρ = [.feed, .dat (.int way), .dat (.int m), .emp, .emp, .emp, .emp, .emp, .emp, .emp, .emp] ∧ 1 ≤ m ∧ m ≤ 6 ∧ Fd (t + 2) g) ?_ ?_
  · simp
    refine Ev.drawn (draw_ok (by decide) (by decide) hF (by omega)) fun a f1 a0 a1 hF1 => ?_
    obtain ⟨n, hn, e1⟩ := at_two (x := 3) (y := 6) a0 a1
    simp [e1]
    refine Ev.drawn (draw_ok (by omega) (by omega) hF1 (by omega)) fun many0 f2 b0 b1 hF2 => ?_
    simp
    exact ⟨(1 + many0).toNat, by omega, by omega, by omega, hF2.up (by omega)⟩
  rintro _ f2 ⟨m0, rfl, m01, m06, hF2⟩
  -- part
  refine ev_step (fun ρ g => ∃ p : Nat, ρ = [.feed, .dat (.int way), .dat (.int m0), .dat (.int p), .emp, .emp, .emp, .emp, .emp, .emp, .emp] ∧ (p = 2 ∨ p = 3) ∧ Fd (t + 3) g) ?_ ?_
  · simp
    refine Ev.drawn (draw_ok (by decide) (by decide) hF2 (by omega)) fun a f1 a0 a1 hF1 => ?_
    simp
    exact ⟨(2 + a).toNat, by omega, by omega, hF1.up (by omega)⟩
  rintro _ f3 ⟨p, rfl, hp, hF3⟩
  -- many anew
  refine ev_step (fun ρ g => ∃ m : Nat, ρ = [.feed, .dat (.int way), .dat (.int m), .dat (.int p), .emp, .emp, .emp, .emp, .emp, .emp, .emp] ∧ 1 ≤ m ∧ m ≤ 6 ∧ Fd (t + 4) g) ?_ ?_
  · have d : ∃ q : Nat, oDiv (.int 6) (.int (p : Nat)) = some (.dat (.int (q : Nat))) ∧ 0 < q ∧ p * q = 6 := by
      rcases hp with rfl | rfl
      · exact ⟨3, oDiv_int (by decide) (by decide), by decide, by decide⟩
      · exact ⟨2, oDiv_int (by decide) (by decide), by decide, by decide⟩
    obtain ⟨q, e, q0, eq⟩ := d
    have hq : q ≤ 3 := by
      rcases hp with rfl | rfl <;> omega
    simp [e, ev_ite]
    refine ⟨fun h => ?_, fun h => ⟨m0, rfl, m01, m06, hF3.up (by omega)⟩⟩
    refine Ev.drawn (draw_ok (by omega) (by omega) hF3 (by omega)) fun a f1 a0 a1 hF1 => ?_
    obtain ⟨b, rfl⟩ := Int.eq_ofNat_of_zero_le a0
    have mm := oMul_nat (a := p) (b := 1 + b) (by omega) (by omega)
    rw [Int.natCast_add] at mm
    simp at mm
    simp [mm]
    refine ⟨p * (1 + b), by simp, ?_, ?_, hF1.up (by omega)⟩
    · rcases hp with rfl | rfl <;> omega
    · have hb : b < q := by omega
      have : p * (1 + b) ≤ p * q := Nat.mul_le_mul_left p (by omega)
      omega
  rintro _ f4 ⟨m, rfl, m1, m6, hF4⟩
  -- weights
  refine ev_step (fun ρ g => ∃ ws : List Nat, ρ = [.feed, .dat (.int way), .dat (.int m), .dat (.int p), .own (ws.map fun (n : Nat) => .int n), .emp, .emp, .emp, .emp, .emp, .emp] ∧ ws.length = m ∧ (∀ w ∈ ws, w ≤ 4) ∧ Fd (t + 10) g) ?_ ?_
  · simp [smallI_ok (n := (m : Int)) (by omega) (by omega)]
    refine ev_lc (I := fun i acc g => ∃ ns : List Nat, acc = ns.map (fun (n : Nat) => .int n) ∧ ns.length = i ∧ (∀ w ∈ ns, w ≤ 4) ∧ Fd (t + 4 + i) g) (by rw [range_len]; omega) ?_ ?_ ⟨[], rfl, rfl, fun w hw => by simp at hw, by simpa using hF4⟩
    · rintro i d acc g hd ⟨ns, rfl, hl, hw, hG⟩
      obtain ⟨rfl, hi⟩ := range_at hd
      refine ⟨_, rfl, ?_⟩
      simp
      refine Ev.drawnE (draw_ok (by decide) (by decide) hG (by omega)) fun a g1 a0 a1 hG1 => ?_
      refine ⟨_, rfl, ns ++ [a.toNat], ?_, by simp [hl], ?_, hG1.up (by omega)⟩
      · simp
        omega
      · intro w h
        rcases List.mem_append.mp h with h | h
        · exact hw w h
        · simp at h
          omega
    · rintro acc g ⟨ns, rfl, hl, hw, hG⟩
      rw [range_len] at hl hG
      exact ⟨ns, rfl, hl, hw, hG.up (by omega)⟩
  rintro _ f5 ⟨ws, rfl, wl, ww, hF5⟩
  -- top, bottom
  refine ev_step (fun ρ g => ∃ a b : Nat, ρ = [.feed, .dat (.int way), .dat (.int m), .dat (.int p), .own (ws.map fun (n : Nat) => .int n), .dat (.int a), .dat (.int b), .emp, .emp, .emp, .emp] ∧ a < b ∧ b ≤ 4 ∧ Nat.gcd a b = 1 ∧ (way ≠ 3 → way ≠ 4 → a = 0 ∧ b = 1) ∧ Fd (t + 11) g) ?_ ?_
  · simp only [e_asg, e_If, e_T, e_Bin, e_V, e_C, List.getElem?_cons_succ, List.getElem?_cons_zero, e_Tup, e_Args_cons, e_Args_nil, dt_ok_dat, bind_ok, pk_ok_dat]
    by_cases h : 3 = way ∨ 4 = way
    · simp [oInF_int2, h]
      refine Ev.drawn (draw_ok (by decide) (by decide) hF5 (by omega)) fun a f1 a0 a1 hF1 => ?_
      obtain ⟨x, y, hxy, hy, hg, e⟩ : ∃ x y : Nat, x < y ∧ y ≤ 4 ∧ Nat.gcd x y = 1 ∧ atI [PyData.tuple [PyData.int 1, PyData.int 2], PyData.tuple [PyData.int 1, PyData.int 3], PyData.tuple [PyData.int 2, PyData.int 3], PyData.tuple [PyData.int 3, PyData.int 4]] a = some (.tuple [.int (x : Nat), .int (y : Nat)]) := by
        obtain rfl | rfl | rfl | rfl : a = 0 ∨ a = 1 ∨ a = 2 ∨ a = 3 := by omega
        · exact ⟨1, 2, by decide, by decide, by decide, rfl⟩
        · exact ⟨1, 3, by decide, by decide, by decide, rfl⟩
        · exact ⟨2, 3, by decide, by decide, by decide, rfl⟩
        · exact ⟨3, 4, by decide, by decide, by decide, rfl⟩
      simp [e]
      exact ⟨x, y, ⟨rfl, rfl⟩, hxy, hy, hg, fun _ _ => by omega, hF1.up (by omega)⟩
    · simp [oInF_int2, h]
      exact ⟨0, 1, ⟨rfl, rfl⟩, by decide, by decide, by decide, fun _ _ => ⟨rfl, rfl⟩, hF5.up (by omega)⟩
  rintro _ f6 ⟨a, b, rfl, hab, hb, hgab, ha0, hF6⟩
  -- weights of parts
  refine ev_step (fun ρ g => ∃ (ws : List Nat), ρ = [.feed, .dat (.int way), .dat (.int m), .dat (.int p), .own (ws.map fun (n : Nat) => .int n), .dat (.int a), .dat (.int b), .emp, .emp, .emp, .emp] ∧ ws.length = m ∧ (∀ w ∈ ws, w ≤ 4) ∧ Fd (t + 11) g) ?_ ?_
  · simp only [e_if, e_T, e_Bin, e_V, e_C, List.getElem?_cons_succ, List.getElem?_cons_zero, pk_ok_dat, oEq_int, give_some, bind_ok, e_next]
    by_cases h : way = 5
    · simp [h, smallI_ok (n := (m : Int)) (by omega) (by omega)]
      have c1 : lcN (.one 9) cYes (cBin oMul (cBin oIx (cVar 4) (cVar 9)) (cUn oInt (cBin oEq (cBin oMod (cBin oAdd (cVar 9) (cC (.int 1))) (cVar 3)) (cC (.int 0))))) [.feed, .dat (.int 5), .dat (.int m), .dat (.int p), .own (ws.map fun (n : Nat) => .int n), .dat (.int a), .dat (.int b), .emp, .emp, .emp, .emp] (rangeD 0 m) [] f6 = .ok ((List.range m).map fun (i : Nat) => .int ((if ((i : Int) + 1) % (p : Int) = 0 then ws.getD i 0 else 0 : Nat) : Int)) f6 := by
        rw [range0]
        refine lc_map (by rw [List.length_range]; omega) fun i hi => ⟨_, rfl, ?_⟩
        have hi2 : i < ws.length := by
          have := List.mem_range.mp hi
          omega
        have hp0 : (0 : Int) < p := by omega
        have hw4 := ww _ (List.getElem_mem hi2)
        have om := oMul_if (w := ws[i]) (c := ((i : Int) + 1) % (p : Int) = 0) (by omega)
        simp [List.getElem?_eq_getElem hi2, oMod_int hp0, om]
      rw [c1]
      refine ev_ok.mpr ⟨(List.range m).map fun (i : Nat) => if ((i : Int) + 1) % (p : Int) = 0 then ws.getD i 0 else 0, by rw [List.map_map]; rfl, by simp, ?_, hF6⟩
      intro w hw
      obtain ⟨i, hi, rfl⟩ := List.mem_map.mp hw
      split
      · have hi2 : i < ws.length := by
          have := List.mem_range.mp hi
          omega
        rw [List.getD_eq_getElem?_getD, List.getElem?_eq_getElem hi2]
        exact ww _ (List.getElem_mem hi2)
      · omega
    · simp [h]
      exact ⟨ws, rfl, wl, ww, hF6⟩
  rintro _ f7 ⟨vs, rfl, vl, vw, hF7⟩
  -- the last one more
  refine ev_step (fun ρ g => ∃ (us : List Nat), ρ = [.feed, .dat (.int way), .dat (.int m), .dat (.int p), .own (us.map fun (n : Nat) => .int n), .dat (.int a), .dat (.int b), .emp, .emp, .emp, .emp] ∧ us.length = m ∧ (∀ w ∈ us, w ≤ 5) ∧ 1 ≤ us.getLastD 0 ∧ Fd (t + 11) g) ?_ ?_
  · obtain ⟨ys, y, rfl⟩ : ∃ ys y, vs = ys ++ [y] := ⟨vs.dropLast, vs.getLast (fun z => by rw [z] at vl; simp at vl; omega), (List.dropLast_concat_getLast _).symm⟩
    have al : atI ((ys.map fun (n : Nat) => PyData.int n) ++ [PyData.int (y : Nat)]) (-1) = some (.int (y : Nat)) := L2.atI_last _ _
    simp [al, ixN_last]
    refine ⟨ys ++ [y + 1], ?_, by simpa using vl, ?_, by simp, hF7⟩
    · simp
    · intro w hw
      rcases List.mem_append.mp hw with h | h
      · have := vw w (List.mem_append_left _ h)
        omega
      · have := vw y (by simp)
        simp at h
        omega
  rintro _ f8 ⟨us, rfl, ul, uw, ulast, hF8⟩
  refine ev_step (fun ρ g => ρ = [.feed, .dat (.int way), .dat (.int m), .dat (.int p), .dat (.list (us.map fun (n : Nat) => .int n)), .dat (.int a), .dat (.int b), .emp, .emp, .emp, .emp] ∧ Fd (t + 11) g) ?_ ?_
  · simp
    exact hF8
  rintro _ f9 ⟨rfl, hF9⟩
  refine ev_step (fun ρ g => ∃ x : Nat, ρ = [.feed, .dat (.int way), .dat (.int m), .dat (.int p), .dat (.list (us.map fun (n : Nat) => .int n)), .dat (.int a), .dat (.int b), .dat (.int x), .emp, .emp, .emp] ∧ x ≤ 8 ∧ ((way ≠ 2 → way ≠ 4 → x = 0) ∧ (way = 2 ∨ way = 4 → 0 < x)) ∧ Fd (t + 12) g) ?_ ?_
  · simp only [e_set, e_If, e_T, e_Bin, e_V, e_C, List.getElem?_cons_succ, List.getElem?_cons_zero, e_Tup, e_Args_cons, e_Args_nil, dt_ok_dat, bind_ok, pk_ok_dat]
    by_cases h : 2 = way ∨ 4 = way
    · simp [oInF_int2, h]
      refine Ev.drawn (draw_ok (by decide) (by decide) hF9 (by omega)) fun a f1 a0 a1 hF1 => ?_
      simp
      exact ⟨(1 + a).toNat, by omega, by omega, ⟨fun _ _ => by omega, fun _ => by omega⟩, hF1.up (by omega)⟩
    · simp [oInF_int2, h]
      exact ⟨0, rfl, by decide, ⟨fun _ _ => rfl, fun _ => by omega⟩, hF9.up (by omega)⟩
  rintro _ f10 ⟨x, rfl, hx, hx0, hF10⟩
  have hus : us ≠ [] := fun z => by
    rw [z] at ul
    simp at ul
    omega
  have usum : us.sum ≤ 30 := by
    have : ∀ l : List Nat, (∀ w ∈ l, w ≤ 5) → l.sum ≤ l.length * 5 := by
      intro l hl
      induction l with
      | nil => simp
      | cons q r ih =>
        have a1 := hl q List.mem_cons_self
        have a2 := ih fun w hw => hl w (List.mem_cons_of_mem _ hw)
        rw [List.sum_cons, List.length_cons]
        omega
    have := this us uw
    omega
  have ulast5 : us.getLastD 0 ≤ 5 := by
    rw [List.getLastD_eq_getLast?, List.getLast?_eq_some_getLast hus]
    exact uw _ (List.getLast_mem hus)
  have ulsum : us.getLastD 0 ≤ us.sum := by
    rw [List.getLastD_eq_getLast?, List.getLast?_eq_some_getLast hus]
    exact mem_le_sum (List.getLast_mem hus)
  have al : atI (us.map fun (n : Nat) => PyData.int n) (-1) = some (.int (us.getLastD 0 : Nat)) := by
    obtain ⟨ys, y, rfl⟩ : ∃ ys y, us = ys ++ [y] := ⟨us.dropLast, us.getLast hus, (List.dropLast_concat_getLast _).symm⟩
    rw [List.map_append, List.map_cons, List.map_nil, L2.atI_last]
    simp
  refine ev_step (fun ρ g => ∃ W : Nat, ρ = [.feed, .dat (.int way), .dat (.int m), .dat (.int p), .dat (.list (us.map fun (n : Nat) => .int n)), .dat (.int a), .dat (.int b), .dat (.int x), .dat (.int W), .emp, .emp] ∧ W = (b - a) * (us.sum + x) + a * us.getLastD 0 ∧ Fd (t + 12) g) ?_ ?_
  · have k1 : (1000 : Nat) < 2 ^ 4000 := by decide
    have s1 : ((b : Int) - a) = ((b - a : Nat) : Int) := by omega
    have m1 := oMul_nat (a := b - a) (b := us.sum + x) (by omega) (by omega)
    have m2 := oMul_nat (a := a) (b := us.getLastD 0) (by omega) (by omega)
    rw [Int.natCast_add us.sum x] at m1
    generalize us.getLastD 0 = la at *
    simp [al, s1, m1, m2]
    refine ⟨(b - a) * (us.sum + x) + a * la, ?_, rfl, hF10⟩
    rw [Int.natCast_add, Int.natCast_mul, Int.natCast_mul, Int.natCast_add]
  rintro _ f11 ⟨W, rfl, hW, hF11⟩
  have W0 : 0 < W := by
    have : 1 ≤ (b - a) * (us.sum + x) := Nat.mul_pos (by omega) (by omega)
    omega
  have W2 : W ≤ 200 := by
    have h1 : (b - a) * (us.sum + x) ≤ 4 * 38 := Nat.mul_le_mul (by omega) (by omega)
    have h2 : a * us.getLastD 0 ≤ 4 * 5 := Nat.mul_le_mul (by omega) ulast5
    omega
  have s1 : ((b : Int) - a) = ((b - a : Nat) : Int) := by omega
  have wle : ∀ w ∈ us, (b - a) * w ≤ W := fun w hw => by
    have h1 : (b - a) * w ≤ (b - a) * (us.sum + x) := Nat.mul_le_mul_left _ (by have := mem_le_sum hw; omega)
    omega
  have c2 : lcN (.one 10) cYes (cCall F_q_low [cBin oMul (cBin oSub (cVar 6) (cVar 5)) (cVar 10), cVar 8]) [.feed, .dat (.int way), .dat (.int m), .dat (.int p), .dat (.list (us.map fun (n : Nat) => .int n)), .dat (.int a), .dat (.int b), .dat (.int x), .dat (.int W), .emp, .emp] (us.map fun (n : Nat) => .int n) [] f11 = .ok (us.map fun (w : Nat) => enc (mkRat (((b - a) * w : Nat) : Int) W)) f11 := by
    refine lc_map (by omega) fun w hw => ⟨_, rfl, ?_⟩
    have h5 := uw w hw
    have mm := oMul_nat (a := b - a) (b := w) (by omega) (by omega)
    have q := q_low_q (f := f11) (p := (((b - a) * w : Nat) : Int)) (q := W) W0 (Nat.lt_of_le_of_lt W2 (by decide))
    simp only [List.set_cons_succ, List.set_cons_zero, e_Call, e_Vals_cons, e_Vals_nil, e_Bin, e_V, List.getElem?_cons_succ, List.getElem?_cons_zero, bind_ok, pk_ok_dat, e_arg_dat, oSub_int, give_some, s1, mm, q]
  have e3 : PyData.tuple [.int (a : Nat), .int (b : Nat)] = enc (mkRat (a : Nat) b) := by
    rw [← low_eq (by omega)]
    unfold low
    rw [Int.natAbs_natCast, hgab]
    simp
  have td := tot_drawn (x := x) hab hW W0
  simp [c2]
  refine ⟨⟨us.map fun (w : Nat) => mkRat (((b - a) * w : Nat) : Int) W, mkRat (a : Nat) b⟩, ?_, W, b, ⟨W0, by omega, ?_, ?_, ?_, ?_, ?_, le_one_of W0 td (by rw [← Rat.natCast_mul]; exact Rat.natCast_nonneg)⟩, W2, hb, ?_, ?_, hF11.up (by omega), fun z1 z2 => is_one_of W0 (by rw [td, hx0.1 z1 z2]; exact Rat.mul_zero _), fun z1 z2 => by show mkRat (a : Nat) b = 0; rw [(ha0 z1 z2).1]; exact Rat.zero_mkRat b, ?_, fun z0 z1 z2 => ⟨by
    obtain ⟨rfl, rfl⟩ := ha0 z1 z2
    rw [hx0.1 z0 z2] at hW
    omega, (ha0 z1 z2).2⟩⟩
  rotate_right
  · intro z1 z2
    rw [z2] at td
    have x0 := cast_ne (hx0.2 z1)
    have b0 := cast_ne (show 0 < b - a by omega)
    have : ((b - a : Nat) : Rat) * (x : Rat) = 0 := by
      rw [← td]
      grind
    rcases Rat.mul_eq_zero.mp this with q | q
    · exact b0 q
    · exact x0 q
  · unfold lifeD
    rw [← e3]
    simp
  · intro y hy
    obtain ⟨w, hw, rfl⟩ := List.mem_map.mp hy
    have f := frac01 (i := (b - a) * w) W0 (wle w hw)
    exact ⟨wh_mk W0, f⟩
  · exact wh_mk (by omega)
  · exact (frac01 (i := a) (W := b) (by omega) (by omega)).1
  · exact frac_lt (by omega) hab
  · intro z
    exact absurd (List.map_eq_nil_iff.mp z) hus
  · intro z
    exact absurd (List.map_eq_nil_iff.mp z) hus
  · show (us.map _).length ≤ 6
    rw [List.length_map]
    omega
theorem q_life_ok {t : Int} {f : Feed} {way : Int} (hw0 : 0 ≤ way) (hway : way ≤ 5) (hF : Fd t f) (ht : t < 2 ^ 30) (t0 : 0 ≤ t) : Ev (F_q_life [.feed, .dat (.int way)] f) (fun rv g => ∃ L W s, rv = .dat (lifeD L) ∧ LOk W s L ∧ W ≤ 200 ∧ s ≤ 4 ∧ L.row ≠ [] ∧ L.row.length ≤ 6 ∧ Fd (t + 20) g ∧ (way ≠ 2 → way ≠ 4 → tot L = 1) ∧ (way ≠ 3 → way ≠ 4 → L.step = 0) ∧ (way = 2 ∨ way = 4 → tot L ≠ 1)) :=
  Ev.mono (q_life_okW hw0 hway hF ht t0) fun _ _ ⟨L, W, s, a1, a2, a3, a4, a5, a6, a7, a8, a9, a10, _⟩ => ⟨L, W, s, a1, a2, a3, a4, a5, a6, a7, a8, a9, a10⟩
/-- what every drawn life keeps -/
def AnyL (L : Life) : Prop := ∃ W s, LOk W s L ∧ W ≤ 12800 ∧ s ≤ 4 ∧ L.row.length ≤ 7
theorem LOk.scale {W s k : Nat} {L : Life} (h : LOk W s L) (hk : 0 < k) : LOk (W * k) s L := ⟨Nat.mul_pos h.W0 hk, h.s0, fun x hx => ⟨(h.row x hx).1.up (Nat.dvd_mul_right _ _), (h.row x hx).2⟩, h.step, h.st0, h.st1, h.emp, h.tot1⟩
theorem tot_more {L : Life} (h : L.step < 1) : tot ⟨L.row ++ [lastR L * L.step], L.step⟩ = tot L := by
  have e : lastR ⟨L.row ++ [lastR L * L.step], L.step⟩ = lastR L * L.step := by
    unfold lastR
    simp
  unfold tot
  rw [e]
  show (L.row ++ [lastR L * L.step]).sum + lastR L * L.step * L.step / (1 - L.step) = _
  rw [List.sum_append, List.sum_cons, List.sum_nil]
  have : 1 - L.step ≠ 0 := by grind
  grind
theorem tot_zero {L : Life} {st : Rat} (h : L.step = 0) : tot ⟨L.row ++ [0], st⟩ = tot L := by
  have e : lastR ⟨L.row ++ [0], st⟩ = 0 := by
    unfold lastR
    simp
  unfold tot
  rw [e, h]
  show (L.row ++ [0]).sum + 0 * st / (1 - st) = _
  rw [List.sum_append, List.sum_cons, List.sum_nil]
  grind
theorem LOk.more {W s : Nat} {L : Life} (h : LOk W s L) (hr : L.row ≠ []) : LOk (W * s) s ⟨L.row ++ [lastR L * L.step], L.step⟩ := by
  refine ⟨Nat.mul_pos h.W0 h.s0, h.s0, fun x hx => ?_, h.step, h.st0, h.st1, fun z => by simp at z, by rw [tot_more h.st1]; exact h.tot1⟩
  rcases List.mem_append.mp hx with q | q
  · exact ⟨(h.row x q).1.up (Nat.dvd_mul_right _ _), (h.row x q).2⟩
  · have t := h.tail hr 1
    rw [Rat.pow_one, Nat.pow_one] at t
    rw [List.mem_singleton.mp q]
    exact t
theorem any_life_ok {t : Int} {f : Feed} (hF : Fd t f) (ht : t < 2 ^ 29) (t0 : 0 ≤ t) : Ev (F_q_any_life [.feed] f) (fun rv g => ∃ L, rv = .dat (lifeD L) ∧ AnyL L ∧ Fd (t + 30) g) := by
  rw [u_q_any_life, ev_dEnd]
  unfold S_q_any_life
  refine ev_step (fun ρ g => ∃ w : Int, ρ = [.feed, .dat (.int w), .emp, .emp, .emp] ∧ 0 ≤ w ∧ Fd (t + 1) g) ?_ ?_
  · simp
    refine Ev.drawnE (draw_ok (by decide) (by decide) hF (by omega)) fun a f1 a0 a1 hF1 => ?_
    simp
    exact ⟨a0, hF1⟩
  rintro _ f1 ⟨w, rfl, w0, hF1⟩
  refine ev_step (fun ρ g => ∃ L W s, ρ = [.feed, .dat (.int w), .dat (.tuple (L.row.map enc)), .dat (enc L.step), .emp] ∧ LOk W s L ∧ W ≤ 200 ∧ s ≤ 4 ∧ L.row.length ≤ 6 ∧ Fd (t + 21) g) ?_ ?_
  · simp [oMod_int (x := w) (y := 6) (by decide)]
    rw [ev_dt]
    refine Ev.mono (q_life_ok (way := w % 6) (Int.emod_nonneg w (by decide)) (by omega) hF1 (by omega) (by omega)) ?_
    rintro _ g ⟨L, W, s, rfl, h1, h2, h3, h4, h5, h6, _, _, _⟩
    simp [lifeD]
    exact ⟨L, ⟨rfl, rfl⟩, W, s, h1, h2, h3, h5, h6.up (by omega)⟩
  rintro _ f2 ⟨L0, W0, s0, rfl, g1, g2, g3, g4, hF2⟩
  refine ev_step (fun ρ g => ∃ L W s, ρ = [.feed, .dat (.int w), .dat (.tuple (L.row.map enc)), .dat (enc L.step), .emp] ∧ LOk W s L ∧ W ≤ 200 ∧ s ≤ 4 ∧ L.row.length ≤ 6 ∧ Fd (t + 21) g) ?_ ?_
  · simp [ev_ite]
    refine ⟨fun _ => ⟨⟨[], 0⟩, ⟨rfl, rfl⟩, 1, 1, ⟨by decide, by decide, fun x hx => by simp at hx, wh_0, by decide, by decide, fun _ => rfl, by decide +kernel⟩, by decide, by decide, by simp, hF2⟩, fun _ => ⟨L0, ⟨rfl, rfl⟩, W0, s0, g1, g2, g3, g4, hF2⟩⟩
  rintro _ f3 ⟨L, W, s, rfl, l1, l2, l3, l4, hF3⟩
  refine ev_step (fun ρ g => ∃ u : Int, ρ = [.feed, .dat (.int w), .dat (.tuple (L.row.map enc)), .dat (enc L.step), .dat (.int u)] ∧ 0 ≤ u ∧ u < 4 ∧ Fd (t + 22) g) ?_ ?_
  · simp
    refine Ev.drawnE (draw_ok (by decide) (by decide) hF3 (by omega)) fun a f1 a0 a1 hF1 => ?_
    simp
    exact ⟨a0, a1, hF1.up (by omega)⟩
  rintro _ f4 ⟨u, rfl, u0, u4, hF4⟩
  have anyL : AnyL L := ⟨W, s, l1, by omega, l3, by omega⟩
  have done : ∃ L_1, PyData.tuple [PyData.tuple (L.row.map enc), enc L.step] = lifeD L_1 ∧ AnyL L_1 ∧ Fd (t + 30) f4 := ⟨L, rfl, anyL, hF4.up (by omega)⟩
  simp [ev_ite, ne_enc0]
  refine ⟨fun _ => done, fun hu => ⟨fun _ => done, fun hl => ⟨fun h0 => ?_, fun h0 => ?_⟩⟩⟩
  · obtain ⟨st, hst, hs, e⟩ : ∃ st : Rat, (Wh 3 st ∧ 0 ≤ st ∧ st < 1) ∧ True ∧ atI [PyData.tuple [PyData.int 0, PyData.int 1], PyData.tuple [PyData.int 1, PyData.int 3]] u = some (enc st) := by
      obtain rfl | rfl : u = 0 ∨ u = 1 := by omega
      · exact ⟨0, ⟨wh_0, by decide, by decide⟩, trivial, rfl⟩
      · exact ⟨mkRat (1 : Nat) 3, ⟨wh_mk (by decide), (frac01 (i := 1) (W := 3) (by decide) (by decide)).1, frac_lt (by decide) (by decide)⟩, trivial, rfl⟩
    have hlen : L.row.length ≤ 99999 := by omega
    simp [e, hlen]
    refine ⟨⟨L.row ++ [0], st⟩, ?_, ⟨W, 3, ⟨l1.W0, by decide, fun x hx => ?_, hst.1, hst.2.1, hst.2.2, fun z => by simp at z, by rw [tot_zero h0]; exact l1.tot1⟩, by omega, by decide, ?_⟩, hF4.up (by omega)⟩
    · unfold lifeD
      rw [List.map_append]
      rfl
    · rcases List.mem_append.mp hx with q | q
      · exact l1.row x q
      · rw [List.mem_singleton.mp q]
        exact ⟨wh_0, by decide, by decide⟩
    · show (L.row ++ [0]).length ≤ 7
      rw [List.length_append]
      show L.row.length + 1 ≤ 7
      omega
  · have hr : L.row ≠ [] := fun q => h0 (l1.emp q)
    have al : atI (L.row.map enc) (-1) = some (enc (lastR L)) := atI_last (x := 0) hr
    have hlen : L.row.length ≤ 99999 := by omega
    have b1 := l1.row _ (lastR_mem hr)
    have big : (1000 : Nat) < 2 ^ 4000 := by decide
    have sz1 : Sz 4000 (lastR L) := ab_sz (D := W) (B := 1) l1.W0 b1.1 (ab_01 b1.2.1 b1.2.2) (by decide) (by omega)
    have sz2 : Sz 4000 L.step := ab_sz (D := s) (B := 1) l1.s0 l1.step (ab_01 l1.st0 (by have := l1.st1; grind)) (by decide) (by omega)
    have q := q_times_q (f := f4) sz1 sz2 (Nat.le_refl _)
    simp [al, q, hlen]
    refine ⟨⟨L.row ++ [lastR L * L.step], L.step⟩, ?_, ⟨W * s, s, l1.more hr, ?_, l3, ?_⟩, hF4.up (by omega)⟩
    · unfold lifeD
      rw [List.map_append]
      rfl
    · have := Nat.mul_le_mul l2 l3
      omega
    · show (L.row ++ [lastR L * L.step]).length ≤ 7
      rw [List.length_append]
      show L.row.length + 1 ≤ 7
      omega
end Fp

/-! mathematics: sums over a range; what comes anew -/
namespace Fp
open PySem PySem.Spec L2 Dn
def rs (n : Nat) (g : Nat → Rat) : Rat := ((List.range n).map g).sum
theorem sum_app : ∀ (xs ys : List Rat), (xs ++ ys).sum = xs.sum + ys.sum
  | [], ys => by
    rw [List.nil_append, List.sum_nil]
    grind
  | x :: xs, ys => by
    rw [List.cons_append, List.sum_cons, List.sum_cons, sum_app xs ys]
    grind
theorem rs_zero {g : Nat → Rat} : rs 0 g = 0 := rfl
theorem rs_succ {n : Nat} {g : Nat → Rat} : rs (n + 1) g = rs n g + g n := by
  unfold rs
  rw [List.range_succ, List.map_append, sum_app, List.map_cons, List.map_nil, List.sum_cons, List.sum_nil]
  grind
theorem rs_congr {n : Nat} {g h : Nat → Rat} (e : ∀ i, i < n → g i = h i) : rs n g = rs n h := by
  induction n with
  | zero => rfl
  | succ n ih => rw [rs_succ, rs_succ, ih fun i hi => e i (by omega), e n (by omega)]
theorem rs_add {n : Nat} {g h : Nat → Rat} : rs n (fun i => g i + h i) = rs n g + rs n h := by
  induction n with
  | zero => rw [rs_zero, rs_zero, rs_zero]; grind
  | succ n ih => rw [rs_succ, rs_succ, rs_succ, ih]; grind
theorem rs_mul {n : Nat} {g : Nat → Rat} {c : Rat} : rs n (fun i => c * g i) = c * rs n g := by
  induction n with
  | zero => rw [rs_zero, rs_zero]; grind
  | succ n ih => rw [rs_succ, rs_succ, ih]; grind
theorem rs_0 {n : Nat} : rs n (fun _ => 0) = 0 := by
  induction n with
  | zero => rfl
  | succ n ih => rw [rs_succ, ih]; grind
theorem rs_head {n : Nat} {g : Nat → Rat} : rs (n + 1) g = g 0 + rs n (fun i => g (i + 1)) := by
  induction n with
  | zero => rw [rs_succ, rs_zero, rs_zero]; grind
  | succ n ih => rw [rs_succ, ih, rs_succ]; grind
theorem rs_swap {n m : Nat} {g : Nat → Nat → Rat} : rs n (fun i => rs m (fun j => g i j)) = rs m (fun j => rs n (fun i => g i j)) := by
  induction n with
  | zero => rw [rs_zero, rs_congr (h := fun _ => 0) fun i _ => rs_zero, rs_0]
  | succ n ih => rw [rs_succ, ih, ← rs_add]; exact rs_congr fun i _ => rs_succ.symm
theorem rs_rev {n : Nat} {g : Nat → Rat} : rs n (fun i => g (n - 1 - i)) = rs n g := by
  induction n with
  | zero => rfl
  | succ n ih =>
    rw [rs_head, rs_succ]
    have e : rs n (fun i => g (n + 1 - 1 - (i + 1))) = rs n (fun i => g (n - 1 - i)) := rs_congr fun i _ => by rw [show n + 1 - 1 - (i + 1) = n - 1 - i by omega]
    rw [e, ih, show n + 1 - 1 - 0 = n by omega]
    grind
theorem rs_wh {D n : Nat} {g : Nat → Rat} (h : ∀ i, i < n → Wh D (g i)) : Wh D (rs n g) := by
  induction n with
  | zero => exact wh_0
  | succ n ih =>
    rw [rs_succ]
    exact (ih fun i hi => h i (by omega)).add (h n (by omega))
theorem rs_ab {n B : Nat} {g : Nat → Rat} (h : ∀ i, i < n → Ab (B : Rat) (g i)) : Ab ((n * B : Nat) : Rat) (rs n g) := by
  induction n with
  | zero => exact ab_0 Rat.natCast_nonneg
  | succ n ih =>
    rw [rs_succ, Nat.succ_mul, Rat.natCast_add]
    exact (ih fun i hi => h i (by omega)).add (h n (by omega))
/-- own plus what is behind -/
def an (c t : Nat → Rat) (n : Nat) : Rat := t n + ((List.range n).attach.map fun k => c k.1 * an c t (n - 1 - k.1)).sum
termination_by n
decreasing_by
  have := List.mem_range.mp k.2
  omega
theorem an_eq (c t : Nat → Rat) (n : Nat) : an c t n = t n + rs n (fun k => c k * an c t (n - 1 - k)) := by
  rw [an]
  congr 2
  exact List.attach_map_val (l := List.range n) (f := fun k => c k * an c t (n - 1 - k))
theorem an_wh {c t : Nat → Rat} {D E m : Nat} (hc : ∀ k, k < m → Wh D (c k)) (ht : ∀ k, k ≤ m → Wh E (t k)) : ∀ n, n ≤ m → Wh (E * D ^ n) (an c t n) := by
  intro n
  induction n using Nat.strongRecOn with
  | ind n ih =>
    intro hn
    rw [an_eq]
    refine ((ht n hn).up (Nat.dvd_mul_right _ _)).add (rs_wh fun k hk => ?_)
    have q := (hc k (by omega)).mul (ih (n - 1 - k) (by omega) (by omega))
    refine q.up ?_
    have e : D * (E * D ^ (n - 1 - k)) = E * D ^ (n - k) := by
      rw [show n - k = n - 1 - k + 1 by omega, Nat.pow_succ]
      simp only [Nat.mul_assoc, Nat.mul_left_comm, Nat.mul_comm]
    rw [e]
    exact Nat.mul_dvd_mul_left E (Nat.pow_dvd_pow D (by omega))
theorem an_ab {c t : Nat → Rat} {B M m : Nat} (hc : ∀ k, k < m → Ab 1 (c k)) (ht : ∀ k, k ≤ m → Ab (B : Rat) (t k)) (hM : m + 1 ≤ M) : ∀ n, n ≤ m → Ab ((B * M ^ n : Nat) : Rat) (an c t n) := by
  intro n
  induction n using Nat.strongRecOn with
  | ind n ih =>
    intro hn
    rw [an_eq]
    cases n with
    | zero =>
      rw [rs_zero, Nat.pow_zero, Nat.mul_one]
      have := ht 0 hn
      exact ⟨by have := this.1; grind, by have := this.2; grind⟩
    | succ n =>
      have q : ∀ k, k < n + 1 → Ab ((B * M ^ n : Nat) : Rat) (c k * an c t (n + 1 - 1 - k)) := fun k hk => by
        have a := (hc k (by omega)).mul (ih (n + 1 - 1 - k) (by omega) (by omega))
        have e : (1 : Rat) * ((B * M ^ (n + 1 - 1 - k) : Nat) : Rat) = ((B * M ^ (n + 1 - 1 - k) : Nat) : Rat) := by grind
        rw [e] at a
        exact a.up (Rat.natCast_le_natCast.mpr (Nat.mul_le_mul_left B (Nat.pow_le_pow_right (by omega) (by omega))))
      have r := (ht (n + 1) hn).add (rs_ab q)
      rw [← Rat.natCast_add] at r
      refine r.up (Rat.natCast_le_natCast.mpr ?_)
      have h1 : B ≤ B * M ^ n := Nat.le_mul_of_pos_right B (Nat.pow_pos (by omega))
      have h2 : (n + 1) * (B * M ^ n) + B * M ^ n ≤ B * M ^ (n + 1) := by
        have e : (n + 1) * (B * M ^ n) + B * M ^ n = (n + 2) * (B * M ^ n) := by rw [← Nat.succ_mul]
        have e2 : B * M ^ (n + 1) = M * (B * M ^ n) := by rw [Nat.pow_succ, ← Nat.mul_assoc, Nat.mul_comm]
        rw [e, e2]
        exact Nat.mul_le_mul_right _ (by omega)
      omega
theorem pairsD_range2 (ds : List PyData) (g : Nat → PyData) (h : ∀ i (hi : i < ds.length), ds[i] = g i) : pairsD ds = (List.range ds.length).map fun (i : Nat) => .tuple [.int (i : Nat), g i] := by
  unfold pairsD
  apply List.ext_getElem
  · simp
  · intro i h1 h2
    rw [List.getElem_mapIdx, List.getElem_map, List.getElem_range, h i (by simpa using h2)]
theorem at_range {n i : Nat} {g : Nat → PyData} (h : i < n) : atI ((List.range n).map g) (i : Int) = some (g i) := by
  rw [Dn.atI_nat, List.getElem?_map, List.getElem?_range h]
  rfl
theorem map_range {α : Type} {xs : List Rat} {g : Rat → α} : xs.map g = (List.range xs.length).map fun i => g (xs.getD i 0) := by
  apply List.ext_getElem
  · simp
  · intro i h1 h2
    have hi : i < xs.length := by simpa using h1
    rw [List.getElem_map, List.getElem_map, List.getElem_range, List.getD_eq_getElem?_getD, List.getElem?_eq_getElem hi]
    rfl
/-- what is behind: the sum over the list as it stands there -/
theorem rs_list {n : Nat} {g : Nat → Rat} : ((List.range n).map g).sum = rs n g := rfl
def tg (ts : List Rat) (i : Nat) : Rat := ts.getD i 0
theorem anew_q {W s m E B : Nat} {L : Life} {ts : List Rat} {f : Feed} (h : LOk W s L) (hm : ts.length ≤ m + 1) (hm2 : m ≤ 60) (hE : 0 < E) (hB : 0 < B) (hw : ∀ x ∈ ts, Wh E x) (hb : ∀ x ∈ ts, Ab (B : Rat) x) (hs : s ≤ 4)
    (hsz : B * (m + 1) ^ m * (m + 1) * (E * (W * s ^ (m + 1)) ^ (m + 1)) < 2 ^ 4000) : F_anew [.dat (lifeD L), .dat (.tuple (ts.map enc))] f = .ok (.dat (.tuple ((List.range ts.length).map fun n => enc (an (fun k => ch L (k + 1)) (tg ts) n)))) f := by
  have W0 := h.W0
  have s0 := h.s0
  have D0 : 0 < W * s ^ (m + 1) := Nat.mul_pos W0 (Nat.pow_pos s0)
  have M0 : 0 < B * (m + 1) ^ m := Nat.mul_pos hB (Nat.pow_pos (by omega))
  have hc : ∀ k, k < m + 1 → Wh (W * s ^ (m + 1)) (ch L (k + 1)) ∧ 0 ≤ ch L (k + 1) ∧ ch L (k + 1) ≤ 1 := fun k hk => h.ch (by omega)
  have ht : ∀ k, Wh E (tg ts k) ∧ Ab (B : Rat) (tg ts k) := fun k => by
    unfold tg
    rw [List.getD_eq_getElem?_getD]
    by_cases q : k < ts.length
    · rw [List.getElem?_eq_getElem q]
      exact ⟨hw _ (List.getElem_mem q), hb _ (List.getElem_mem q)⟩
    · rw [List.getElem?_eq_none (by omega)]
      exact ⟨wh_0, ab_0 Rat.natCast_nonneg⟩
  have size : W * s ^ (m + 1) < 2 ^ 4000 := by
    refine Nat.lt_of_le_of_lt ?_ hsz
    have a : W * s ^ (m + 1) ≤ (W * s ^ (m + 1)) ^ (m + 1) := Nat.le_self_pow (by omega) _
    have b : (W * s ^ (m + 1)) ^ (m + 1) ≤ E * (W * s ^ (m + 1)) ^ (m + 1) := Nat.le_mul_of_pos_left _ hE
    have c : E * (W * s ^ (m + 1)) ^ (m + 1) ≤ B * (m + 1) ^ m * (m + 1) * (E * (W * s ^ (m + 1)) ^ (m + 1)) := Nat.le_mul_of_pos_left _ (Nat.mul_pos M0 (by omega))
    omega
  generalize hD : W * s ^ (m + 1) = D at *
  generalize hBB : B * (m + 1) ^ m = BB at *
  have E0 : 0 < E * D ^ (m + 1) := Nat.mul_pos hE (Nat.pow_pos D0)
  have aw : ∀ n, n ≤ m → Wh (E * D ^ n) (an (fun k => ch L (k + 1)) (tg ts) n) := an_wh (fun k hk => (hc k (by omega)).1) fun k _ => (ht k).1
  have ab : ∀ n, n ≤ m → Ab ((BB : Nat) : Rat) (an (fun k => ch L (k + 1)) (tg ts) n) := fun n hn => (an_ab (B := B) (M := m + 1) (m := m) (fun k hk => ab_01 (hc k (by omega)).2.1 (hc k (by omega)).2.2) (fun k _ => (ht k).2) (Nat.le_refl _) n hn).up (Rat.natCast_le_natCast.mpr (by rw [← hBB]; exact Nat.mul_le_mul_left B (Nat.pow_le_pow_right (by omega) hn)))
  have tw : ∀ n k, n ≤ m → k < n → Wh (E * D ^ (m + 1)) (ch L (k + 1) * an (fun k => ch L (k + 1)) (tg ts) (n - 1 - k)) ∧ Ab ((BB : Nat) : Rat) (ch L (k + 1) * an (fun k => ch L (k + 1)) (tg ts) (n - 1 - k)) := fun n k hn hk => by
    have q := (hc k (by omega)).1.mul (aw (n - 1 - k) (by omega))
    refine ⟨q.up ?_, ?_⟩
    · have e : D * (E * D ^ (n - 1 - k)) = E * D ^ (n - k) := by
        rw [show n - k = n - 1 - k + 1 by omega, Nat.pow_succ]
        simp only [Nat.mul_assoc, Nat.mul_left_comm, Nat.mul_comm]
      rw [e]
      exact Nat.mul_dvd_mul_left E (Nat.pow_dvd_pow D (by omega))
    · have a := (ab_01 (hc k (by omega)).2.1 (hc k (by omega)).2.2).mul (ab (n - 1 - k) (by omega))
      rwa [show (1 : Rat) * ((BB : Nat) : Rat) = ((BB : Nat) : Rat) by grind] at a
  have sz1 : BB * (E * D ^ (m + 1)) < 2 ^ 4000 := Nat.lt_of_le_of_lt (Nat.mul_le_mul_right _ (Nat.le_mul_of_pos_right BB (by omega))) hsz
  have szc : ∀ k, k < m + 1 → Sz 4000 (ch L (k + 1)) := fun k hk => ab_sz (D := D) (B := 1) D0 (hc k hk).1 (ab_01 (hc k hk).2.1 (hc k hk).2.2) (by decide) (by omega)
  have sza : ∀ n, n ≤ m → Sz 4000 (an (fun k => ch L (k + 1)) (tg ts) n) := fun n hn => ab_sz E0 ((aw n hn).up (Nat.mul_dvd_mul_left E (Nat.pow_dvd_pow D (by omega)))) (ab n hn) M0 sz1
  have szt : ∀ n, Sz 4000 (tg ts n) := fun n => ab_sz E0 ((ht n).1.up (Nat.dvd_mul_right _ _)) ((ht n).2.up (Rat.natCast_le_natCast.mpr (by rw [← hBB]; exact Nat.le_mul_of_pos_right B (Nat.pow_pos (by omega))))) M0 sz1
  have szr : ∀ n, n ≤ m → Sz 4000 (rs n fun k => ch L (k + 1) * an (fun k => ch L (k + 1)) (tg ts) (n - 1 - k)) := fun n hn => by
    refine ab_sz (B := BB * (m + 1)) E0 (rs_wh fun k hk => (tw n k hn hk).1) ((rs_ab fun k hk => (tw n k hn hk).2).up (Rat.natCast_le_natCast.mpr ?_)) (Nat.mul_pos M0 (by omega)) hsz
    rw [Nat.mul_comm]
    exact Nat.mul_le_mul_left BB (by omega)
  have c1 := chances_to_q (f := f) (n := ts.length) (m := m + 1) h (by omega) (by rw [hD]; exact size) (Nat.lt_of_le_of_lt hs (by decide)) (by omega)
  have e1 : pairsD (ts.map enc) = (List.range ts.length).map fun (i : Nat) => .tuple [.int (i : Nat), enc (tg ts i)] := by
    rw [pairsD_range2 _ (fun i => enc (tg ts i)) fun i hi => by
      have hi2 : i < ts.length := by simpa using hi
      rw [List.getElem_map, tg, List.getD_eq_getElem?_getD, List.getElem?_eq_getElem hi2]
      rfl, List.length_map]
  generalize hA : an (fun k => ch L (k + 1)) (tg ts) = A at *
  have hAe : ∀ n, A n = tg ts n + rs n fun k => ch L (k + 1) * A (n - 1 - k) := fun n => by
    rw [← hA]
    exact an_eq _ _ n
  apply ev_is
  rw [u_anew, ev_dEnd]
  unfold S_anew
  simp [c1, e1]
  refine ev_for (I := fun i ρ g => g = f ∧ ∃ s4 s5 : Slot, ρ = [.dat (lifeD L), .dat (.tuple (ts.map enc)), .dat (.list ((List.range ts.length).map fun k => enc (ch L (k + 1)))), .own ((List.range i).map fun n => enc (A n)), s4, s5, .emp]) ⟨rfl, .emp, .emp, rfl⟩ ?_ ?_
  · rintro i d ρ g hd ⟨rfl, s4, s5, rfl⟩
    have hi : i < ts.length := by
      have := (List.getElem?_eq_some_iff.mp hd).1
      simpa using this
    rw [List.getElem?_map, List.getElem?_range hi] at hd
    cases hd
    refine ⟨_, rfl, ?_⟩
    have c2 : lcN (.one 6) cYes (cCall F_times [cBin oIx (cVar 2) (cVar 6), cBin oIx (cVar 3) (cBin oSub (cBin oSub (cVar 4) (cC (.int 1))) (cVar 6))]) [.dat (lifeD L), .dat (.tuple (ts.map enc)), .dat (.list ((List.range ts.length).map fun k => enc (ch L (k + 1)))), .own ((List.range i).map fun n => enc (A n)), .dat (.int i), .dat (enc (tg ts i)), .emp] (rangeD 0 i) [] g = .ok (((List.range i).map fun k => ch L (k + 1) * A (i - 1 - k)).map enc) g := by
      rw [range0, List.map_map]
      refine lc_map (by rw [List.length_range]; omega) fun k hk => ⟨_, rfl, ?_⟩
      have hk2 := List.mem_range.mp hk
      have ej : ((i : Int) - 1 - (k : Int)) = ((i - 1 - k : Nat) : Int) := by omega
      have a1 := at_range (n := ts.length) (g := fun k => enc (ch L (k + 1))) (show k < ts.length by omega)
      have a2 := at_range (n := i) (g := fun n => enc (A n)) (show i - 1 - k < i by omega)
      have q := times_q (f := g) (szc k (by omega)) (sza (i - 1 - k) (by omega)) (Nat.le_refl _)
      simp only [List.set_cons_succ, List.set_cons_zero, e_Call, e_Vals_cons, e_Vals_nil, e_Bin, e_V, e_C, List.getElem?_cons_succ, List.getElem?_cons_zero, bind_ok, pk_ok_dat, pk_ok_lent, e_ix_list, a1, ej, a2, Option.map_some, give_some, e_arg_dat, oSub_int, q, Function.comp]
    have p1 := summed_q (f := g) (D := E * D ^ (m + 1)) (B := BB) (L := m) (xs := (List.range i).map fun k => ch L (k + 1) * A (i - 1 - k)) E0 M0 (fun x hx => by
      obtain ⟨k, hk, rfl⟩ := List.mem_map.mp hx
      exact (tw i k (by omega) (List.mem_range.mp hk)).1) (fun x hx => by
      obtain ⟨k, hk, rfl⟩ := List.mem_map.mp hx
      exact (tw i k (by omega) (List.mem_range.mp hk)).2) (by rw [List.length_map, List.length_range]; omega) hsz
    rw [rs_list] at p1
    generalize ((List.range i).map fun k => ch L (k + 1) * A (i - 1 - k)) = xs at c2 p1
    have p2 := plus_q (f := g) (szt i) (szr i (by omega)) (Nat.le_refl _)
    rw [← hAe i] at p2
    have l9 : i < 100000 := by omega
    simp [smallI_ok (n := (i : Int)) (by omega) (by omega), c2, p1, p2, l9]
    rw [List.range_succ, List.map_append]
    rfl
  · rintro ρ g ⟨rfl, s4, s5, rfl⟩
    simp
end Fp

/-! mathematics: by how many parts there are; puts -/
namespace Fp
open PySem PySem.Spec L2 Dn
def pp (c : Nat → Rat) : Nat → Nat → Rat
  | 0, n => if n = 0 then 1 else 0
  | j + 1, m => rs m fun n => pp c j n * c (m - 1 - n)
def dl (n : Nat) : Rat := if n = 0 then 1 else 0
theorem pp_sum (c : Nat → Rat) : ∀ n J, n < J → rs J (fun j => pp c j n) = an c dl n := by
  intro n
  induction n using Nat.strongRecOn with
  | ind n ih =>
    intro J hJ
    obtain ⟨K, rfl⟩ : ∃ K, J = K + 1 := ⟨J - 1, by omega⟩
    rw [rs_head, an_eq]
    have e1 : rs K (fun j => pp c (j + 1) n) = rs n fun i => c (n - 1 - i) * an c dl i := by
      show rs K (fun j => rs n fun i => pp c j i * c (n - 1 - i)) = _
      rw [rs_swap]
      refine rs_congr fun i hi => ?_
      rw [← ih i hi K (by omega), ← rs_mul]
      exact rs_congr fun j _ => by grind
    have e2 : (rs n fun i => c (n - 1 - i) * an c dl i) = rs n fun k => c k * an c dl (n - 1 - k) := by
      rw [← rs_rev]
      refine rs_congr fun i hi => ?_
      rw [show n - 1 - (n - 1 - i) = i by omega]
    rw [e1, e2]
    rfl
theorem rs_tri {n : Nat} {G : Nat → Nat → Rat} : rs n (fun k => rs (k + 1) fun i => G i (k - i)) = rs n fun i => rs (n - i) fun j => G i j := by
  induction n with
  | zero => rfl
  | succ n ih =>
    rw [rs_succ, ih]
    have e : rs (n + 1) (fun i => rs (n + 1 - i) fun j => G i j) = rs (n + 1) (fun i => rs (n - i) (fun j => G i j) + G i (n - i)) := rs_congr fun i hi => by
      rw [show n + 1 - i = n - i + 1 by omega, rs_succ]
    rw [e, rs_add, rs_succ (g := fun i => rs (n - i) fun j => G i j), Nat.sub_self, rs_zero]
    grind
/-- what comes anew is the puts times what was told -/
theorem an_conv (c t : Nat → Rat) : ∀ n, an c t n = rs (n + 1) fun k => an c dl k * t (n - k) := by
  intro n
  induction n using Nat.strongRecOn with
  | ind n ih =>
    rw [an_eq, rs_head]
    have e0 : an c dl 0 * t (n - 0) = t n := by
      rw [an_eq, rs_zero, Nat.sub_zero]
      show (1 + 0) * t n = t n
      grind
    rw [e0]
    congr 1
    have e1 : (rs n fun k => c k * an c t (n - 1 - k)) = rs n fun i => rs (n - i) fun j => c i * an c dl j * t (n - 1 - i - j) := rs_congr fun i hi => by
      rw [ih (n - 1 - i) (by omega), ← rs_mul, show n - 1 - i + 1 = n - i by omega]
      exact rs_congr fun j _ => by grind
    have e2 : (rs n fun k => an c dl (k + 1) * t (n - (k + 1))) = rs n fun k => rs (k + 1) fun i => c i * an c dl (k - i) * t (n - 1 - i - (k - i)) := rs_congr fun k hk => by
      rw [an_eq]
      have z : dl (k + 1) = 0 := rfl
      rw [z]
      have e3 : (0 + rs (k + 1) fun i => c i * an c dl (k + 1 - 1 - i)) * t (n - (k + 1)) = t (n - (k + 1)) * rs (k + 1) fun i => c i * an c dl (k + 1 - 1 - i) := by grind
      rw [e3, ← rs_mul]
      refine rs_congr fun i hi => ?_
      rw [show k + 1 - 1 - i = k - i by omega, show n - 1 - i - (k - i) = n - (k + 1) by omega]
      grind
    rw [e1, e2, ← rs_tri]
theorem pp_wh {c : Nat → Rat} {D N : Nat} (hc : ∀ k, k < N → Wh D (c k)) : ∀ j m, m ≤ N → Wh (D ^ j) (pp c j m) := by
  intro j
  induction j with
  | zero =>
    intro m _
    unfold pp
    split
    · exact wh_1
    · exact wh_0
  | succ j ih =>
    intro m hm
    unfold pp
    exact rs_wh fun n hn => by
      rw [Nat.pow_succ]
      exact (ih n (by omega)).mul (hc _ (by omega))
theorem pp_ab {c : Nat → Rat} {M N : Nat} (hc : ∀ k, k < N → Ab 1 (c k)) (hM : N ≤ M) (h1 : 1 ≤ M) : ∀ j m, m ≤ N → Ab ((M ^ j : Nat) : Rat) (pp c j m) := by
  intro j
  induction j with
  | zero =>
    intro m _
    unfold pp
    rw [Nat.pow_zero]
    split
    · exact ⟨by decide, by decide⟩
    · exact ⟨by decide, by decide⟩
  | succ j ih =>
    intro m hm
    unfold pp
    refine (rs_ab (B := M ^ j) fun n hn => ?_).up (Rat.natCast_le_natCast.mpr ?_)
    · have q := (ih n (by omega)).mul (hc (m - 1 - n) (by omega))
      rwa [show ((M ^ j : Nat) : Rat) * 1 = ((M ^ j : Nat) : Rat) by grind] at q
    · rw [Nat.pow_succ, Nat.mul_comm]
      exact Nat.mul_le_mul_left _ (by omega)
/-- the row of one part more, while it is filled: i beats done -/
def mv (h c : Nat → Rat) (i m : Nat) : Rat := rs (min i m) fun n => h n * c (m - 1 - n)
/-- and q stretches of beat i -/
def mw (h c : Nat → Rat) (i q m : Nat) : Rat := if i < m ∧ m ≤ i + q then mv h c (i + 1) m else mv h c i m
theorem mv_next {h c : Nat → Rat} {i m : Nat} (hm : i < m) : mv h c (i + 1) m = mv h c i m + h i * c (m - 1 - i) := by
  unfold mv
  rw [show min (i + 1) m = i + 1 by omega, show min i m = i by omega, rs_succ]
theorem mv_same {h c : Nat → Rat} {i m : Nat} (hm : m ≤ i) : mv h c (i + 1) m = mv h c i m := by
  unfold mv
  rw [show min (i + 1) m = m by omega, show min i m = m by omega]
theorem mw_0 {h c : Nat → Rat} {i m : Nat} : mw h c i 0 m = mv h c i m := by
  unfold mw
  rw [if_neg (by omega)]
theorem mw_all {h c : Nat → Rat} {i q m N : Nat} (hm : m ≤ N) (hq : i + q = N) : mw h c i q m = mv h c (i + 1) m := by
  unfold mw
  by_cases z : i < m
  · rw [if_pos ⟨z, by omega⟩]
  · rw [if_neg (by omega), mv_same (by omega)]
theorem mw_next {h c : Nat → Rat} {i q m : Nat} : mw h c i (q + 1) m = if m = i + (q + 1) then mw h c i q m + h i * c q else mw h c i q m := by
  by_cases z : m = i + (q + 1)
  · rw [if_pos z]
    unfold mw
    rw [if_pos (by omega), if_neg (by omega), mv_next (by omega), show m - 1 - i = q by omega]
  · rw [if_neg z]
    unfold mw
    by_cases y : i < m ∧ m ≤ i + q
    · rw [if_pos (by omega), if_pos y]
    · rw [if_neg (by omega), if_neg y]
theorem map_set {n j : Nat} {g : Nat → PyData} {x : PyData} (hj : j < n) : ((List.range n).map g).set j x = (List.range n).map fun m => if m = j then x else g m := by
  apply List.ext_getElem
  · simp
  · intro i h1 h2
    rw [List.getElem_set]
    simp
    by_cases e : j = i
    · subst e
      simp
    · rw [if_neg e, if_neg (fun z => e z.symm)]
end Fp

/-! mathematics: the law's own puts -/
namespace Fp
open PySem PySem.Spec L2 Dn
theorem q_sum2 {D B : Nat} {x y : Rat} {f : Feed} (hD : 0 < D) (hB : 0 < B) (hx : Wh D x) (hy : Wh D y) (ax : Ab (B : Rat) x) (ay : Ab (B : Rat) y) (hs : B * 3 * D < 2 ^ 4000) : F_q_sum [.dat (.list [enc x, enc y])] f = .ok (.dat (enc (x + y))) f := by
  have q := q_sum_q (f := f) (xs := [x, y]) (L := 2) hD hB (fun z hz => by
    rcases List.mem_cons.mp hz with rfl | hz
    · exact hx
    · rw [List.mem_singleton.mp hz]
      exact hy) (fun z hz => by
    rcases List.mem_cons.mp hz with rfl | hz
    · exact ax
    · rw [List.mem_singleton.mp hz]
      exact ay) (Nat.le_refl 2) hs
  have e : [x, y].sum = x + y := by
    rw [List.sum_cons, List.sum_cons, List.sum_nil]
    grind
  rw [e] at q
  exact q
abbrev rowD (c : Nat → Rat) (N j : Nat) : List PyData := (List.range (N + 1)).map fun n => enc (pp c j n)
theorem row0 {c : Nat → Rat} {N : Nat} : PyData.tuple [.int 1, .int 1] :: List.replicate N (PyData.tuple [.int 0, .int 1]) = rowD c N 0 := by
  apply List.ext_getElem
  · simp
  · intro i h1 h2
    cases i with
    | zero => simp [pp]; rfl
    | succ i => simp [pp]; rfl
theorem more0 {h c : Nat → Rat} {N : Nat} : List.replicate (N + 1) (PyData.tuple [.int 0, .int 1]) = (List.range (N + 1)).map fun m => enc (mv h c 0 m) := by
  apply List.ext_getElem
  · simp
  · intro i h1 h2
    simp [mv, rs_zero]
    rfl
theorem by_parts_q {W s N : Nat} {L : Life} {f : Feed} (h : LOk W s L) (hN : N ≤ 60) (hs : s ≤ 4) (hsz : (N + 1) ^ (N + 1) * 3 * (W * s ^ N) ^ (N + 1) < 2 ^ 4000) :
    F_q_by_parts [.dat (lifeD L), .dat (.int N)] f = .ok (.own ((List.range (N + 1)).map fun j => .list (rowD (fun k => ch L (k + 1)) N j))) f := by
  have D0 : 0 < W * s ^ N := Nat.mul_pos h.W0 (Nat.pow_pos h.s0)
  have hc : ∀ k, k < N → Wh (W * s ^ N) (ch L (k + 1)) ∧ 0 ≤ ch L (k + 1) ∧ ch L (k + 1) ≤ 1 := fun k hk => h.ch (by omega)
  have MP : 0 < (N + 1) ^ (N + 1) := Nat.pow_pos (by omega)
  have size : W * s ^ N < 2 ^ 4000 := by
    refine Nat.lt_of_le_of_lt ?_ hsz
    have a : W * s ^ N ≤ (W * s ^ N) ^ (N + 1) := Nat.le_self_pow (by omega) _
    have c : (W * s ^ N) ^ (N + 1) ≤ (N + 1) ^ (N + 1) * 3 * (W * s ^ N) ^ (N + 1) := Nat.le_mul_of_pos_left _ (by omega)
    omega
  have qc : ∀ k, k < N → F_q_chance [.dat (lifeD L), .dat (.int ((k + 1 : Nat) : Int))] f = .ok (.dat (enc (ch L (k + 1)))) f := fun k hk => q_chance_q h (by omega) (show k + 1 ≤ N by omega) size (Nat.lt_of_le_of_lt hs (by decide)) (by omega)
  generalize hc2 : (fun k => ch L (k + 1)) = c at *
  have hcc : ∀ k, ch L (k + 1) = c k := fun k => by rw [← hc2]
  simp only [hcc] at hc qc
  generalize hD : W * s ^ N = D at *
  have DP : 0 < D ^ (N + 1) := Nat.pow_pos D0
  have c1 : lcN (.one 8) cYes (cCall F_q_chance [cVar 0, cVar 8]) [.dat (lifeD L), .dat (.int N), .emp, .emp, .emp, .emp, .emp, .emp, .emp] (rangeD 1 N) [] f = .ok ((List.range N).map fun k => enc (c k)) f := by
    refine lc_map (xs := List.range N) (enc := fun (i : Nat) => .int (1 + (i : Nat))) (by rw [List.length_range]; omega) fun i hi => ⟨_, rfl, ?_⟩
    have e : (1 + (i : Int)) = ((i + 1 : Nat) : Int) := by omega
    have q := qc i (List.mem_range.mp hi)
    rw [e]
    simp only [List.set_cons_succ, List.set_cons_zero, e_Call, e_Vals_cons, e_Vals_nil, e_V, List.getElem?_cons_succ, List.getElem?_cons_zero, bind_ok, e_arg_dat, q]
  have e1 : ((N : Int) + 1 - 1).toNat = N := by omega
  have e2 : ((N : Int) + 1).toNat = N + 1 := by omega
  have r0 := row0 (c := c) (N := N)
  have hN2 : (N : Int) + 1 ≤ 1000 := by omega
  have hN3 : (N : Int) ≤ 1000 := by omega
  have hN4 : -1000 ≤ (N : Int) := by omega
  have hN5 : -1000 ≤ (N : Int) + 1 := by omega
  have hN6 : 1 + N ≤ 100000 := by omega
  have n0 : smallI (N : Int) = true := smallI_ok (by omega) (by omega)
  have pw : ∀ j, j ≤ N → ∀ m, m ≤ N → Wh (D ^ j) (pp c j m) := fun j _ m hm => pp_wh (fun k hk => (hc k hk).1) j m hm
  have pa : ∀ j, j ≤ N → ∀ m, m ≤ N → Ab (((N + 1) ^ j : Nat) : Rat) (pp c j m) := fun j _ m hm => pp_ab (fun k hk => ab_01 (hc k hk).2.1 (hc k hk).2.2) (by omega) (by omega) j m hm
  have PQ : ∀ j, j ≤ N → D ^ (j + 1) ∣ D ^ (N + 1) := fun j hj => Nat.pow_dvd_pow D (by omega)
  have PR : ∀ j, j ≤ N + 1 → (N + 1) ^ j ≤ (N + 1) ^ (N + 1) := fun j hj => Nat.pow_le_pow_right (by omega) hj
  have term : ∀ j, j < N → ∀ n k, n ≤ N → k < N → Wh (D ^ (N + 1)) (pp c j n * c k) ∧ Ab (((N + 1) ^ j : Nat) : Rat) (pp c j n * c k) := fun j hj n k hn hk => by
    have q := ((pw j (by omega) n hn).mul (hc k hk).1).up (PQ j (by omega))
    have a := (pa j (by omega) n hn).mul (ab_01 (hc k hk).2.1 (hc k hk).2.2)
    rw [show (((N + 1) ^ j : Nat) : Rat) * 1 = (((N + 1) ^ j : Nat) : Rat) by grind] at a
    exact ⟨q, a⟩
  have mvo : ∀ j, j < N → ∀ i m, m ≤ N → Wh (D ^ (N + 1)) (mv (pp c j) c i m) ∧ Ab (((N + 1) ^ (N + 1) : Nat) : Rat) (mv (pp c j) c i m) := fun j hj i m hm => by
    unfold mv
    refine ⟨rs_wh fun n hn => (term j hj n _ (by omega) (by omega)).1, (rs_ab fun n hn => (term j hj n _ (by omega) (by omega)).2).up (Rat.natCast_le_natCast.mpr ?_)⟩
    refine Nat.le_trans (Nat.mul_le_mul_right _ (show min i m ≤ N + 1 by omega)) ?_
    rw [Nat.mul_comm, ← Nat.pow_succ]
    exact PR _ (by omega)
  have mwo : ∀ j, j < N → ∀ i q m, m ≤ N → Wh (D ^ (N + 1)) (mw (pp c j) c i q m) ∧ Ab (((N + 1) ^ (N + 1) : Nat) : Rat) (mw (pp c j) c i q m) := fun j hj i q m hm => by
    unfold mw
    split
    · exact mvo j hj _ m hm
    · exact mvo j hj _ m hm
  have szB : (N + 1) ^ (N + 1) * D ^ (N + 1) < 2 ^ 4000 := Nat.lt_of_le_of_lt (Nat.mul_le_mul_right _ (Nat.le_mul_of_pos_right _ (by decide))) hsz
  have szp : ∀ j, j < N → ∀ n, n ≤ N → Sz 4000 (pp c j n) := fun j hj n hn => ab_sz DP ((pw j (by omega) n hn).up (Nat.pow_dvd_pow D (by omega))) ((pa j (by omega) n hn).up (Rat.natCast_le_natCast.mpr (PR j (by omega)))) MP szB
  have szc : ∀ k, k < N → Sz 4000 (c k) := fun k hk => ab_sz (D := D) (B := 1) D0 (hc k hk).1 (ab_01 (hc k hk).2.1 (hc k hk).2.2) (by decide) (by omega)
  apply ev_is
  rw [u_q_by_parts, ev_dEnd]
  unfold S_q_by_parts
  refine ev_step (fun ρ g => g = f ∧ ρ = [.dat (lifeD L), .dat (.int N), .own ((List.range N).map fun k => enc (c k)), .emp, .emp, .emp, .emp, .emp, .emp]) ?_ ?_
  · simp [smallI_ok (n := 1) (by decide) (by decide), smallI_ok (n := (N : Int) + 1) (by omega) (by omega), e1, c1]
  rintro _ g ⟨rfl, rfl⟩
  refine ev_step (fun ρ g' => g' = g ∧ ρ = [.dat (lifeD L), .dat (.int N), .dat (.list ((List.range N).map fun k => enc (c k))), .emp, .emp, .emp, .emp, .emp, .emp]) ?_ ?_
  · simp
  rintro _ g ⟨rfl, rfl⟩
  refine ev_step (fun ρ g' => g' = g ∧ ρ = [.dat (lifeD L), .dat (.int N), .dat (.list ((List.range N).map fun k => enc (c k))), .own [.list (rowD c N 0)], .emp, .emp, .emp, .emp, .emp]) ?_ ?_
  · simp [hN3, hN4, r0, hN6]
  rintro _ g ⟨rfl, rfl⟩
  refine ev_step (fun ρ g' => g' = g ∧ ∃ s4 s5 s6 s7 s8 : Slot, ρ = [.dat (lifeD L), .dat (.int N), .dat (.list ((List.range N).map fun k => enc (c k))), .own ((List.range (N + 1)).map fun j => .list (rowD c N j)), s4, s5, s6, s7, s8]) ?_ ?_
  · rw [e_for]
    simp only [e_iRange1, e_V, List.getElem?_cons_succ, List.getElem?_cons_zero, pk_ok_dat, n0, if_true, bind_ok, Int.toNat_natCast]
    refine ev_for (I := fun j ρ g' => g' = g ∧ ∃ s4 s5 s6 s7 s8 : Slot, ρ = [.dat (lifeD L), .dat (.int N), .dat (.list ((List.range N).map fun k => enc (c k))), .own ((List.range (j + 1)).map fun j => .list (rowD c N j)), s4, s5, s6, s7, s8]) ⟨rfl, .emp, .emp, .emp, .emp, .emp, rfl⟩ ?_ ?_
    · rintro j d ρ g hd ⟨rfl, s4, s5, s6, s7, s8, rfl⟩
      obtain ⟨rfl, hj⟩ := range_at hd
      refine ⟨_, rfl, ?_⟩
      have al : atI ((List.range (j + 1)).map fun j => PyData.list (rowD c N j)) (-1) = some (.list (rowD c N j)) := by
        rw [List.range_succ, List.map_append]
        exact L2.atI_last _ _
      refine ev_step (fun ρ g' => g' = g ∧ ρ = [.dat (lifeD L), .dat (.int N), .dat (.list ((List.range N).map fun k => enc (c k))), .own ((List.range (j + 1)).map fun j => .list (rowD c N j)), .dat (.int j), .dat (.list (rowD c N j)), s6, s7, s8]) ?_ ?_
      · simp [al]
      rintro _ g ⟨rfl, rfl⟩
      have m0 := more0 (h := pp c j) (c := c) (N := N)
      refine ev_step (fun ρ g' => g' = g ∧ ρ = [.dat (lifeD L), .dat (.int N), .dat (.list ((List.range N).map fun k => enc (c k))), .own ((List.range (j + 1)).map fun j => .list (rowD c N j)), .dat (.int j), .dat (.list (rowD c N j)), .own ((List.range (N + 1)).map fun m => enc (mv (pp c j) c 0 m)), s7, s8]) ?_ ?_
      · simp [hN2, hN5, e2, m0]
      rintro _ g ⟨rfl, rfl⟩
      refine ev_step (fun ρ g' => g' = g ∧ ∃ s7 s8 : Slot, ρ = [.dat (lifeD L), .dat (.int N), .dat (.list ((List.range N).map fun k => enc (c k))), .own ((List.range (j + 1)).map fun j => .list (rowD c N j)), .dat (.int j), .dat (.list (rowD c N j)), .own (rowD c N (j + 1)), s7, s8]) ?_ ?_
      · rw [e_for]
        simp only [e_iRange1, e_V, List.getElem?_cons_succ, List.getElem?_cons_zero, pk_ok_dat, n0, if_true, bind_ok, Int.toNat_natCast]
        refine ev_for (I := fun i ρ g' => g' = g ∧ ∃ s7 s8 : Slot, ρ = [.dat (lifeD L), .dat (.int N), .dat (.list ((List.range N).map fun k => enc (c k))), .own ((List.range (j + 1)).map fun j => .list (rowD c N j)), .dat (.int j), .dat (.list (rowD c N j)), .own ((List.range (N + 1)).map fun m => enc (mv (pp c j) c i m)), s7, s8]) ⟨rfl, s7, s8, rfl⟩ ?_ ?_
        · rintro i d ρ g hd ⟨rfl, s7, s8, rfl⟩
          obtain ⟨rfl, hi⟩ := range_at hd
          refine ⟨_, rfl, ?_⟩
          have a5 : atI (rowD c N j) (i : Int) = some (enc (pp c j i)) := at_range (by omega)
          by_cases hz : pp c j i = 0
          · have em : ((List.range (N + 1)).map fun m => enc (mv (pp c j) c i m)) = (List.range (N + 1)).map fun m => enc (mv (pp c j) c (i + 1) m) := by
              refine List.map_congr_left fun m _ => ?_
              by_cases y : i < m
              · rw [mv_next y, hz, Rat.zero_mul, Rat.add_zero]
              · rw [mv_same (by omega)]
            simp [a5, ne_enc0, hz, em]
          · have sm : smallI ((N : Int) + 1 - (i : Int)) = true := smallI_ok (by omega) (by omega)
            have e4 : ((N : Int) + 1 - (i : Int) - 1).toNat = N - i := by omega
            simp [a5, ne_enc0, hz, sm, smallI_ok (n := 1) (by decide) (by decide), e4]
            refine ev_for (I := fun q ρ g' => g' = g ∧ ∃ s8 : Slot, ρ = [.dat (lifeD L), .dat (.int N), .dat (.list ((List.range N).map fun k => enc (c k))), .own ((List.range (j + 1)).map fun j => .list (rowD c N j)), .dat (.int j), .dat (.list (rowD c N j)), .own ((List.range (N + 1)).map fun m => enc (mw (pp c j) c i q m)), .dat (.int i), s8]) ⟨rfl, s8, by simp only [mw_0]⟩ ?_ ?_
            · rintro q d ρ g hd ⟨rfl, s8, rfl⟩
              obtain ⟨rfl, hq⟩ := range_at hd
              refine ⟨_, rfl, ?_⟩
              have eq1 : (1 + (q : Int) - 1) = (q : Int) := by omega
              have a2 : atI ((List.range N).map fun k => enc (c k)) (q : Int) = some (enc (c q)) := at_range (by omega)
              by_cases hy : c q = 0
              · have em : ((List.range (N + 1)).map fun m => enc (mw (pp c j) c i q m)) = (List.range (N + 1)).map fun m => enc (mw (pp c j) c i (q + 1) m) := by
                  refine List.map_congr_left fun m _ => ?_
                  rw [mw_next, hy, Rat.mul_zero, Rat.add_zero, ite_self]
                simp [eq1, a2, ne_enc0, hy, em]
              · obtain ⟨K, hK⟩ : ∃ K, K = i + (q + 1) := ⟨_, rfl⟩
                have ei : ((i : Int) + (1 + (q : Int))) = (K : Int) := by omega
                have a6 : atI ((List.range (N + 1)).map fun m => enc (mw (pp c j) c i q m)) (K : Int) = some (enc (mw (pp c j) c i q K)) := at_range (g := fun m => enc (mw (pp c j) c i q m)) (by omega)
                have t1 : F_q_times [.dat (enc (pp c j i)), .dat (enc (c q))] g = .ok (.dat (enc (pp c j i * c q))) g := q_times_q (szp j (by omega) i (by omega)) (szc q (by omega)) (Nat.le_refl _)
                have t2 : F_q_sum [.dat (.list [enc (mw (pp c j) c i q K), enc (pp c j i * c q)])] g = .ok (.dat (enc (mw (pp c j) c i q K + pp c j i * c q))) g := q_sum2 DP MP (mwo j (by omega) i q K (by omega)).1 (term j (by omega) i q (by omega) (by omega)).1 (mwo j (by omega) i q K (by omega)).2 ((term j (by omega) i q (by omega) (by omega)).2.up (Rat.natCast_le_natCast.mpr (PR j (by omega)))) hsz
                have ix : K < N + 1 := by omega
                have em : ((List.range (N + 1)).map fun m => enc (mw (pp c j) c i q m)).set K (enc (mw (pp c j) c i q K + pp c j i * c q)) = (List.range (N + 1)).map fun m => enc (mw (pp c j) c i (q + 1) m) := by
                  rw [map_set ix]
                  refine List.map_congr_left fun m _ => ?_
                  rw [mw_next]
                  by_cases z : m = K
                  · rw [if_pos z, if_pos (by omega), z]
                  · rw [if_neg z, if_neg (by omega)]
                simp [eq1, a2, ne_enc0, hy, ei, a5, a6, t1, t2, ix, em]
            · rintro ρ g ⟨rfl, s8, rfl⟩
              rw [range_len]
              refine ⟨rfl, .dat (.int i), s8, ?_⟩
              have em : ((List.range (N + 1)).map fun m => enc (mw (pp c j) c i (N - i) m)) = (List.range (N + 1)).map fun m => enc (mv (pp c j) c (i + 1) m) := by
                refine List.map_congr_left fun m hm => ?_
                have := List.mem_range.mp hm
                rw [mw_all (N := N) (by omega) (by omega)]
              rw [em]
        · rintro ρ g ⟨rfl, s7, s8, rfl⟩
          rw [range_len]
          refine ⟨_, rfl, rfl, s7, s8, ?_⟩
          have em : ((List.range (N + 1)).map fun m => enc (mv (pp c j) c N m)) = rowD c N (j + 1) := by
            refine List.map_congr_left fun m hm => ?_
            have := List.mem_range.mp hm
            unfold mv
            rw [show min N m = m by omega]
            rfl
          rw [em]
      rintro _ g ⟨rfl, s7, s8, rfl⟩
      have l9 : j + 1 < 100000 := by omega
      simp [l9]
      rw [List.range_succ (n := j + 1), List.map_append]
      rfl
    · rintro ρ g ⟨rfl, s4, s5, s6, s7, s8, rfl⟩
      rw [range_len]
      exact ⟨_, rfl, rfl, s4, s5, s6, s7, s8, rfl⟩
  rintro _ g ⟨rfl, s4, s5, s6, s7, s8, rfl⟩
  simp
end Fp

/-! mathematics: puts, and what the laws of puts share -/
namespace Fp
open PySem PySem.Spec L2 Dn
theorem q_puts_q {W s N : Nat} {L : Life} {f : Feed} (h : LOk W s L) (hN : N ≤ 60) (hs : s ≤ 4) (hsz : (N + 1) ^ (N + 1) * (N + 3) * (W * s ^ N) ^ (N + 1) < 2 ^ 4000) :
    F_q_puts [.dat (lifeD L), .dat (.int N)] f = .ok (.own ((List.range (N + 1)).map fun n => enc (an (fun k => ch L (k + 1)) dl n))) f := by
  have D0 : 0 < W * s ^ N := Nat.mul_pos h.W0 (Nat.pow_pos h.s0)
  have hc : ∀ k, k < N → Wh (W * s ^ N) (ch L (k + 1)) ∧ 0 ≤ ch L (k + 1) ∧ ch L (k + 1) ≤ 1 := fun k hk => h.ch (by omega)
  have MP : 0 < (N + 1) ^ (N + 1) := Nat.pow_pos (by omega)
  have DP : 0 < (W * s ^ N) ^ (N + 1) := Nat.pow_pos D0
  have b1 := by_parts_q (f := f) h hN hs (Nat.lt_of_le_of_lt (Nat.mul_le_mul_right _ (Nat.mul_le_mul_left _ (by omega))) hsz)
  have ps := pp_sum (fun k => ch L (k + 1))
  have pw := fun j m hm => pp_wh (c := fun k => ch L (k + 1)) (D := W * s ^ N) (N := N) (fun k hk => (hc k hk).1) j m hm
  have pa := fun j m hm => pp_ab (c := fun k => ch L (k + 1)) (M := N + 1) (N := N) (fun k hk => ab_01 (hc k hk).2.1 (hc k hk).2.2) (by omega) (by omega) j m hm
  generalize hc2 : (fun k => ch L (k + 1)) = c at *
  generalize hD : W * s ^ N = D at *
  have inner : ∀ (n : Nat), n ≤ N → lcN (.one 4) cYes (cBin oIx (cVar 4) (cVar 3)) [.dat (lifeD L), .dat (.int N), .dat (.list ((List.range (N + 1)).map fun j => .list (rowD c N j))), .dat (.int n), .emp] ((List.range (N + 1)).map fun j => .list (rowD c N j)) [] f = .ok (((List.range (N + 1)).map fun j => pp c j n).map enc) f := fun n hn => by
    rw [List.map_map]
    refine lc_map (by rw [List.length_range]; omega) fun j hj => ⟨_, rfl, ?_⟩
    have a : atI (rowD c N j) (n : Int) = some (enc (pp c j n)) := at_range (by omega)
    simp only [List.set_cons_succ, List.set_cons_zero, e_Bin, e_V, List.getElem?_cons_succ, List.getElem?_cons_zero, pk_ok_dat, e_ix_list, a, Option.map_some, give_some, Function.comp]
  have sums : ∀ (n : Nat), n ≤ N → F_q_sum [.dat (.list (((List.range (N + 1)).map fun j => pp c j n).map enc))] f = .ok (.dat (enc (an c dl n))) f := fun n hn => by
    have q := q_sum_q (f := f) (xs := (List.range (N + 1)).map fun j => pp c j n) (D := D ^ (N + 1)) (B := (N + 1) ^ (N + 1)) (L := N + 1) DP MP (fun x hx => by
      obtain ⟨j, hj, rfl⟩ := List.mem_map.mp hx
      have := List.mem_range.mp hj
      exact (pw j n hn).up (Nat.pow_dvd_pow D (by omega))) (fun x hx => by
      obtain ⟨j, hj, rfl⟩ := List.mem_map.mp hx
      have := List.mem_range.mp hj
      exact (pa j n hn).up (Rat.natCast_le_natCast.mpr (Nat.pow_le_pow_right (by omega) (by omega)))) (by simp) (Nat.lt_of_le_of_lt (Nat.mul_le_mul_right _ (Nat.mul_le_mul_left _ (by omega))) hsz)
    rw [rs_list, ps n (N + 1) (by omega)] at q
    exact q
  have outer : lcN (.one 3) cYes (cCall F_q_sum [cLc (iSeq (cVar 2)) (.one 4) cYes (cBin oIx (cVar 4) (cVar 3)) [4]]) [.dat (lifeD L), .dat (.int N), .dat (.list ((List.range (N + 1)).map fun j => .list (rowD c N j))), .emp, .emp] (rangeD 0 (N + 1)) [] f = .ok ((List.range (N + 1)).map fun n => enc (an c dl n)) f := by
    rw [range0]
    refine lc_map (by rw [List.length_range]; omega) fun n hn => ⟨_, rfl, ?_⟩
    have hn2 := List.mem_range.mp hn
    have q1 := inner n (by omega)
    have q2 := sums n (by omega)
    generalize ((List.range (N + 1)).map fun j => pp c j n) = xs at q1 q2
    simp only [List.set_cons_succ, List.set_cons_zero, e_Call, e_Vals_cons, e_Vals_nil, e_Lc, e_iSeq, e_V, List.getElem?_cons_succ, List.getElem?_cons_zero, bind_ok, dt_ok_dat, e_seqOf_list, e_wipe_cons, e_wipe_nil, q1, e_arg_own, q2]
  have e2 : ((N : Int) + 1).toNat = N + 1 := by omega
  apply ev_is
  rw [u_q_puts, ev_dEnd]
  unfold S_q_puts
  simp [b1, smallI_ok (n := (N : Int) + 1) (by omega) (by omega), e2, outer]
theorem q_most_ok {t : Int} {f : Feed} (hF : Fd t f) (ht : t < 2 ^ 30) (t0 : 0 ≤ t) : Ev (F_q_most [.feed] f) (fun rv g => ∃ m : Nat, rv = .dat (.int m) ∧ m ≤ 20 ∧ Fd (t + 2) g) := by
  rw [u_q_most, ev_dEnd]
  unfold S_q_most
  simp
  refine Ev.drawnE (draw_ok (by decide) (by decide) hF (by omega)) fun a f1 a0 a1 hF1 => ?_
  simp [ev_ite]
  refine ⟨fun _ => ?_, fun _ => ?_⟩
  · refine Ev.drawnE (draw_ok (by decide) (by decide) hF1 (by omega)) fun b f2 b0 b1 hF2 => ?_
    simp
    exact ⟨b.toNat, by omega, by omega, hF2.up (by omega)⟩
  · refine Ev.drawn (draw_ok (by decide) (by decide) hF1 (by omega)) fun b f2 b0 b1 hF2 => ?_
    simp
    exact ⟨(12 + b).toNat, by omega, by omega, hF2.up (by omega)⟩
theorem D_le {W s m : Nat} (hW : W ≤ 12800) (hs : s ≤ 4) (hm : m ≤ 21) : W * s ^ m ≤ 2 ^ 56 := by
  have h1 : s ^ m ≤ 4 ^ m := Nat.pow_le_pow_left hs m
  have h2 : (4 : Nat) ^ m ≤ 4 ^ 21 := Nat.pow_le_pow_right (by decide) hm
  have h3 := Nat.mul_le_mul hW (Nat.le_trans h1 h2)
  exact Nat.le_trans h3 (by decide)
theorem pow_two {D n k : Nat} (h : D ≤ 2 ^ 56) (hn : n ≤ k) : D ^ n ≤ 2 ^ (56 * k) := by
  have h1 : D ^ n ≤ (2 ^ 56) ^ n := Nat.pow_le_pow_left h n
  rw [← Nat.pow_mul] at h1
  exact Nat.le_trans h1 (Nat.pow_le_pow_right (by decide) (Nat.mul_le_mul_left 56 hn))
theorem pow_21 {M n k : Nat} (h : M ≤ 32) (hn : n ≤ k) : M ^ n ≤ 2 ^ (5 * k) := by
  have h1 : M ^ n ≤ 32 ^ n := Nat.pow_le_pow_left h n
  have h2 : (32 : Nat) ^ n = 2 ^ (5 * n) := by rw [Nat.pow_mul]
  rw [h2] at h1
  exact Nat.le_trans h1 (Nat.pow_le_pow_right (by decide) (Nat.mul_le_mul_left 5 hn))
theorem puts_sz {W s N : Nat} (hW : W ≤ 12800) (hs : s ≤ 4) (hN : N ≤ 20) : (N + 1) ^ (N + 1) * (N + 3) * (W * s ^ N) ^ (N + 1) < 2 ^ 4000 := by
  have h1 := pow_21 (M := N + 1) (n := N + 1) (k := 21) (by omega) (by omega)
  have h2 := pow_two (n := N + 1) (k := 21) (D_le (m := N) hW hs (by omega)) (by omega)
  exact Nat.lt_of_le_of_lt (Nat.mul_le_mul (Nat.mul_le_mul h1 (show N + 3 ≤ 23 by omega)) h2) (by decide)
theorem anew_sz {W s m : Nat} (hW : W ≤ 12800) (hs : s ≤ 4) (hm : m ≤ 20) : 20 * (m + 1) ^ m * (m + 1) * (27720 * (W * s ^ (m + 1)) ^ (m + 1)) < 2 ^ 4000 := by
  have h1 := pow_21 (M := m + 1) (n := m) (k := 21) (by omega) (by omega)
  have h2 := pow_two (n := m + 1) (k := 21) (D_le (m := m + 1) hW hs (by omega)) (by omega)
  exact Nat.lt_of_le_of_lt (Nat.mul_le_mul (Nat.mul_le_mul (Nat.mul_le_mul_left 20 h1) (show m + 1 ≤ 21 by omega)) (Nat.mul_le_mul_left 27720 h2)) (by decide)
/-- what comes anew may be shown -/
theorem an_nice {W s m : Nat} {L : Life} {t : Nat → Rat} (h : LOk W s L) (hW : W ≤ 12800) (hs : s ≤ 4) (hm : m ≤ 20) (ht : ∀ k, Wh 27720 (t k) ∧ Ab ((20 : Nat) : Rat) (t k)) (n : Nat) (hn : n ≤ m) : Nice 2 1 (enc (an (fun k => ch L (k + 1)) t n)) := by
  have D0 : 0 < W * s ^ (m + 1) := Nat.mul_pos h.W0 (Nat.pow_pos h.s0)
  have hc : ∀ k, k < m → Wh (W * s ^ (m + 1)) (ch L (k + 1)) ∧ 0 ≤ ch L (k + 1) ∧ ch L (k + 1) ≤ 1 := fun k hk => h.ch (by omega)
  have w := an_wh (c := fun k => ch L (k + 1)) (t := t) (E := 27720) (m := m) (fun k hk => (hc k hk).1) (fun k _ => (ht k).1) n hn
  have a := an_ab (c := fun k => ch L (k + 1)) (t := t) (B := 20) (M := m + 1) (m := m) (fun k hk => ab_01 (hc k hk).2.1 (hc k hk).2.2) (fun k _ => (ht k).2) (Nat.le_refl _) n hn
  have h1 := pow_21 (M := m + 1) (n := n) (k := 21) (by omega) (by omega)
  have h2 := pow_two (n := n) (k := 20) (D_le (m := m + 1) hW hs (by omega)) (by omega)
  refine nice_enc (n := 1850) (ab_sz (Nat.mul_pos (by decide) (Nat.pow_pos D0)) w a (Nat.mul_pos (by decide) (Nat.pow_pos (by omega))) ?_) (Nat.le_refl _)
  exact Nat.lt_of_le_of_lt (Nat.mul_le_mul (Nat.mul_le_mul_left 20 h1) (Nat.mul_le_mul_left 27720 h2)) (by decide)
theorem nice_life {W s : Nat} {L : Life} (h : LOk W s L) (hW : W ≤ 12800) (hs : s ≤ 4) (hl : L.row.length ≤ 7) : Nice 30 3 (lifeD L) := by
  have k1 : (12800 : Nat) < 2 ^ 14 := by decide
  have h1 : NiceL ((L.row.map enc).length * 3) 1 (L.row.map enc) := niceL_of fun d hd => by
    obtain ⟨x, hx, rfl⟩ := List.mem_map.mp hd
    have b := h.row x hx
    exact nice_enc (n := 14) (ab_sz (B := 1) h.W0 b.1 (ab_01 b.2.1 b.2.2) (by decide) (by omega)) (by decide)
  rw [List.length_map] at h1
  have h2 : Nice 2 1 (enc L.step) := nice_enc (n := 14) (ab_sz (D := s) (B := 1) h.s0 h.step (ab_01 h.st0 (by have := h.st1; grind)) (by decide) (by omega)) (by decide)
  exact nice_tuple ((niceL_cons (nice_tuple (h1.up (Nat.mul_le_mul_right 3 hl) (Nat.le_refl 1))) (niceL_cons (h2.up (Nat.le_refl _) (by decide)) niceL_nil)).up (by decide) (Nat.le_refl _))
end Fp

/-! mathematics: what comes anew of anything told, its sizes -/
namespace Fp
open PySem PySem.Spec L2 Dn
theorem anewG_sz {W s m E B : Nat} (hW : W ≤ 12800) (hs : s ≤ 4) (hm : m ≤ 20) (hE : E ≤ 2 ^ 64) (hB : B ≤ 64) : B * (m + 1) ^ m * (m + 1) * (E * (W * s ^ (m + 1)) ^ (m + 1)) < 2 ^ 4000 := by
  have h1 := pow_21 (M := m + 1) (n := m) (k := 21) (by omega) (by omega)
  have h2 := pow_two (n := m + 1) (k := 21) (D_le (m := m + 1) hW hs (by omega)) (by omega)
  exact Nat.lt_of_le_of_lt (Nat.mul_le_mul (Nat.mul_le_mul (Nat.mul_le_mul hB h1) (show m + 1 ≤ 21 by omega)) (Nat.mul_le_mul hE h2)) (by decide)
theorem anG_nice {W s m E B : Nat} {L : Life} {t : Nat → Rat} (h : LOk W s L) (hW : W ≤ 12800) (hs : s ≤ 4) (hm : m ≤ 20) (hE0 : 0 < E) (hE : E ≤ 2 ^ 64) (hB0 : 0 < B) (hB : B ≤ 64) (ht : ∀ k, k ≤ m → Wh E (t k) ∧ Ab (B : Rat) (t k)) (n : Nat) (hn : n ≤ m) : Nice 2 1 (enc (an (fun k => ch L (k + 1)) t n)) := by
  have D0 : 0 < W * s ^ (m + 1) := Nat.mul_pos h.W0 (Nat.pow_pos h.s0)
  have hc : ∀ k, k < m → Wh (W * s ^ (m + 1)) (ch L (k + 1)) ∧ 0 ≤ ch L (k + 1) ∧ ch L (k + 1) ≤ 1 := fun k hk => h.ch (by omega)
  have w := an_wh (c := fun k => ch L (k + 1)) (t := t) (E := E) (m := m) (fun k hk => (hc k hk).1) (fun k hk => (ht k hk).1) n hn
  have a := an_ab (c := fun k => ch L (k + 1)) (t := t) (B := B) (M := m + 1) (m := m) (fun k hk => ab_01 (hc k hk).2.1 (hc k hk).2.2) (fun k hk => (ht k hk).2) (Nat.le_refl _) n hn
  have h1 := pow_21 (M := m + 1) (n := n) (k := 21) (by omega) (by omega)
  have h2 := pow_two (n := n) (k := 20) (D_le (m := m + 1) hW hs (by omega)) (by omega)
  refine nice_enc (n := 1850) (ab_sz (Nat.mul_pos hE0 (Nat.pow_pos D0)) w a (Nat.mul_pos hB0 (Nat.pow_pos (by omega))) ?_) (Nat.le_refl _)
  exact Nat.lt_of_le_of_lt (Nat.mul_le_mul (Nat.mul_le_mul hB h1) (Nat.mul_le_mul hE h2)) (by decide)
theorem puts_q {W s N : Nat} {L : Life} {f : Feed} (h : LOk W s L) (hW : W ≤ 12800) (hs : s ≤ 4) (hN : N ≤ 20) : F_puts [.dat (lifeD L), .dat (.int N)] f = .ok (.dat (.tuple ((List.range (N + 1)).map fun n => enc (an (fun k => ch L (k + 1)) dl n)))) f := by
  have a := anew_q (f := f) (m := 20) (E := 1) (B := 1) (ts := 1 :: List.replicate N 0) h (by simp; omega) (by decide) (by decide) (by decide) (fun x hx => by
    rcases List.mem_cons.mp hx with rfl | hx
    · exact wh_1
    · rw [List.eq_of_mem_replicate hx]
      exact wh_0) (fun x hx => by
    rcases List.mem_cons.mp hx with rfl | hx
    · exact ⟨by decide, by decide⟩
    · rw [List.eq_of_mem_replicate hx]
      exact ⟨by decide, by decide⟩) hs (anewG_sz hW hs (Nat.le_refl _) (by decide) (by decide))
  have e : tg (1 :: List.replicate N 0) = dl := by
    funext k
    unfold tg dl
    cases k with
    | zero => rfl
    | succ k =>
      rw [List.getD_cons_succ, List.getD_eq_getElem?_getD]
      by_cases q : k < N
      · simp [q]
      · simp [q]
  rw [e, List.length_cons, List.length_replicate, List.map_cons, List.map_replicate, enc0, enc1] at a
  have b1 : (N : Int) ≤ 1000 := by omega
  have b2 : -1000 ≤ (N : Int) := by omega
  have b3 : 1 + N ≤ 100000 := by omega
  apply ev_is
  rw [u_puts, ev_dEnd]
  unfold S_puts
  simp [b1, b2, b3, a]
/-- nought, then the chances of a first -/
def fst (F : Life) (k : Nat) : Rat := if k = 0 then 0 else ch F k
theorem puts_after_q {W s W2 s2 N : Nat} {L F : Life} {f : Feed} (h : LOk W s L) (hW : W ≤ 12800) (hs : s ≤ 4) (h2 : LOk W2 s2 F) (hW2 : W2 ≤ 12800) (hs2 : s2 ≤ 4) (hN : N ≤ 20) :
    F_puts_after [.dat (lifeD F), .dat (lifeD L), .dat (.int N)] f = .ok (.dat (.tuple ((List.range (N + 1)).map fun n => enc (an (fun k => ch L (k + 1)) (tg (0 :: (List.range N).map fun k => ch F (k + 1))) n)))) f := by
  have D52 := D_le (m := 20) hW2 hs2 (by decide)
  have D0 : 0 < W2 * s2 ^ 20 := Nat.mul_pos h2.W0 (Nat.pow_pos h2.s0)
  have a := anew_q (f := f) (m := 20) (E := W2 * s2 ^ 20) (B := 1) (ts := 0 :: (List.range N).map fun k => ch F (k + 1)) h (by simp; omega) (by decide) D0 (by decide) (fun x hx => by
    rcases List.mem_cons.mp hx with rfl | hx
    · exact wh_0
    · obtain ⟨k, hk, rfl⟩ := List.mem_map.mp hx
      have := List.mem_range.mp hk
      exact (h2.ch (by omega)).1) (fun x hx => by
    rcases List.mem_cons.mp hx with rfl | hx
    · exact ⟨by decide, by decide⟩
    · obtain ⟨k, hk, rfl⟩ := List.mem_map.mp hx
      have := List.mem_range.mp hk
      have q := h2.ch (k := k + 1) (m := 20) (by omega)
      exact ab_01 q.2.1 q.2.2) hs (anewG_sz hW hs (Nat.le_refl _) (Nat.le_trans D52 (by decide)) (by decide))
  have c1 := chances_to_q (f := f) (n := N) (m := 20) h2 hN (Nat.lt_of_le_of_lt D52 (by decide)) (Nat.lt_of_le_of_lt hs2 (by decide)) (by decide)
  rw [List.length_cons, List.length_map, List.length_range, List.map_cons, List.map_map, enc0] at a
  have b3 : 1 + N ≤ 100000 := by omega
  apply ev_is
  rw [u_puts_after, ev_dEnd]
  unfold S_puts_after
  simp [c1, b3]
  exact ⟨_, f, a, rfl, rfl⟩
end Fp

/-! mathematics: puts behind a first -/
namespace Fp
open PySem PySem.Spec L2 Dn
theorem tg_fst {F : Life} {N k : Nat} (hk : k ≤ N) : tg (0 :: (List.range N).map fun k => ch F (k + 1)) k = fst F k := by
  unfold tg fst
  cases k with
  | zero => rfl
  | succ k =>
    rw [List.getD_cons_succ, List.getD_eq_getElem?_getD, List.getElem?_map, List.getElem?_range (by omega), if_neg (by omega)]
    rfl
theorem an_congr {c t u : Nat → Rat} {N : Nat} (h : ∀ k, k ≤ N → t k = u k) : ∀ n, n ≤ N → an c t n = an c u n := by
  intro n
  induction n using Nat.strongRecOn with
  | ind n ih =>
    intro hn
    rw [an_eq, an_eq c u, h n hn]
    congr 1
    exact rs_congr fun k hk => by rw [ih (n - 1 - k) (by omega) (by omega)]
/-- by the first part and then how many others -/
theorem an_fst (c : Nat → Rat) (F : Life) (n : Nat) : an c (fst F) n = rs n fun k => ch F (k + 1) * an c dl (n - (k + 1)) := by
  rw [an_conv, rs_succ]
  have z : fst F (n - n) = 0 := by
    unfold fst
    rw [Nat.sub_self, if_pos rfl]
  rw [z, Rat.mul_zero, Rat.add_zero, ← rs_rev]
  refine rs_congr fun k hk => ?_
  unfold fst
  rw [if_neg (by omega), show n - (n - 1 - k) = k + 1 by omega, show n - 1 - k = n - (k + 1) by omega, Rat.mul_comm]
theorem an_own (L : Life) (n : Nat) (hn : 0 < n) : an (fun k => ch L (k + 1)) (fst L) n = an (fun k => ch L (k + 1)) dl n := by
  rw [an_fst, an_eq _ dl]
  have z : dl n = 0 := by
    unfold dl
    rw [if_neg (by omega)]
  rw [z, Rat.zero_add]
  exact rs_congr fun k hk => by rw [show n - 1 - k = n - (k + 1) by omega]
end Fp

/-! mathematics: sizes by degrees; less, over; what may be shown, wider -/
namespace Fp
open PySem PySem.Spec L2 Dn
/-- a whole number comes of it by K to the n-th, it is at most 2 to the e-th -/
structure G (K n e : Nat) (x : Rat) : Prop where
  w : Wh (K ^ n) x
  a : Ab ((2 ^ e : Nat) : Rat) x
section
variable {K n m e d b l : Nat} {x y : Rat}
theorem G.up (h : G K n e x) (hn : n ≤ m) (he : e ≤ d) : G K m d x := ⟨h.w.up (Nat.pow_dvd_pow K hn), h.a.up (Rat.natCast_le_natCast.mpr (Nat.pow_le_pow_right (by decide) he))⟩
theorem G.mul (h : G K n e x) (k : G K m d y) : G K (n + m) (e + d) (x * y) := ⟨by rw [Nat.pow_add]; exact h.w.mul k.w, by rw [Nat.pow_add, Rat.natCast_mul]; exact h.a.mul k.a⟩
theorem two_more {e : Nat} : ((2 ^ (e + 1) : Nat) : Rat) = ((2 ^ e : Nat) : Rat) + ((2 ^ e : Nat) : Rat) := by
  rw [← Rat.natCast_add]
  congr 1
  rw [Nat.pow_succ]
  omega
theorem G.add (h : G K n e x) (k : G K n e y) : G K n (e + 1) (x + y) := ⟨h.w.add k.w, by rw [two_more]; exact h.a.add k.a⟩
theorem G.sub (h : G K n e x) (k : G K n e y) : G K n (e + 1) (x - y) := ⟨h.w.sub k.w, by rw [two_more]; exact h.a.sub k.a⟩
theorem sum_ab {B : Nat} : ∀ {xs : List Rat}, (∀ x ∈ xs, Ab (B : Rat) x) → Ab ((xs.length * B : Nat) : Rat) xs.sum
  | [], _ => by
    rw [List.sum_nil]
    exact ab_0 Rat.natCast_nonneg
  | x :: xs, h => by
    have a := (h x List.mem_cons_self).add (sum_ab fun y hy => h y (List.mem_cons_of_mem _ hy))
    rw [← Rat.natCast_add] at a
    rw [List.sum_cons, List.length_cons, Nat.add_mul, Nat.one_mul, Nat.add_comm]
    exact a
theorem G.sum {xs : List Rat} (h : ∀ x ∈ xs, G K n e x) (hl : xs.length ≤ 2 ^ l) : G K n (e + l) xs.sum :=
  ⟨sum_wh fun x hx => (h x hx).w, (sum_ab fun x hx => (h x hx).a).up (Rat.natCast_le_natCast.mpr (by rw [Nat.pow_add, Nat.mul_comm]; exact Nat.mul_le_mul_left _ hl))⟩
theorem G.rs {N : Nat} {g : Nat → Rat} (h : ∀ k, k < N → G K n e (g k)) (hl : N ≤ 2 ^ l) : G K n (e + l) (rs N g) := by
  refine G.sum (fun x hx => ?_) (by rw [List.length_map, List.length_range]; exact hl)
  obtain ⟨k, hk, rfl⟩ := List.mem_map.mp hx
  exact h k (List.mem_range.mp hk)
theorem pow_le_two (hK : K ≤ 2 ^ b) (n : Nat) : K ^ n ≤ 2 ^ (b * n) := by
  rw [Nat.pow_mul]
  exact Nat.pow_le_pow_left hK n
theorem g_size (hK : K ≤ 2 ^ b) (hb : b * n + e < m) : 2 ^ e * K ^ n < 2 ^ m := by
  have h1 := Nat.mul_le_mul_left (2 ^ e) (pow_le_two hK n)
  rw [← Nat.pow_add] at h1
  exact Nat.lt_of_le_of_lt h1 (Nat.pow_lt_pow_right (by decide) (by omega))
theorem G.szN {N : Nat} (h : G K n e x) (K0 : 0 < K) (hK : K ≤ 2 ^ b) (hb : b * n + e < N) : Sz N x := ab_sz (Nat.pow_pos K0) h.w h.a (Nat.pow_pos (by decide)) (g_size hK hb)
theorem G.sz (h : G K n e x) (K0 : 0 < K) (hK : K ≤ 2 ^ b) (hb : b * n + e < 4000) : Sz 4000 x := h.szN K0 hK hb
theorem G.of {D : Nat} (hw : Wh D x) (hd : D ∣ K) (h0 : 0 ≤ x) (h1 : x ≤ 1) : G K 1 0 x := ⟨by rw [Nat.pow_one]; exact hw.up hd, by rw [Nat.pow_zero]; exact ab_01 h0 h1⟩
theorem g_int {i : Int} (h : i.natAbs ≤ 2 ^ e) : G K n e (i : Rat) := by
  refine ⟨wh_int i, ?_, ?_⟩
  · rw [← Rat.intCast_natCast, ← Rat.intCast_neg]
    exact Rat.intCast_le_intCast.mpr (by omega)
  · rw [← Rat.intCast_natCast]
    exact Rat.intCast_le_intCast.mpr (by omega)
theorem g_nat {i : Nat} (h : i ≤ 2 ^ e) : G K n e (i : Rat) := g_int (i := i) (by rw [Int.natAbs_natCast]; exact h)
theorem g_0 : G K n e 0 := g_int (i := 0) (Nat.zero_le _)
theorem g_1 : G K n e 1 := g_int (i := 1) (Nat.pow_pos (by decide))
theorem sz_int {i : Int} (h : i.natAbs < 2 ^ 3900) : Sz 4000 (i : Rat) := by
  refine ⟨?_, ?_⟩
  · rw [Rat.num_intCast]
    exact Nat.lt_trans h (by decide)
  · rw [Rat.den_intCast]
    decide
theorem sz_0 : Sz 4000 0 := sz_int (i := 0) (by decide)
theorem sz_1 : Sz 4000 1 := sz_int (i := 1) (by decide)
theorem sz_nat {i : Nat} (h : i < 2 ^ 3900) : Sz 4000 (i : Rat) := sz_int (i := i) (by rw [Int.natAbs_natCast]; exact h)
end
/-! the operations -/
section
variable {K n e b : Nat} {x y : Rat} {f : Feed}
/-! of a list or a tuple -/
theorem summed_d {d0 : PyData} {D B L : Nat} {xs : List Rat} {f : Feed} (hd : seqOf d0 = some (xs.map enc)) (hD : 0 < D) (hB : 0 < B) (hw : ∀ x ∈ xs, Wh D x) (hb : ∀ x ∈ xs, Ab (B : Rat) x) (hL : xs.length ≤ L) (hs : B * (L + 1) * D < 2 ^ 4000) : F_summed [.dat d0] f = .ok (.dat (enc xs.sum)) f := by
  apply ev_is
  rw [u_summed, ev_dEnd]
  unfold S_summed
  simp [hd]
  refine ev_forT (I := fun (rest : List Rat) ρ g => g = f ∧ ∃ (acc : Rat) (k : Nat) (s2 : Slot), ρ = [.dat d0, .dat (enc acc), s2] ∧ acc + rest.sum = xs.sum ∧ Wh D acc ∧ Ab ((B * k : Nat) : Rat) acc ∧ k + rest.length ≤ L ∧ (∀ x ∈ rest, Wh D x ∧ Ab (B : Rat) x)) ?_ ?_ xs _ f ⟨rfl, 0, 0, .emp, rfl, by grind, wh_0, ab_0 Rat.natCast_nonneg, by omega, fun x hx => ⟨hw x hx, hb x hx⟩⟩
  · rintro x rest ρ g ⟨rfl, acc, k, s2, rfl, e, w, a, l, h⟩
    obtain ⟨hx1, hx2⟩ := h x List.mem_cons_self
    rw [List.length_cons] at l
    rw [List.sum_cons] at e
    have hm : ∀ j, j ≤ L → (B * (j + 1)) * D < 2 ^ 4000 := fun j hj => Nat.lt_of_le_of_lt (Nat.mul_le_mul_right D (Nat.mul_le_mul_left B (by omega))) hs
    have s1 : Sz 4000 acc := ab_sz hD w (a.up (Rat.natCast_le_natCast.mpr (Nat.mul_le_mul_left B (Nat.le_succ k)))) (Nat.mul_pos hB (Nat.succ_pos k)) (hm k (by omega))
    have s2 : Sz 4000 x := ab_sz hD hx1 hx2 hB (by have := hm 0 (by omega); rwa [Nat.zero_add, Nat.mul_one] at this)
    have p := plus_q (f := g) s1 s2 (Nat.le_refl _)
    refine ⟨_, rfl, ?_⟩
    simp [p]
    refine ⟨acc + x, rfl, by grind, w.add hx1, k + 1, ?_, by omega, fun y hy => h y (List.mem_cons_of_mem _ hy)⟩
    have := a.add hx2
    rw [← Rat.natCast_add] at this
    rw [← Rat.natCast_mul, Nat.mul_succ]
    exact this
  · rintro ρ g ⟨rfl, acc, k, s2, rfl, e, w, a, l, h⟩
    simp
    rw [List.sum_nil] at e
    have : acc = xs.sum := by grind
    rw [this]
theorem q_sum_d {d0 : PyData} {D B L : Nat} {xs : List Rat} {f : Feed} (hd : seqOf d0 = some (xs.map enc)) (hD : 0 < D) (hB : 0 < B) (hw : ∀ x ∈ xs, Wh D x) (hb : ∀ x ∈ xs, Ab (B : Rat) x) (hL : xs.length ≤ L) (hs : B * (L + 1) * D < 2 ^ 4000) : F_q_sum [.dat d0] f = .ok (.dat (enc xs.sum)) f := by
  apply ev_is
  rw [u_q_sum, ev_dEnd]
  unfold S_q_sum
  simp [hd]
  refine ev_forT (I := fun (rest : List Rat) ρ g => g = f ∧ ∃ (acc : Rat) (k : Nat) (s2 : Slot), ρ = [.dat d0, .dat (enc acc), s2] ∧ acc + rest.sum = xs.sum ∧ Wh D acc ∧ Ab ((B * k : Nat) : Rat) acc ∧ k + rest.length ≤ L ∧ (∀ x ∈ rest, Wh D x ∧ Ab (B : Rat) x)) ?_ ?_ xs _ f ⟨rfl, 0, 0, .emp, rfl, by grind, wh_0, ab_0 Rat.natCast_nonneg, by omega, fun x hx => ⟨hw x hx, hb x hx⟩⟩
  · rintro x rest ρ g ⟨rfl, acc, k, s2, rfl, e, w, a, l, h⟩
    obtain ⟨hx1, hx2⟩ := h x List.mem_cons_self
    rw [List.length_cons] at l
    rw [List.sum_cons] at e
    have hm : ∀ j, j ≤ L → (B * (j + 1)) * D < 2 ^ 4000 := fun j hj => Nat.lt_of_le_of_lt (Nat.mul_le_mul_right D (Nat.mul_le_mul_left B (by omega))) hs
    have s1 : Sz 4000 acc := ab_sz hD w (a.up (Rat.natCast_le_natCast.mpr (Nat.mul_le_mul_left B (Nat.le_succ k)))) (Nat.mul_pos hB (Nat.succ_pos k)) (hm k (by omega))
    have s2 : Sz 4000 x := ab_sz hD hx1 hx2 hB (by have := hm 0 (by omega); rwa [Nat.zero_add, Nat.mul_one] at this)
    have m1 : oMul (.int acc.num) (.int (x.den : Nat)) = some (.dat (.int (acc.num * x.den))) := oMul_int (mulC_sz s1.num (by rw [Int.natAbs_natCast]; exact s2.den) (Nat.le_refl _))
    have m2 : oMul (.int x.num) (.int (acc.den : Nat)) = some (.dat (.int (x.num * acc.den))) := oMul_int (mulC_sz s2.num (by rw [Int.natAbs_natCast]; exact s1.den) (Nat.le_refl _))
    have m3 : oMul (.int (acc.den : Nat)) (.int (x.den : Nat)) = some (.dat (.int (acc.den * x.den))) := oMul_int (mulC_sz (by rw [Int.natAbs_natCast]; exact s1.den) (by rw [Int.natAbs_natCast]; exact s2.den) (Nat.le_refl _))
    have b3 := prod_lt s1.den s2.den (Nat.le_refl _)
    have kk : (2 : Nat) ^ 8000 ≤ 2 ^ 8500 := by decide
    have p := q_low_q (f := g) (p := acc.num * x.den + x.num * acc.den) (Nat.mul_pos acc.den_pos x.den_pos) (by omega)
    rw [Int.natCast_mul, add_eq] at p
    refine ⟨_, rfl, ?_⟩
    simp only [e_set, e_Call, e_Vals_cons, e_Vals_nil, e_Bin, e_V, e_C, List.getElem?_cons_succ, List.getElem?_cons_zero, List.set_cons_succ, List.set_cons_zero, pk_ok_dat, enc, e_ix_tuple, e_at0, e_at1, Option.map_some, give_some, m1, m2, m3, oAdd_int, bind_ok, e_arg_dat]
    rw [p]
    simp
    refine ⟨acc + x, rfl, by grind, w.add hx1, k + 1, ?_, by omega, fun y hy => h y (List.mem_cons_of_mem _ hy)⟩
    have := a.add hx2
    rw [← Rat.natCast_add] at this
    rw [← Rat.natCast_mul, Nat.mul_succ]
    exact this
  · rintro ρ g ⟨rfl, acc, k, s2, rfl, e, w, a, l, h⟩
    simp
    rw [List.sum_nil] at e
    have : acc = xs.sum := by grind
    rw [this]
theorem summed_gd {d0 : PyData} {xs : List Rat} (hd : seqOf d0 = some (xs.map enc)) (h : ∀ x ∈ xs, G K n e x) (K0 : 0 < K) (hK : K ≤ 2 ^ b) (hl : xs.length ≤ 63) (hb : b * n + e + 6 < 4000) : F_summed [.dat d0] f = .ok (.dat (enc xs.sum)) f :=
  summed_d (D := K ^ n) (B := 2 ^ e) (L := 63) hd (Nat.pow_pos K0) (Nat.pow_pos (by decide)) (fun x hx => (h x hx).w) (fun x hx => (h x hx).a) hl (by
    rw [show 2 ^ e * (63 + 1) = 2 ^ (e + 6) by rw [Nat.pow_add]]
    exact g_size hK hb)
theorem q_sum_gd {d0 : PyData} {xs : List Rat} (hd : seqOf d0 = some (xs.map enc)) (h : ∀ x ∈ xs, G K n e x) (K0 : 0 < K) (hK : K ≤ 2 ^ b) (hl : xs.length ≤ 63) (hb : b * n + e + 6 < 4000) : F_q_sum [.dat d0] f = .ok (.dat (enc xs.sum)) f :=
  q_sum_d (D := K ^ n) (B := 2 ^ e) (L := 63) hd (Nat.pow_pos K0) (Nat.pow_pos (by decide)) (fun x hx => (h x hx).w) (fun x hx => (h x hx).a) hl (by
    rw [show 2 ^ e * (63 + 1) = 2 ^ (e + 6) by rw [Nat.pow_add]]
    exact g_size hK hb)
theorem summed_g {xs : List Rat} (h : ∀ x ∈ xs, G K n e x) (K0 : 0 < K) (hK : K ≤ 2 ^ b) (hl : xs.length ≤ 63) (hb : b * n + e + 6 < 4000) : F_summed [.dat (.list (xs.map enc))] f = .ok (.dat (enc xs.sum)) f :=
  summed_q (D := K ^ n) (B := 2 ^ e) (L := 63) (Nat.pow_pos K0) (Nat.pow_pos (by decide)) (fun x hx => (h x hx).w) (fun x hx => (h x hx).a) hl (by
    rw [show 2 ^ e * (63 + 1) = 2 ^ (e + 6) by rw [Nat.pow_add]]
    exact g_size hK hb)
theorem q_sum_g {xs : List Rat} (h : ∀ x ∈ xs, G K n e x) (K0 : 0 < K) (hK : K ≤ 2 ^ b) (hl : xs.length ≤ 63) (hb : b * n + e + 6 < 4000) : F_q_sum [.dat (.list (xs.map enc))] f = .ok (.dat (enc xs.sum)) f :=
  q_sum_q (D := K ^ n) (B := 2 ^ e) (L := 63) (Nat.pow_pos K0) (Nat.pow_pos (by decide)) (fun x hx => (h x hx).w) (fun x hx => (h x hx).a) hl (by
    rw [show 2 ^ e * (63 + 1) = 2 ^ (e + 6) by rw [Nat.pow_add]]
    exact g_size hK hb)
theorem summed_r {N : Nat} {g : Nat → Rat} (h : ∀ k, k < N → G K n e (g k)) (K0 : 0 < K) (hK : K ≤ 2 ^ b) (hl : N ≤ 63) (hb : b * n + e + 6 < 4000) : F_summed [.dat (.list ((List.range N).map fun k => enc (g k)))] f = .ok (.dat (enc (rs N g))) f := by
  have q := summed_g (f := f) (xs := (List.range N).map g) (fun x hx => by
    obtain ⟨k, hk, rfl⟩ := List.mem_map.mp hx
    exact h k (List.mem_range.mp hk)) K0 hK (by rw [List.length_map, List.length_range]; exact hl) hb
  rw [List.map_map] at q
  exact q
theorem q_sum_r {N : Nat} {g : Nat → Rat} (h : ∀ k, k < N → G K n e (g k)) (K0 : 0 < K) (hK : K ≤ 2 ^ b) (hl : N ≤ 63) (hb : b * n + e + 6 < 4000) : F_q_sum [.dat (.list ((List.range N).map fun k => enc (g k)))] f = .ok (.dat (enc (rs N g))) f := by
  have q := q_sum_g (f := f) (xs := (List.range N).map g) (fun x hx => by
    obtain ⟨k, hk, rfl⟩ := List.mem_map.mp hx
    exact h k (List.mem_range.mp hk)) K0 hK (by rw [List.length_map, List.length_range]; exact hl) hb
  rw [List.map_map] at q
  exact q
theorem sub_size (hx : Sz 4000 x) (hy : Sz 4000 y) : (x.num * y.den - y.num * x.den).natAbs < 2 ^ 8500 ∧ x.den * y.den < 2 ^ 8500 := by
  have b1 := prod_lt hx.num hy.den (Nat.le_refl _)
  have b2 := prod_lt hy.num hx.den (Nat.le_refl _)
  have b3 := prod_lt hx.den hy.den (Nat.le_refl _)
  have k : (2 : Nat) ^ 8000 + 2 ^ 8000 ≤ 2 ^ 8500 := by decide
  have a1 : (x.num * y.den).natAbs = x.num.natAbs * y.den := by rw [Int.natAbs_mul, Int.natAbs_natCast]
  have a2 : (y.num * x.den).natAbs = y.num.natAbs * x.den := by rw [Int.natAbs_mul, Int.natAbs_natCast]
  have a3 := Int.natAbs_sub_le (x.num * y.den) (y.num * x.den)
  exact ⟨by omega, by omega⟩
theorem minus_q (hx : Sz 4000 x) (hy : Sz 4000 y) : F_minus [.dat (enc x), .dat (enc y)] f = .ok (.dat (enc (x - y))) f := by
  have m1 : oMul (.int x.num) (.int (y.den : Nat)) = some (.dat (.int (x.num * y.den))) := oMul_int (mulC_sz hx.num (by rw [Int.natAbs_natCast]; exact hy.den) (Nat.le_refl _))
  have m2 : oMul (.int y.num) (.int (x.den : Nat)) = some (.dat (.int (y.num * x.den))) := oMul_int (mulC_sz hy.num (by rw [Int.natAbs_natCast]; exact hx.den) (Nat.le_refl _))
  have m3 : oMul (.int (x.den : Nat)) (.int (y.den : Nat)) = some (.dat (.int (x.den * y.den))) := oMul_int (mulC_sz (by rw [Int.natAbs_natCast]; exact hx.den) (by rw [Int.natAbs_natCast]; exact hy.den) (Nat.le_refl _))
  have s := sub_size hx hy
  have r1 := ratio_big (f := f) (Nat.mul_pos x.den_pos y.den_pos) s.1 s.2
  rw [Int.natCast_mul, sub_eq] at r1
  apply ev_is
  rw [u_minus, ev_dEnd]
  unfold S_minus enc
  simp [m1, m2, m3]
  exact ⟨_, f, r1, by simp [enc]⟩
theorem q_less_q (hx : Sz 4000 x) (hy : Sz 4000 y) : F_q_less [.dat (enc x), .dat (enc y)] f = .ok (.dat (enc (x - y))) f := by
  have m1 : oMul (.int x.num) (.int (y.den : Nat)) = some (.dat (.int (x.num * y.den))) := oMul_int (mulC_sz hx.num (by rw [Int.natAbs_natCast]; exact hy.den) (Nat.le_refl _))
  have m2 : oMul (.int y.num) (.int (x.den : Nat)) = some (.dat (.int (y.num * x.den))) := oMul_int (mulC_sz hy.num (by rw [Int.natAbs_natCast]; exact hx.den) (Nat.le_refl _))
  have m3 : oMul (.int (x.den : Nat)) (.int (y.den : Nat)) = some (.dat (.int (x.den * y.den))) := oMul_int (mulC_sz (by rw [Int.natAbs_natCast]; exact hx.den) (by rw [Int.natAbs_natCast]; exact hy.den) (Nat.le_refl _))
  have s := sub_size hx hy
  have r1 := q_low_q (f := f) (p := x.num * y.den - y.num * x.den) (Nat.mul_pos x.den_pos y.den_pos) s.2
  rw [Int.natCast_mul, sub_eq] at r1
  apply ev_is
  rw [u_q_less, ev_dEnd]
  unfold S_q_less enc
  simp [m1, m2, m3]
  exact ⟨_, f, r1, by simp [enc]⟩
theorem num_pos {y : Rat} (h : 0 < y) : 0 < y.num := by
  have d : (0 : Rat) < (y.den : Rat) := Rat.natCast_pos.mpr y.den_pos
  have e := mul_den y
  have : (0 : Rat) < (y.num : Rat) := by
    rw [← e]
    exact Rat.mul_pos h d
  exact Rat.intCast_lt_intCast.mp (show ((0 : Int) : Rat) < (y.num : Rat) from this)
theorem div_eq {x y : Rat} (h : 0 < y) : mkRat (x.num * y.den) (x.den * y.num.toNat) = x / y := by
  have hn := num_pos h
  have e : ((y.num.toNat : Nat) : Rat) = (y.num : Rat) := by
    rw [← Rat.intCast_natCast, Int.toNat_of_nonneg (by omega)]
  rw [Rat.mkRat_eq_div, Rat.natCast_mul, Rat.intCast_mul, Rat.intCast_natCast, e, ← mul_den x, ← mul_den y]
  have a := cast_ne x.den_pos
  have b := cast_ne y.den_pos
  have c : y ≠ 0 := by grind
  grind
theorem over_q (hx : Sz 4000 x) (hy : Sz 4000 y) (h0 : 0 < y) : F_over [.dat (enc x), .dat (enc y)] f = .ok (.dat (enc (x / y))) f := by
  have hn := num_pos h0
  have m1 : oMul (.int x.num) (.int (y.den : Nat)) = some (.dat (.int (x.num * y.den))) := oMul_int (mulC_sz hx.num (by rw [Int.natAbs_natCast]; exact hy.den) (Nat.le_refl _))
  have m3 : oMul (.int (x.den : Nat)) (.int y.num) = some (.dat (.int (x.den * y.num))) := oMul_int (mulC_sz (by rw [Int.natAbs_natCast]; exact hx.den) hy.num (Nat.le_refl _))
  have e : (x.den * y.num : Int) = ((x.den * y.num.toNat : Nat) : Int) := by
    rw [Int.natCast_mul, Int.toNat_of_nonneg (by omega)]
  have b1 := prod_lt hx.num hy.den (Nat.le_refl _)
  have b3 := prod_lt hx.den hy.num (Nat.le_refl _)
  have k : (2 : Nat) ^ 8000 ≤ 2 ^ 8500 := by decide
  have e2 : y.num.toNat = y.num.natAbs := by omega
  have r1 := ratio_big (f := f) (p := x.num * y.den) (q := x.den * y.num.toNat) (Nat.mul_pos x.den_pos (by omega)) (by rw [Int.natAbs_mul, Int.natAbs_natCast]; omega) (by rw [e2]; omega)
  rw [div_eq h0] at r1
  rw [e] at m3
  apply ev_is
  rw [u_over, ev_dEnd]
  unfold S_over
  rw [show enc x = .tuple [.int x.num, .int (x.den : Nat)] from rfl, show enc y = .tuple [.int y.num, .int (y.den : Nat)] from rfl]
  simp only [e_ret, e_Call, e_Vals_cons, e_Vals_nil, e_Bin, e_V, e_C, e_fnSlot_dat, List.getElem?_cons_succ, List.getElem?_cons_zero, pk_ok_dat, e_ix_tuple, e_at0, e_at1, Option.map_some, give_some, m1, m3, bind_ok, e_arg_dat, r1, ev_ok, retP_rt, e_up_dat]
  exact ⟨trivial, trivial⟩
theorem sz_div {a c : Nat} (hx : Sz a x) (hy : Sz c y) (h0 : 0 < y) : Sz (a + c) (x / y) := by
  have hn := num_pos h0
  have e2 : y.num.toNat = y.num.natAbs := by omega
  rw [← div_eq h0]
  have q0 : 0 < x.den * y.num.toNat := Nat.mul_pos x.den_pos (by omega)
  have l1 : x.num.natAbs * y.den < 2 ^ (a + c) := by
    rw [Nat.pow_add]
    exact Nat.mul_lt_mul_of_lt_of_lt hx.num hy.den
  have l2 : x.den * y.num.toNat < 2 ^ (a + c) := by
    rw [Nat.pow_add, e2]
    exact Nat.mul_lt_mul_of_lt_of_lt hx.den hy.num
  refine ⟨?_, ?_⟩
  · rw [Rat.num_mkRat, if_neg (by omega), Int.natAbs_ediv_of_dvd (Int.ofNat_dvd_left.mpr (Nat.gcd_dvd_right _ _)), Int.natAbs_mul, Int.natAbs_natCast]
    exact Nat.lt_of_le_of_lt (Nat.div_le_self _ _) l1
  · rw [Rat.den_mkRat, if_neg (by omega)]
    exact Nat.lt_of_le_of_lt (Nat.div_le_self _ _) l2
end
@[simp] theorem ix_enc0 {x : Rat} : oIx (enc x) (.int 0) = some (.dat (.int x.num)) := nr rfl
@[simp] theorem ix_enc1 {x : Rat} : oIx (enc x) (.int 1) = some (.dat (.int (x.den : Nat))) := nr rfl
/-! shown -/
theorem canLay_encs : ∀ xs : List Rat, PyData.canLayAll0 (xs.map enc) = true
  | [] => rfl
  | x :: xs => by
    simp only [List.map_cons, enc, PyData.canLayAll0, PyData.canLay0, Bool.and_self, Bool.true_and]
    exact canLay_encs xs
theorem depth_encs : ∀ xs : List Rat, PyData.depthAll (xs.map enc) ≤ 1
  | [] => Nat.zero_le _
  | x :: xs => by
    have := depth_encs xs
    simp only [List.map_cons, enc, PyData.depthAll, PyData.depth]
    exact Nat.max_le.mpr ⟨by decide, this⟩
theorem shaped_encs {xs : List Rat} : SeqAt.shaped (.tuple (xs.map enc)) = true := shaped_tuple (canLay_encs xs) (Nat.le_trans (depth_encs xs) (by decide))
theorem eq_encs_nil {xs : List Rat} : oEq (.tuple (xs.map enc)) (.tuple []) = some (.dat (.bool (decide (xs = [])))) := by
  rw [oEq_of shaped_encs rfl]
  cases xs with
  | nil => rfl
  | cons x xs => simp [PyData.eqv, PyData.eqvAll]
theorem ne_encs_nil {xs : List Rat} : oNe (.tuple (xs.map enc)) (.tuple []) = some (.dat (.bool (!decide (xs = [])))) := by
  rw [oNe_of shaped_encs rfl]
  cases xs with
  | nil => rfl
  | cons x xs => simp [PyData.eqv, PyData.eqvAll]
theorem nicel_encs {xs : List Rat} (h : ∀ x ∈ xs, Sz 1850 x) : NiceL (xs.length * 3) 1 (xs.map enc) := by
  have h1 : NiceL ((xs.map enc).length * 3) 1 (xs.map enc) := niceL_of fun d hd => by
    obtain ⟨x, hx, rfl⟩ := List.mem_map.mp hd
    exact nice_enc (h x hx) (Nat.le_refl _)
  rwa [List.length_map] at h1
theorem nicel_range {N : Nat} {g : Nat → Rat} (h : ∀ k, k < N → Sz 1850 (g k)) : NiceL (N * 3) 1 ((List.range N).map fun k => enc (g k)) := by
  have h1 : NiceL (((List.range N).map fun k => enc (g k)).length * 3) 1 ((List.range N).map fun k => enc (g k)) := niceL_of fun d hd => by
    obtain ⟨k, hk, rfl⟩ := List.mem_map.mp hd
    exact nice_enc (h k (List.mem_range.mp hk)) (Nat.le_refl _)
  rwa [List.length_map, List.length_range] at h1
theorem shows_enc {x : Rat} (h : Sz 1850 x) : Dn.shows (enc x) = true := (nice_enc h (Nat.le_refl _)).shows (by decide) (by decide)
theorem shows_range {N : Nat} {g : Nat → Rat} (h : ∀ k, k < N → Sz 1850 (g k)) (hN : N ≤ 2000) : Dn.shows (.tuple ((List.range N).map fun k => enc (g k))) = true := (nice_tuple (nicel_range h)).shows (by decide) (by omega)
theorem shows_two {x y : Rat} (h : Sz 1850 x) (h2 : Sz 1850 y) : Dn.shows (.list [enc x, enc y]) = true := (nice_list (niceL_cons (nice_enc h (Nat.le_refl _)) (niceL_cons (nice_enc h2 (Nat.le_refl _)) niceL_nil))).shows (by decide) (by decide)
theorem oRepr_of {d : PyData} (h : Dn.shows d = true) : oRepr d = some (.dat (.str d.shown)) := by
  unfold oRepr
  rw [if_pos h]
theorem fd0 (ns : List Int) : Fd 0 (feed0 ns) := ⟨Int.le_refl 0, Int.le_refl 0, Int.le_refl 0, Int.le_refl 0⟩
theorem nice_life2 {W s : Nat} {L : Life} (h : LOk W s L) (hW : W ≤ 12800) (hs : s ≤ 4) (hl : L.row.length ≤ 40) : Nice 150 3 (lifeD L) := by
  have k1 : (12800 : Nat) < 2 ^ 1850 := by decide
  have h1 := nicel_encs (xs := L.row) fun x hx => by
    have b := h.row x hx
    exact ab_sz (B := 1) h.W0 b.1 (ab_01 b.2.1 b.2.2) (by decide) (by omega)
  have h2 : Nice 2 1 (enc L.step) := nice_enc (ab_sz (D := s) (B := 1) h.s0 h.step (ab_01 h.st0 (by have := h.st1; grind)) (by decide) (by omega)) (Nat.le_refl 1850)
  exact (nice_tuple ((niceL_cons (nice_tuple (h1.up (Nat.mul_le_mul_right 3 hl) (Nat.le_refl 1))) (niceL_cons (h2.up (Nat.le_refl _) (by decide)) niceL_nil)).up (by decide) (Nat.le_refl _)))
theorem shows_life {W s : Nat} {L : Life} (h : LOk W s L) (hW : W ≤ 12800) (hs : s ≤ 4) (hl : L.row.length ≤ 40) : Dn.shows (lifeD L) = true := (nice_life2 h hW hs hl).shows (by decide) (by decide)
end Fp

/-! mathematics: kinds, as they are drawn -/
namespace Fp
open PySem PySem.Spec L2 Dn
/-- a triple: a stretch, the kind that comes next, a chance -/
structure Tri where
  st : Nat
  nx : Nat
  c : Rat
def triD (t : Tri) : PyData := .tuple [.int t.st, .int t.nx, enc t.c]
def kindD (k : List Tri) : PyData := .tuple (k.map triD)
def kindsD (ks : List (List Tri)) : PyData := .tuple (ks.map kindD)
def TLt (s t : Tri) : Prop := s.st < t.st ∨ (s.st = t.st ∧ s.nx < t.nx)
/-- a kind among n, its chances whole by W -/
structure KdOk (n W : Nat) (k : List Tri) : Prop where
  W0 : 0 < W
  len : k.length ≤ 24
  st : ∀ t ∈ k, 1 ≤ t.st ∧ t.st ≤ 6 ∧ t.nx < n
  c : ∀ t ∈ k, Wh W t.c ∧ 0 < t.c ∧ t.c ≤ 1
  sum : (k.map (·.c)).sum ≤ 1
  rise : k.Pairwise TLt
theorem KdOk.up {n W V : Nat} {k : List Tri} (h : KdOk n W k) (d : W ∣ V) (V0 : 0 < V) : KdOk n V k :=
  ⟨V0, h.len, h.st, fun t ht => ⟨(h.c t ht).1.up d, (h.c t ht).2⟩, h.sum, h.rise⟩
structure KsOk (W : Nat) (ks : List (List Tri)) : Prop where
  n1 : 1 ≤ ks.length
  n4 : ks.length ≤ 4
  W0 : 0 < W
  ok : ∀ k ∈ ks, KdOk ks.length W k
  own : ∀ k ∈ ks, ∃ V, V ≤ 200 ∧ KdOk ks.length V k
/-! marks: weights by pairs -/
abbrev Mk3 := Nat × Nat × Nat
def keyI (x : Mk3) : List Int := [(x.1 : Int), (x.2.1 : Int)]
def markI (x : Mk3) : List Int × PyData := (keyI x, .int (x.2.2 : Nat))
theorem keyI_inj {x y : Mk3} (h : keyI x = keyI y) : x.1 = y.1 ∧ x.2.1 = y.2.1 := by
  unfold keyI at h
  simp only [List.cons.injEq, and_true, Int.natCast_inj] at h
  exact h
theorem map_of {α β : Type} {f : α → β} {P : α → Prop} : ∀ {l : List β}, (∀ p ∈ l, ∃ x, p = f x ∧ P x) → ∃ ws : List α, l = ws.map f ∧ ∀ x ∈ ws, P x
  | [], _ => ⟨[], rfl, fun x h => by cases h⟩
  | p :: r, h => by
    obtain ⟨ws, e, q⟩ := map_of fun y hy => h y (List.mem_cons_of_mem _ hy)
    obtain ⟨x, rfl, px⟩ := h p List.mem_cons_self
    refine ⟨x :: ws, by rw [e]; rfl, fun y hy => ?_⟩
    rcases List.mem_cons.mp hy with rfl | hy
    · exact px
    · exact q y hy
theorem lex2 {a b c d : Int} : HT.lexLt [a, b] [c, d] = if a = c then (if b = d then false else decide (b < d)) else decide (a < c) := by
  rw [HT.lexLt_cons, HT.lexLt_cons]
  rfl
theorem sort_marks (ws : List Mk3) (hn : (ws.map keyI).Nodup) : ∃ vs : List Mk3, vs.Perm ws ∧ sortL (ws.map keyI) = vs.map keyI ∧ vs.Pairwise fun x y => x.1 < y.1 ∨ (x.1 = y.1 ∧ x.2.1 < y.2.1) := by
  have s : (ws.mergeSort fun x y => lexLe (keyI x) (keyI y)).Pairwise fun x y => lexLe (keyI x) (keyI y) = true :=
    List.pairwise_mergeSort (fun a b c => lexLe_trans (keyI a) (keyI b) (keyI c)) (fun a b => lexLe_total (keyI a) (keyI b)) ws
  have p : (ws.mergeSort fun x y => lexLe (keyI x) (keyI y)).Perm ws := List.mergeSort_perm ws _
  generalize (ws.mergeSort fun x y => lexLe (keyI x) (keyI y)) = vs at s p
  have s2 : Srt (vs.map keyI) := List.pairwise_map.mpr (s.imp fun {a b} h => by
    unfold lexLe at h
    simpa using h)
  refine ⟨vs, p, sortL_is s2 (p.map keyI), ?_⟩
  have nd : (vs.map keyI).Nodup := (p.map keyI).nodup_iff.mpr hn
  have nd2 : vs.Pairwise fun x y => keyI x ≠ keyI y := List.pairwise_map.mp nd
  refine ((List.pairwise_map.mp s2).and nd2).imp fun {x y} h => ?_
  obtain ⟨h1, h2⟩ := h
  unfold keyI at h1 h2
  rw [lex2] at h1
  simp only [ne_eq, List.cons.injEq, and_true, Int.natCast_inj] at h2
  split at h1
  · rename_i e
    split at h1
    · exact absurd ⟨by omega, by omega⟩ h2
    · have := of_decide_eq_false h1
      exact .inr ⟨by omega, by omega⟩
  · have := of_decide_eq_false h1
    exact .inl (by omega)
theorem perm_sumK {l m : List Rat} (h : l.Perm m) : l.sum = m.sum := by
  induction h with
  | nil => rfl
  | cons x _ ih => rw [List.sum_cons, List.sum_cons, ih]
  | swap x y l =>
    rw [List.sum_cons, List.sum_cons, List.sum_cons, List.sum_cons]
    grind
  | trans _ _ a b => exact a.trans b
def triM (T : Nat) (x : Mk3) : Tri := ⟨x.1, x.2.1, mkRat (x.2.2 : Nat) T⟩
theorem sum_mk1 {W : Nat} (W0 : 0 < W) (us : List Nat) : (us.map fun (w : Nat) => mkRat (w : Nat) W).sum * (W : Rat) = (us.sum : Nat) := by
  have := sum_mk (B := 1) W0 us
  simpa using this
theorem mk_pos {W i : Nat} (hW : 0 < W) (h : 0 < i) : 0 < mkRat (i : Nat) W := by
  have h1 := (frac01 (W := max W i) (i := i) (by omega) (by omega)).1
  have e : mkRat (i : Nat) W * (W : Rat) = (i : Rat) := mk_mul (i := i) hW
  have hW2 : (0 : Rat) < W := Rat.natCast_pos.mpr hW
  have hi : (0 : Rat) < i := Rat.natCast_pos.mpr h
  apply Rat.not_le.mp
  intro z
  have : mkRat (i : Nat) W * (W : Rat) ≤ 0 * W := Rat.mul_le_mul_of_nonneg_right z (by grind)
  grind
/-- marks, sorted, by their whole -/
theorem marks_kind {n T : Nat} {ws : List Mk3} (hn : (ws.map keyI).Nodup) (hl : ws.length ≤ 24) (hb : ∀ x ∈ ws, 1 ≤ x.1 ∧ x.1 ≤ 6 ∧ x.2.1 < n ∧ 1 ≤ x.2.2) (T0 : 0 < T) (hT : (ws.map (·.2.2)).sum ≤ T) :
    ∃ vs : List Mk3, sortL (ws.map keyI) = vs.map keyI ∧ vs.Perm ws ∧ KdOk n T (vs.map (triM T)) ∧ ((ws.map (·.2.2)).sum = T → ((vs.map (triM T)).map (·.c)).sum = 1) := by
  obtain ⟨vs, p, e, r⟩ := sort_marks ws hn
  have hs : ((vs.map (triM T)).map (·.c)).sum * (T : Rat) = ((ws.map (·.2.2)).sum : Nat) := by
    rw [← sum_mk1 T0, List.map_map, List.map_map]
    congr 1
    exact perm_sumK (p.map _)
  have hT2 : (0 : Rat) < T := Rat.natCast_pos.mpr T0
  have hTn : (T : Rat) ≠ 0 := by grind
  refine ⟨vs, e, p, ⟨T0, by rw [List.length_map, p.length_eq]; exact hl, fun t ht => ?_, fun t ht => ?_, ?_, List.pairwise_map.mpr (r.imp fun {x y} h => h)⟩, fun h => ?_⟩
  · obtain ⟨x, hx, rfl⟩ := List.mem_map.mp ht
    obtain ⟨h1, h2, h3, _⟩ := hb x (p.mem_iff.mp hx)
    exact ⟨h1, h2, h3⟩
  · obtain ⟨x, hx, rfl⟩ := List.mem_map.mp ht
    have hx2 := p.mem_iff.mp hx
    obtain ⟨_, _, _, h4⟩ := hb x hx2
    have h5 : x.2.2 ≤ T := Nat.le_trans (mem_le_sum (List.mem_map.mpr ⟨x, hx2, rfl⟩)) hT
    exact ⟨wh_mk T0, mk_pos T0 (by omega), (frac01 T0 h5).2⟩
  · have h1 : (((ws.map (·.2.2)).sum : Nat) : Rat) ≤ T := Rat.natCast_le_natCast.mpr hT
    apply Rat.not_lt.mp
    intro z
    have := Rat.mul_lt_mul_of_pos_right z hT2
    grind
  · rw [h] at hs
    have : (((vs.map (triM T)).map (·.c)).sum - 1) * (T : Rat) = 0 := by grind
    rcases Rat.mul_eq_zero.mp this with h | h
    · grind
    · exact absurd h hTn
end Fp

/-! mathematics: kinds drawn -/
namespace Fp
open PySem PySem.Spec L2 Dn
theorem following_ok {t : Int} {f : Feed} {way k n : Int} (hF : Fd t f) (ht : t < 2 ^ 39) (k0 : 0 ≤ k) (kn : k < n) (n4 : n ≤ 4) : Ev (F_q_following [.feed, .dat (.int way), .dat (.int k), .dat (.int n)] f) (Drawn t n) := by
  rw [u_q_following, ev_dEnd]
  unfold S_q_following
  have m1 := oMod_int (x := k + 1) (y := n) (by omega)
  have d1 := oDiv_int (x := k) (y := 2) (by decide) (by decide)
  have hk : (k / 2).natAbs < 2 ^ 10 := by omega
  have u1 := oMul_int (x := k / 2) (y := 2) (mulC_small (k := 10) (l := 10) hk (by decide) (by decide))
  simp [m1, d1, u1, ev_ite]
  refine ⟨fun _ => ⟨_, rfl, Int.emod_nonneg _ (by omega), Int.emod_lt_of_pos _ (by omega), hF.up (by omega)⟩, fun _ => ⟨fun _ => ⟨_, rfl, k0, kn, hF.up (by omega)⟩, fun _ => ⟨fun _ => ?_, fun _ => ⟨fun _ => ?_, fun _ => ?_⟩⟩⟩⟩
  · refine Ev.drawn (draw_v3_ok (by decide) (by decide) hF (by omega)) fun a g a0 a1 hF1 => ?_
    simp
    exact ⟨_, rfl, by omega, by omega, hF1⟩
  · refine Ev.mono (draw_v3_ok (s := k + 1) (by omega) (by omega) hF (by omega)) ?_
    rintro _ g ⟨i, rfl, i0, i1, hF1⟩
    exact ⟨_, rfl, i0, by omega, hF1⟩
  · refine Ev.mono (draw_v3_ok (s := n) (by omega) (by omega) hF (by omega)) ?_
    rintro _ g ⟨i, rfl, i0, i1, hF1⟩
    exact ⟨_, rfl, i0, by omega, hF1⟩
/-- marks as they grow -/
structure MOk (n m : Nat) (kvs : List (List Int × PyData)) : Prop where
  nd : (kvs.map (·.1)).Nodup
  len : kvs.length ≤ m
  at' : ∀ p ∈ kvs, ∃ x : Mk3, p = markI x ∧ 1 ≤ x.1 ∧ x.1 ≤ 6 ∧ x.2.1 < n ∧ 1 ≤ x.2.2 ∧ x.2.2 ≤ 9
theorem MOk.put {n m : Nat} {kvs : List (List Int × PyData)} (h : MOk n m kvs) {x : Mk3} (h1 : 1 ≤ x.1) (h2 : x.1 ≤ 6) (h3 : x.2.1 < n) (h4 : 1 ≤ x.2.2) (h5 : x.2.2 ≤ 9) : MOk n (m + 1) (setK kvs (keyI x) (.int (x.2.2 : Nat))) where
  nd := setK_nodup _ _ h.nd
  len := Nat.le_trans (setK_len _ _ _) (Nat.succ_le_succ h.len)
  at' := fun p hp => by
    rcases setK_mem hp with hp | rfl
    · exact h.at' p hp
    · exact ⟨x, rfl, h1, h2, h3, h4, h5⟩
theorem sum_le_len {b : Nat} : ∀ {l : List Nat}, (∀ x ∈ l, x ≤ b) → l.sum ≤ l.length * b
  | [], _ => by simp
  | a :: r, h => by
    have := sum_le_len fun x hx => h x (List.mem_cons_of_mem _ hx)
    have := h a List.mem_cons_self
    rw [List.sum_cons, List.length_cons, Nat.succ_mul]
    omega
/-- the kind that marks tell -/
theorem MOk.kind {n m lack : Nat} {kvs : List (List Int × PyData)} (h : MOk n m kvs) (m4 : m ≤ 4) (hl : lack ≤ 9) (h0 : kvs ≠ [] ∨ 0 < lack) :
    ∃ (T : Nat) (vs : List Mk3), 0 < T ∧ T ≤ 45 ∧ oSum (.list (kvs.map (·.2))) = some (.dat (.int ((T : Int) - lack))) ∧ sortL (kvs.map (·.1)) = vs.map keyI ∧ (∀ x ∈ vs, getK kvs (keyI x) = some (.int (x.2.2 : Nat))) ∧ vs.length ≤ 4 ∧ KdOk n T (vs.map (triM T)) ∧ (lack = 0 → ((vs.map (triM T)).map (·.c)).sum = 1) := by
  obtain ⟨ws, e, hw⟩ := map_of h.at'
  subst e
  have k1 : (ws.map markI).map (·.1) = ws.map keyI := by
    rw [List.map_map]
    rfl
  have k2 : (ws.map markI).map (·.2) = (ws.map (·.2.2)).map fun (w : Nat) => PyData.int w := by
    rw [List.map_map, List.map_map]
    rfl
  have hn := h.nd
  rw [k1] at hn
  have hlen : ws.length ≤ 4 := by
    have := h.len
    rw [List.length_map] at this
    omega
  have hs9 : (ws.map (·.2.2)).sum ≤ 36 := by
    have := sum_le_len (b := 9) (l := ws.map (·.2.2)) fun x hx => by
      obtain ⟨y, hy, rfl⟩ := List.mem_map.mp hx
      exact (hw y hy).2.2.2.2
    rw [List.length_map] at this
    omega
  have T0 : 0 < (ws.map (·.2.2)).sum + lack := by
    rcases h0 with h0 | h0
    · cases ws with
      | nil => exact absurd rfl h0
      | cons a r =>
        have := (hw a List.mem_cons_self).2.2.2.1
        rw [List.map_cons, List.sum_cons]
        omega
    · omega
  obtain ⟨vs, e1, e2, e3, e4⟩ := marks_kind hn (by omega) (fun x hx => ⟨(hw x hx).1, (hw x hx).2.1, (hw x hx).2.2.1, (hw x hx).2.2.2.1⟩) T0 (Nat.le_add_right _ _)
  refine ⟨(ws.map (·.2.2)).sum + lack, vs, T0, by omega, ?_, by rw [k1, e1], fun x hx => ?_, by rw [e2.length_eq]; exact hlen, e3, fun z => e4 (by omega)⟩
  · rw [k2, oSum_nats]
    congr 3
    omega
  · exact getK_of_mem (p := markI x) h.nd (List.mem_map.mpr ⟨x, e2.mem_iff.mp hx, rfl⟩)
theorem setK_ne {kvs : List (List Int × PyData)} {x : List Int} {d : PyData} : setK kvs x d ≠ [] := fun z => by
  have := setK_get kvs x x d
  rw [z, if_pos rfl] at this
  cases this
def fullK (k : List Tri) : Prop := (k.map (·.c)).sum = 1
/-- kinds so far -/
structure SoFar (n i : Nat) (full : Bool) (ks : List (List Tri)) : Prop where
  len : ks.length = i
  W : ∃ W, 0 < W ∧ W ≤ 200 ^ i ∧ ∀ k ∈ ks, KdOk n W k
  full : full = true → ∀ k ∈ ks, fullK k
  own : ∀ k ∈ ks, ∃ V, V ≤ 200 ∧ KdOk n V k
theorem SoFar.nil {n : Nat} {full : Bool} : SoFar n 0 full [] := ⟨rfl, ⟨1, by decide, by decide, fun k h => (by cases h)⟩, fun _ k h => (by cases h), fun k h => (by cases h)⟩
theorem SoFar.snoc {n i T : Nat} {full : Bool} {ks : List (List Tri)} {k : List Tri} (h : SoFar n i full ks) (hk : KdOk n T k) (hT : T ≤ 200) (hf : full = true → fullK k) : SoFar n (i + 1) full (ks ++ [k]) := by
  obtain ⟨W, W0, W1, w⟩ := h.W
  refine ⟨by rw [List.length_append, h.len]; rfl, ⟨W * T, Nat.mul_pos W0 hk.W0, ?_, fun l hl => ?_⟩, fun z l hl => ?_, fun l hl => ?_⟩
  · rw [Nat.pow_succ]
    exact Nat.mul_le_mul W1 hT
  · rcases List.mem_append.mp hl with hl | hl
    · exact (w l hl).up (Nat.dvd_mul_right _ _) (Nat.mul_pos W0 hk.W0)
    · rw [List.mem_singleton] at hl
      subst hl
      exact hk.up (Nat.dvd_mul_left _ _) (Nat.mul_pos W0 hk.W0)
  · rcases List.mem_append.mp hl with hl | hl
    · exact h.full z l hl
    · rw [List.mem_singleton] at hl
      subst hl
      exact hf z
  · rcases List.mem_append.mp hl with hl | hl
    · exact h.own l hl
    · rw [List.mem_singleton] at hl
      subst hl
      exact ⟨T, hT, hk⟩
theorem SoFar.all {n : Nat} {full : Bool} {ks : List (List Tri)} (h : SoFar n n full ks) (n1 : 1 ≤ n) (n4 : n ≤ 4) : ∃ W, W ≤ 2 ^ 31 ∧ KsOk W ks := by
  obtain ⟨W, W0, W1, w⟩ := h.W
  have : 200 ^ n ≤ 200 ^ 4 := Nat.pow_le_pow_right (by decide) n4
  exact ⟨W, by omega, by rw [h.len]; exact n1, by rw [h.len]; exact n4, W0, by rw [h.len]; exact w, by rw [h.len]; exact h.own⟩
theorem kinds_ok {t : Int} {f : Feed} {n : Nat} {full : Bool} (hF : Fd t f) (ht : t < 2 ^ 30) (t0 : 0 ≤ t) (n1 : 1 ≤ n) (n4 : n ≤ 4) : Ev (F_q_kinds [.feed, .dat (.int n), .dat (.bool full)] f) fun rv g => ∃ ks W, rv = .dat (kindsD ks) ∧ KsOk W ks ∧ W ≤ 2 ^ 31 ∧ ks.length = n ∧ (full = true → ∀ k ∈ ks, fullK k) ∧ Fd (t + 70) g := by
  rw [u_q_kinds, ev_dEnd]
  unfold S_q_kinds
  simp
  refine Ev.drawnE (draw_v3_ok (by decide) (by decide) hF (by omega)) fun way f1 way0 way1 hF1 => ?_
  simp [smallI_ok (n := (n : Int)) (by omega) (by omega)]
  refine ev_for (I := fun i ρ g => Fd (t + 1 + 15 * i) g ∧ ∃ ks s5 s6 s7 s8 s9 s10, SoFar n i full ks ∧ ρ = [.feed, .dat (.int n), .dat (.bool full), .dat (.int way), .own (ks.map kindD), s5, s6, s7, s8, s9, s10]) ⟨by simpa using hF1, [], _, _, _, _, _, _, SoFar.nil, rfl⟩ ?_ ?_
  · rintro k d ρ g hd ⟨hG, ks, s5, s6, s7, s8, s9, s10, hs, rfl⟩
    obtain ⟨rfl, hk⟩ := range_at hd
    refine ⟨_, rfl, ?_⟩
    simp
    refine Ev.drawn (draw_v3_ok (by decide) (by decide) hG (by omega)) fun c g1 c0 c5 hG1 => ?_
    obtain ⟨l0, hl0, el0⟩ : ∃ l : Nat, l ≤ 9 ∧ atI [PyData.int 0, PyData.int 0, PyData.int 1, PyData.int 5, PyData.int 9] c = some (.int l) := by
      obtain rfl | rfl | rfl | rfl | rfl : c = 0 ∨ c = 1 ∨ c = 2 ∨ c = 3 ∨ c = 4 := by omega
      · exact ⟨0, by decide, rfl⟩
      · exact ⟨0, by decide, rfl⟩
      · exact ⟨1, by decide, rfl⟩
      · exact ⟨5, by decide, rfl⟩
      · exact ⟨9, by decide, rfl⟩
    obtain ⟨lack, hl, elack, lf⟩ : ∃ lack : Nat, lack ≤ 9 ∧ oMul (.int l0) (.int (if full = false then 1 else 0)) = some (.dat (.int lack)) ∧ (full = true → lack = 0) := by
      cases full with
      | true => exact ⟨0, by decide, by rw [oMul_int (mulC_small (k := 10) (l := 10) (by omega) (by decide) (by decide))]; simp, fun _ => rfl⟩
      | false => exact ⟨l0, hl0, by rw [oMul_int (mulC_small (k := 10) (l := 10) (by omega) (by decide) (by decide))]; simp, fun z => by cases z⟩
    simp [el0, elack]
    refine Ev.drawn (draw_v3_ok (by decide) (by decide) hG1 (by omega)) fun m g2 m0 m4 hG2 => ?_
    simp [smallI_ok (n := 1 + m) (by omega) (by omega)]
    refine ev_for (I := fun i ρ g => Fd (t + 1 + 15 * k + 2 + 3 * i) g ∧ ∃ kvs s8 s9, MOk n i kvs ∧ (0 < i → kvs ≠ []) ∧ ρ = [.feed, .dat (.int n), .dat (.bool full), .dat (.int way), .own (ks.map kindD), .dat (.int k), .dct (.T kvs), .dat (.int lack), s8, s9, s10]) ⟨hG2.up (by omega), [], _, _, ⟨List.Pairwise.nil, Nat.le_refl 0, fun p hp => by cases hp⟩, fun z => by omega, rfl⟩ ?_ ?_
    · rintro i d ρ g hd ⟨hH, kvs, s8, s9, hm, hne, rfl⟩
      obtain ⟨rfl, hi⟩ := range_at hd
      refine ⟨_, rfl, ?_⟩
      simp
      refine Ev.drawn (draw_v3_ok (by decide) (by decide) hH (by omega)) fun a g3 a0 a6 hH3 => ?_
      simp
      refine Ev.drawnD (following_ok hH3 (by omega) (by omega) (by omega) (by omega)) fun b g4 b0 bn hH4 => ?_
      simp
      refine Ev.drawn (draw_v3_ok (by decide) (by decide) hH4 (by omega)) fun w g5 w0 w9 hH5 => ?_
      have hp := hm.put (x := ((1 + a).toNat, b.toNat, (1 + w).toNat)) (by dsimp only; omega) (by dsimp only; omega) (by dsimp only; omega) (by dsimp only; omega) (by dsimp only; omega)
      have e1 : keyI ((1 + a).toNat, b.toNat, (1 + w).toNat) = [1 + a, b] := by
        unfold keyI
        simp
        omega
      have e2 : (((1 + w).toNat : Nat) : Int) = 1 + w := by omega
      have hlen := hm.len
      rw [e1] at hp
      dsimp only at hp
      rw [e2] at hp
      simp [show kvs.length < 100000 by omega]
      exact ⟨hH5.up (by omega), hp, fun z => setK_ne z⟩
    · rintro ρ g ⟨hH, kvs, s8, s9, hm, hne, rfl⟩
      rw [range_len] at hm hH hne
      rw [e_then_nx]
      refine ev_step (fun ρ2 g2 => Fd (t + 1 + 15 * (k + 1)) g2 ∧ ∃ kvs s8 s9, MOk n 4 kvs ∧ (kvs ≠ [] ∨ 0 < lack) ∧ ρ2 = [.feed, .dat (.int n), .dat (.bool full), .dat (.int way), .own (ks.map kindD), .dat (.int k), .dct (.T kvs), .dat (.int lack), s8, s9, s10]) ?_ ?_
      · have hm4 : MOk n 4 kvs := ⟨hm.nd, Nat.le_trans hm.len (by omega), hm.at'⟩
        have hne := hne (by omega)
        have h0 : MOk n 4 [] := ⟨List.Pairwise.nil, Nat.zero_le _, fun p hp => by cases hp⟩
        by_cases h9 : lack = 9
        · subst h9
          simp
          refine Ev.drawn (draw_v3_ok (by decide) (by decide) hH (by omega)) fun c g1 c0 c3 hH1 => ?_
          simp
          by_cases c9 : c = 0
          · simp [c9]
            exact ⟨hH1.up (by omega), h0⟩
          · simp [c9]
            exact ⟨hH1.up (by omega), hm4⟩
        · simp [show ¬ (lack : Int) = 9 by omega]
          exact ⟨hH.up (by omega), hm4, .inl hne⟩
      · rintro ρ g ⟨hH, kvs, s8, s9, hm, h0, rfl⟩
        obtain ⟨T, vs, T0, T45, e1, e2, e3, e4, e5, e6⟩ := hm.kind (Nat.le_refl 4) hl h0
        have k0 : ∀ x : Mk3, (keyI x)[0]? = some (x.1 : Int) := fun _ => rfl
        have k1 : ∀ x : Mk3, (keyI x)[1]? = some (x.2.1 : Int) := fun _ => rfl
        have lc : ∀ s8 : Slot, lcN (.one 9) cYes (cTup [cBin oIx (cVar 9) (cC (.int 0)), cBin oIx (cVar 9) (cC (.int 1)), cCall F_q_lowest [cDGet 6 (cVar 9), cVar 10]]) [.feed, .dat (.int n), .dat (.bool full), .dat (.int way), .own (ks.map kindD), .dat (.int k), .dct (.T kvs), .dat (.int lack), s8, .emp, .dat (.int T)] ((vs.map keyI).map tupI) [] g = .ok (vs.map fun x => triD (triM T x)) g := fun s8 => by
          rw [List.map_map]
          refine lc_map (by omega) fun x hx => ⟨_, rfl, ?_⟩
          simp [e3 x hx, k0, k1, lowest_ok T0 (show T < 2 ^ 2000 by omega), low_eq T0]
          rfl
        have e7 : (vs.map fun x => triD (triM T x)) = (vs.map (triM T)).map triD := by rw [List.map_map]; rfl
        have e8 : ks.map kindD ++ [.tuple ((vs.map (triM T)).map triD)] = (ks ++ [vs.map (triM T)]).map kindD := by rw [List.map_append]; rfl
        have hlen := hm.len
        have hkl := hs.len
        simp only [e_seq, e_set, e_Bin, e_Un, e_dvals]
        simp [e1, show kvs.length ≤ 100000 by omega, e2]
        rw [← List.map_map, lc]
        simp [show ks.length < 100000 by omega, e7, e8]
        exact ⟨hH, _, hs.snoc e5 (by omega) fun z => e6 (lf z), by simp [kindD]⟩
  · rintro ρ g ⟨hG, ks, s5, s6, s7, s8, s9, s10, hs, rfl⟩
    simp
    rw [range_len] at hs hG
    obtain ⟨W, hW, hk⟩ := hs.all n1 n4
    exact ⟨ks, rfl, W, hk, hW, hs.len, hs.full, hG.up (by omega)⟩
/-- marks by places: all triples of a row of weights -/
def wideM (n : Nat) (ws : List Nat) (j : Nat) : Mk3 := (1 + j / n, j % n, ws.getD j 0)
def wideK (n T : Nat) (ws : List Nat) : List Tri := ((List.range ws.length).filter fun j => decide (0 < ws.getD j 0)).map fun j => triM T (wideM n ws j)
theorem wide_kind {n T : Nat} {ws : List Nat} (n1 : 1 ≤ n) (n4 : n ≤ 4) (hl : ws.length = 6 * n) (T0 : 0 < T) (hs : ws.sum ≤ T) : KdOk n T (wideK n T ws) := by
  have hj : ∀ j, j < 6 * n → 1 ≤ 1 + j / n ∧ 1 + j / n ≤ 6 ∧ j % n < n := fun j h => by
    have : j / n < 6 := Nat.div_lt_of_lt_mul (by rw [Nat.mul_comm]; exact h)
    exact ⟨Nat.le_add_right _ _, by omega, Nat.mod_lt _ n1⟩
  have hm : ∀ t ∈ wideK n T ws, ∃ j, j < 6 * n ∧ 0 < ws.getD j 0 ∧ t = triM T (wideM n ws j) := fun t ht => by
    obtain ⟨j, hj, rfl⟩ := List.mem_map.mp ht
    obtain ⟨h1, h2⟩ := List.mem_filter.mp hj
    rw [List.mem_range, hl] at h1
    exact ⟨j, h1, of_decide_eq_true h2, rfl⟩
  have hw : ∀ j, ws.getD j 0 ≤ T := fun j => by
    by_cases h : j < ws.length
    · rw [List.getD_eq_getElem?_getD, List.getElem?_eq_getElem h]
      exact Nat.le_trans (mem_le_sum (List.getElem_mem h)) hs
    · rw [List.getD_eq_getElem?_getD, List.getElem?_eq_none (by omega)]
      exact Nat.zero_le _
  refine ⟨T0, ?_, fun t ht => ?_, fun t ht => ?_, ?_, ?_⟩
  · have := List.length_filter_le (fun j => decide (0 < ws.getD j 0)) (List.range ws.length)
    rw [List.length_range] at this
    unfold wideK
    rw [List.length_map]
    omega
  · obtain ⟨j, h1, h2, rfl⟩ := hm t ht
    exact hj j h1
  · obtain ⟨j, h1, h2, rfl⟩ := hm t ht
    exact ⟨wh_mk T0, mk_pos T0 h2, (frac01 T0 (hw j)).2⟩
  · have e : ((wideK n T ws).map (·.c)).sum = (((List.range ws.length).map fun j => mkRat (ws.getD j 0 : Nat) T)).sum := by
      unfold wideK
      rw [List.map_map]
      generalize List.range ws.length = r
      induction r with
      | nil => rfl
      | cons j r ih =>
        by_cases h : 0 < ws.getD j 0
        · rw [List.filter_cons_of_pos (by simpa using h), List.map_cons, List.map_cons, List.sum_cons, List.sum_cons, ih]
          rfl
        · rw [List.filter_cons_of_neg (by simpa using h), List.map_cons, List.sum_cons, ih, show ws.getD j 0 = 0 by omega]
          have : mkRat ((0 : Nat) : Int) T = 0 := by simp
          rw [this, Rat.zero_add]
    have e2 : ((List.range ws.length).map fun j => mkRat (ws.getD j 0 : Nat) T) = ws.map fun (w : Nat) => mkRat (w : Nat) T := by
      apply List.ext_getElem?
      intro i
      rw [List.getElem?_map, List.getElem?_map]
      by_cases h : i < ws.length
      · rw [List.getElem?_eq_getElem (by simpa using h), List.getElem?_eq_getElem h, List.getElem_range]
        simp [List.getD_eq_getElem?_getD, h]
      · rw [List.getElem?_eq_none (by simpa using h), List.getElem?_eq_none (by omega)]
        rfl
    rw [e, e2]
    have h1 := sum_mk1 T0 ws
    have hT2 : (0 : Rat) < T := Rat.natCast_pos.mpr T0
    have h3 : ((ws.sum : Nat) : Rat) ≤ T := Rat.natCast_le_natCast.mpr hs
    apply Rat.not_lt.mp
    intro z
    have := Rat.mul_lt_mul_of_pos_right z hT2
    grind
  · unfold wideK
    refine List.pairwise_map.mpr ((List.Pairwise.sublist (List.filter_sublist) List.pairwise_lt_range).imp fun {a b} h => ?_)
    show 1 + a / n < 1 + b / n ∨ (1 + a / n = 1 + b / n ∧ a % n < b % n)
    have ha := Nat.div_add_mod a n
    have hb := Nat.div_add_mod b n
    have hle : a / n ≤ b / n := Nat.div_le_div_right (Nat.le_of_lt h)
    rcases Nat.lt_or_eq_of_le hle with h2 | h2
    · exact .inl (by omega)
    · rw [h2] at ha
      exact .inr ⟨by omega, by omega⟩
theorem wide_ok {t : Int} {f : Feed} (hF : Fd t f) (ht : t < 2 ^ 30) (t0 : 0 ≤ t) : Ev (F_q_wide_kinds [.feed] f) fun rv g => ∃ ks W, rv = .dat (kindsD ks) ∧ KsOk W ks ∧ W ≤ 2 ^ 31 ∧ Fd (t + 110) g := by
  rw [u_q_wide_kinds, ev_dEnd]
  unfold S_q_wide_kinds
  simp
  refine Ev.drawn (draw_v3_ok (by decide) (by decide) hF (by omega)) fun n f1 n0 n3 hF1 => ?_
  obtain ⟨m, hm⟩ : ∃ m : Nat, 2 + n = m := ⟨(2 + n).toNat, by omega⟩
  simp [hm, smallI_ok (n := (m : Int)) (by omega) (by omega)]
  refine ev_for (I := fun i ρ g => Fd (t + 1 + 25 * i) g ∧ ∃ ks s3 s4 s5 s6 s7, SoFar m i false ks ∧ ρ = [.feed, .dat (.int m), .own (ks.map kindD), s3, s4, s5, s6, s7]) ⟨by simpa using hF1, [], _, _, _, _, _, SoFar.nil, rfl⟩ ?_ ?_
  · rintro k d ρ g hd ⟨hG, ks, s3, s4, s5, s6, s7, hs, rfl⟩
    obtain ⟨rfl, hk⟩ := range_at hd
    refine ⟨_, rfl, ?_⟩
    have e6 : oMul (.int 6) (.int m) = some (.dat (.int ((6 * m : Nat) : Int))) := oMul_nat (a := 6) (by decide) (by omega)
    have s6m : smallI (6 * (m : Int)) = true := smallI_ok (by omega) (by omega)
    have t6m : (6 * (m : Int)).toNat = 6 * m := by omega
    simp [e6, s6m, t6m]
    refine ev_lc (I := fun i acc g => ∃ ns : List Nat, acc = ns.map (fun (n : Nat) => .int n) ∧ ns.length = i ∧ (∀ w ∈ ns, w ≤ 8) ∧ Fd (t + 1 + 25 * k + i) g) (by rw [range_len]; omega) ?_ ?_ ⟨[], rfl, rfl, fun w hw => (by simp at hw), by simpa using hG⟩
    · rintro i d acc g hd ⟨ns, rfl, hl, hw, hG⟩
      obtain ⟨rfl, hi⟩ := range_at hd
      refine ⟨_, rfl, ?_⟩
      simp
      refine Ev.drawnE (draw_v3_ok (by decide) (by decide) hG (by omega)) fun a g1 a0 a9 hG1 => ?_
      refine ⟨_, rfl, ns ++ [a.toNat], ?_, by simp [hl], ?_, hG1.up (by omega)⟩
      · simp
        omega
      · intro w h
        rcases List.mem_append.mp h with h | h
        · exact hw w h
        · rw [List.mem_singleton] at h
          omega
    · rintro acc g ⟨ns, rfl, hl, hw, hG⟩
      rw [range_len] at hl hG
      have hs8 : ns.sum ≤ 192 := by
        have := sum_le_len hw
        omega
      simp
      refine Ev.drawn (draw_v3_ok (by decide) (by decide) hG (by omega)) fun b g1 b0 b2 hG1 => ?_
      obtain ⟨T, hT⟩ : ∃ T : Nat, max 1 ((ns.sum : Int) + b) = T := ⟨(max 1 ((ns.sum : Int) + b)).toNat, by omega⟩
      have T0 : 0 < T := by omega
      have hk := wide_kind (n := m) (T := T) (ws := ns) (by omega) (by omega) hl T0 (by omega)
      simp [hT, e6, s6m, t6m]
      have at4 : ∀ i, i < 6 * m → atI (ns.map fun (n : Nat) => PyData.int n) (i : Int) = some (.int (ns.getD i 0 : Nat)) := fun i hi => by
        rw [Dn.atI_nat, List.getElem?_map, List.getD_eq_getElem?_getD, List.getElem?_eq_getElem (by omega)]
        rfl
      have lc1 : ∀ s6 : Slot, lcN (.one 7) (cT (cBin oGt (cBin oIx (cVar 4) (cVar 7)) (cC (.int 0)))) (cVar 7) [.feed, .dat (.int m), .own (ks.map kindD), .dat (.int k), .dat (.list (ns.map fun (n : Nat) => .int n)), .dat (.int T), s6, .emp] (rangeD 0 (6 * m)) [] g1 = .ok (((List.range (6 * m)).filter fun j => decide (0 < ns.getD j 0)).map fun (j : Nat) => .int j) g1 := fun s6 => by
        rw [range0]
        refine lc_pure (by rw [List.length_range]; omega) fun j hj => ⟨_, rfl, ?_, fun _ => ?_⟩
        · have := at4 j (List.mem_range.mp hj)
          generalize ns.getD j 0 = w at *
          simp [-Dn.atI_nat, this]
        · simp
      have lc2 : ∀ s6 : Slot, lcN (.one 7) cYes (cTup [cBin oAdd (cC (.int 1)) (cBin oDiv (cVar 7) (cVar 1)), cBin oMod (cVar 7) (cVar 1), cCall F_q_lowest [cBin oIx (cVar 4) (cVar 7), cVar 5]]) [.feed, .dat (.int m), .own (ks.map kindD), .dat (.int k), .dat (.list (ns.map fun (n : Nat) => .int n)), .dat (.int T), s6, .emp] (((List.range (6 * m)).filter fun j => decide (0 < ns.getD j 0)).map fun (j : Nat) => .int j) [] g1 = .ok ((((List.range (6 * m)).filter fun j => decide (0 < ns.getD j 0))).map fun j => triD (triM T (wideM m ns j))) g1 := fun s6 => by
        refine lc_map ?_ fun j hj => ⟨_, rfl, ?_⟩
        · have := List.length_filter_le (fun j => decide (0 < ns.getD j 0)) (List.range (6 * m))
          rw [List.length_range] at this
          omega
        · have := at4 j (List.mem_range.mp (List.mem_filter.mp hj).1)
          have e1 := oDiv_int (x := (j : Int)) (y := (m : Int)) (by omega) (by
            have := log2_small (i := (m : Int)) (k := 10) (by omega) (by decide)
            omega)
          have e2 := oMod_int (x := (j : Int)) (y := (m : Int)) (by omega)
          have e3 : triD (triM T (wideM m ns j)) = .tuple [.int (1 + (j : Int) / m), .int ((j : Int) % m), enc (mkRat (ns.getD j 0 : Nat) T)] := rfl
          rw [e3]
          generalize ns.getD j 0 = w at *
          simp [-Dn.atI_nat, this, e1, e2, lowest_ok T0 (show T < 2 ^ 2000 by omega), low_eq T0]
      have e7 : ((((List.range (6 * m)).filter fun j => decide (0 < ns.getD j 0))).map fun j => triD (triM T (wideM m ns j))) = (wideK m T ns).map triD := by
        unfold wideK
        rw [List.map_map, hl]
        rfl
      have hkl := hs.len
      rw [lc1]
      simp only [ev_ok]
      rw [lc2, e7]
      simp [show ks.length < 100000 by omega]
      exact ⟨hG1.up (by omega), _, hs.snoc hk (by omega) (fun z => by cases z), by simp [kindD]⟩
  · rintro ρ g ⟨hG, ks, s3, s4, s5, s6, s7, hs, rfl⟩
    simp
    rw [range_len] at hs hG
    obtain ⟨W, hW, hk⟩ := hs.all (by omega) (by omega)
    exact ⟨ks, rfl, W, hk, hW, hG.up (by omega)⟩
end Fp

/-! mathematics: what is behind; lasting; miss -/
namespace Fp
open PySem PySem.Spec L2 Dn
/-- all chances behind k -/
def rest (L : Life) (k : Nat) : Rat := tot L - rs k fun i => ch L (i + 1)
/-- it lasts more than k -/
def lasts (L : Life) (k : Nat) : Rat := 1 - rs k fun i => ch L (i + 1)
def miss (L : Life) : Rat := 1 - tot L
theorem lasts_rest (L : Life) (k : Nat) : lasts L k = miss L + rest L k := by
  unfold lasts miss rest
  grind
theorem rest_succ (L : Life) (k : Nat) : rest L k = ch L (k + 1) + rest L (k + 1) := by
  unfold rest
  rw [rs_succ]
  grind
theorem rest_0 (L : Life) : rest L 0 = tot L := by
  unfold rest
  rw [rs_zero]
  grind
/-- as it is reckoned -/
def restR (L : Life) (k : Nat) : Rat := (L.row.drop k).sum + lastR L * L.step ^ (1 + (k - L.row.length)) / (1 - L.step)
theorem restR_succ {L : Life} (h1 : L.step < 1) (k : Nat) : restR L k = ch L (k + 1) + restR L (k + 1) := by
  have hn : 1 - L.step ≠ 0 := by grind
  unfold restR ch
  by_cases h : k + 1 ≤ L.row.length
  · have hk : k < L.row.length := by omega
    rw [if_pos h, List.drop_eq_getElem_cons hk, List.sum_cons, show 1 + (k - L.row.length) = 1 by omega, show 1 + (k + 1 - L.row.length) = 1 by omega, Nat.add_sub_cancel, List.getD_eq_getElem?_getD, List.getElem?_eq_getElem hk]
    simp only [Option.getD_some]
    grind
  · rw [if_neg h, List.drop_eq_nil_of_le (by omega), List.drop_eq_nil_of_le (by omega), List.sum_nil, show 1 + (k - L.row.length) = k + 1 - L.row.length by omega, show 1 + (k + 1 - L.row.length) = (k + 1 - L.row.length) + 1 by omega, Rat.pow_succ]
    have hp : 0 < k + 1 - L.row.length := by omega
    by_cases z : L.step = 0
    · rw [if_pos z, z]
      obtain ⟨j, e⟩ : ∃ j, k + 1 - L.row.length = j + 1 := ⟨k - L.row.length, by omega⟩
      rw [e, Rat.pow_succ]
      grind
    · rw [if_neg z]
      grind
theorem restR_eq {L : Life} (h1 : L.step < 1) : ∀ k, restR L k = rest L k := by
  intro k
  induction k with
  | zero =>
    rw [rest_0]
    unfold restR tot
    rw [List.drop_zero, Nat.zero_sub, Nat.add_zero, Rat.pow_one]
  | succ k ih =>
    have a := restR_succ h1 k
    have b := rest_succ L k
    grind
theorem sum_nonneg : ∀ {xs : List Rat}, (∀ x ∈ xs, 0 ≤ x) → 0 ≤ xs.sum
  | [], _ => by
    rw [List.sum_nil]
    decide
  | x :: xs, h => by
    have a := h x List.mem_cons_self
    have b := sum_nonneg fun y hy => h y (List.mem_cons_of_mem _ hy)
    rw [List.sum_cons]
    grind
theorem rs_nonneg {n : Nat} {g : Nat → Rat} (h : ∀ k, k < n → 0 ≤ g k) : 0 ≤ rs n g := by
  refine sum_nonneg fun x hx => ?_
  obtain ⟨k, hk, rfl⟩ := List.mem_map.mp hx
  exact h k (List.mem_range.mp hk)
theorem inv_wh {s : Nat} {x : Rat} (hw : Wh s x) (s0 : 0 < s) (hs : s ≤ 4) (h0 : 0 ≤ x) (h1 : x < 1) : Wh 12 (1 / (1 - x)) := by
  obtain ⟨i, hi⟩ := hw
  have sp : (0 : Rat) < (s : Rat) := Rat.natCast_pos.mpr s0
  have i0 : 0 ≤ i := by
    have : (0 : Rat) ≤ (i : Rat) := by
      rw [← hi]
      exact Rat.mul_nonneg h0 (by grind)
    exact Rat.intCast_le_intCast.mp (show ((0 : Int) : Rat) ≤ (i : Rat) from this)
  have i1 : i < s := by
    have : (i : Rat) < (s : Rat) := by
      rw [← hi]
      have := Rat.mul_lt_mul_of_pos_right h1 sp
      grind
    rw [← Rat.intCast_natCast] at this
    exact Rat.intCast_lt_intCast.mp this
  obtain ⟨j, rfl⟩ := Int.eq_ofNat_of_zero_le i0
  have hj : j < s := by omega
  have e : x = mkRat (j : Nat) s := by
    rw [Rat.mkRat_eq_div]
    have := cast_ne s0
    grind
  subst e
  have z : ∀ (q : Rat) (c : Nat), q * (1 - mkRat ((j : Nat) : Int) s) = 1 → q * 12 = (c : Rat) → Wh 12 (1 / (1 - mkRat ((j : Nat) : Int) s)) := fun q c h1 h2 => ⟨c, by
    have n : (1 - mkRat ((j : Nat) : Int) s) ≠ 0 := by
      intro y
      rw [y] at h1
      grind
    have e : 1 / (1 - mkRat ((j : Nat) : Int) s) = q := by grind
    rw [e]
    exact h2⟩
  have : s = 1 ∨ s = 2 ∨ s = 3 ∨ s = 4 := by omega
  have hj4 : j = 0 ∨ j = 1 ∨ j = 2 ∨ j = 3 := by omega
  rcases this with rfl | rfl | rfl | rfl <;> rcases hj4 with rfl | rfl | rfl | rfl <;> first
    | omega
    | exact z 1 12 (by decide +kernel) (by decide +kernel)
    | exact z 2 24 (by decide +kernel) (by decide +kernel)
    | exact z 3 36 (by decide +kernel) (by decide +kernel)
    | exact z 4 48 (by decide +kernel) (by decide +kernel)
    | exact z (mkRat 3 2) 18 (by decide +kernel) (by decide +kernel)
    | exact z (mkRat 4 3) 16 (by decide +kernel) (by decide +kernel)
/-- the bottom of all to m -/
abbrev kk (W s m : Nat) : Nat := 12 * (W * s ^ m)
section
variable {W s m k : Nat} {L : Life} {f : Feed}
theorem LOk.k0 (h : LOk W s L) : 0 < kk W s m := Nat.mul_pos (by decide) (Nat.mul_pos h.W0 (Nat.pow_pos h.s0))
theorem kk_le (hW : W ≤ 12800) (hs : s ≤ 4) : kk W s m ≤ 2 ^ (18 + 2 * m) := by
  have h1 : s ^ m ≤ 4 ^ m := Nat.pow_le_pow_left hs m
  have h2 : (4 : Nat) ^ m = 2 ^ (2 * m) := by rw [Nat.pow_mul]
  rw [h2] at h1
  have h3 := Nat.mul_le_mul_left 12 (Nat.mul_le_mul hW h1)
  rw [Nat.pow_add]
  have : 12 * (12800 * 2 ^ (2 * m)) ≤ 2 ^ 18 * 2 ^ (2 * m) := by
    rw [← Nat.mul_assoc]
    exact Nat.mul_le_mul_right _ (by decide)
  show 12 * (W * s ^ m) ≤ _
  omega
theorem LOk.st1' (h : LOk W s L) : L.step ≤ 1 := by
  have := h.st1
  grind
theorem LOk.gch (h : LOk W s L) (hk : k ≤ m) : G (kk W s m) 1 0 (Fp.ch L k) := by
  have c := h.ch hk
  exact G.of c.1 (Nat.dvd_mul_left _ _) c.2.1 c.2.2
theorem LOk.ch0 (h : LOk W s L) : 0 ≤ Fp.ch L k := (h.ch (Nat.le_refl k)).2.1
theorem lastR_01 (h : LOk W s L) : 0 ≤ lastR L ∧ lastR L ≤ 1 ∧ Wh W (lastR L) := by
  by_cases z : L.row = []
  · unfold lastR
    rw [z]
    exact ⟨by decide, by decide, wh_0⟩
  · have := h.row _ (lastR_mem z)
    exact ⟨this.2.1, this.2.2, this.1⟩
theorem rest_wh (h : LOk W s L) (hs : s ≤ 4) (hk : k + 1 ≤ m) : Wh (kk W s m) (rest L k) := by
  rw [← restR_eq h.st1]
  unfold restR
  refine Wh.add ?_ ?_
  · refine (sum_wh (D := W) fun x hx => (h.row x (List.mem_of_mem_drop hx)).1).up ?_
    exact Nat.dvd_trans (Nat.dvd_mul_right _ _) (Nat.dvd_mul_left _ _)
  · have a := ((lastR_01 h).2.2.mul (wh_pow h.step (1 + (k - L.row.length)))).mul (inv_wh h.step h.s0 hs h.st0 h.st1)
    have e : lastR L * L.step ^ (1 + (k - L.row.length)) / (1 - L.step) = lastR L * L.step ^ (1 + (k - L.row.length)) * (1 / (1 - L.step)) := by
      have hn : 1 - L.step ≠ 0 := by have := h.st1; grind
      grind
    rw [e]
    refine a.up ?_
    rw [Nat.mul_comm]
    exact Nat.mul_dvd_mul_left _ (Nat.mul_dvd_mul_left _ (Nat.pow_dvd_pow _ (by omega)))
theorem rest_01 (h : LOk W s L) : 0 ≤ rest L k ∧ rest L k ≤ 1 := by
  refine ⟨?_, ?_⟩
  · rw [← restR_eq h.st1]
    unfold restR
    have a := sum_nonneg (xs := L.row.drop k) fun x hx => (h.row x (List.mem_of_mem_drop hx)).2.1
    have b := Rat.mul_nonneg (lastR_01 h).1 (pow_01 h.st0 h.st1' (1 + (k - L.row.length))).1
    have hn : 0 < 1 - L.step := by have := h.st1; grind
    have c : 0 ≤ lastR L * L.step ^ (1 + (k - L.row.length)) / (1 - L.step) := by
      rw [Rat.div_def]
      exact Rat.mul_nonneg b (Rat.le_of_lt (Rat.inv_pos.mpr hn))
    grind
  · unfold rest
    have a := rs_nonneg (n := k) (g := fun i => Fp.ch L (i + 1)) fun i _ => h.ch0
    have := h.tot1
    grind
theorem grest (h : LOk W s L) (hs : s ≤ 4) (hk : k + 1 ≤ m) : G (kk W s m) 1 0 (rest L k) := by
  refine ⟨by rw [Nat.pow_one]; exact rest_wh h hs hk, by rw [Nat.pow_zero]; exact ab_01 (rest_01 h).1 (rest_01 h).2⟩
theorem gtot (h : LOk W s L) (hs : s ≤ 4) (hm : 1 ≤ m) : G (kk W s m) 1 0 (tot L) := by
  rw [← rest_0]
  exact grest h hs (by omega)
theorem miss_01 (h : LOk W s L) : 0 ≤ miss L ∧ miss L ≤ 1 := by
  have a := rest_01 (k := 0) h
  rw [rest_0] at a
  unfold miss
  exact ⟨by grind, by grind⟩
theorem gmiss (h : LOk W s L) (hs : s ≤ 4) (hm : 1 ≤ m) : G (kk W s m) 1 0 (miss L) := by
  refine ⟨?_, by rw [Nat.pow_zero]; exact ab_01 (miss_01 h).1 (miss_01 h).2⟩
  exact wh_1.sub (gtot h hs hm).w
theorem lasts_01 (h : LOk W s L) : 0 ≤ lasts L k ∧ lasts L k ≤ 1 := by
  have a := rest_01 (k := k) h
  have b := miss_01 h
  refine ⟨by rw [lasts_rest]; grind, ?_⟩
  unfold lasts
  have a := rs_nonneg (n := k) (g := fun i => Fp.ch L (i + 1)) fun i _ => h.ch0
  grind
theorem glasts (h : LOk W s L) (hk : k ≤ m) : G (kk W s m) 1 0 (lasts L k) := by
  refine ⟨?_, by rw [Nat.pow_zero]; exact ab_01 (lasts_01 h).1 (lasts_01 h).2⟩
  exact wh_1.sub (rs_wh fun i hi => (h.gch (by omega)).w)
/-! the functions -/
theorem lasting_q (h : LOk W s L) (hW : W ≤ 12800) (hs : s ≤ 4) (hk : k ≤ 40) : F_lasting [.dat (lifeD L), .dat (.int k)] f = .ok (.dat (enc (lasts L k))) f := by
  have K := kk_le (m := 40) hW hs
  have big : (12800 * 4 ^ 40 : Nat) < 2 ^ 4000 := by decide
  have sm : W * s ^ 40 ≤ 12800 * 4 ^ 40 := Nat.mul_le_mul hW (Nat.pow_le_pow_left hs _)
  have c := chances_to_q (f := f) (n := k) (m := 40) h hk (by omega) (Nat.lt_of_le_of_lt hs (by decide)) (by decide)
  have q := summed_r (n := 1) (e := 0) (f := f) (N := k) (g := fun i => ch L (i + 1)) (fun i hi => h.gch (m := 40) (by omega)) h.k0 K (by omega) (by decide)
  have g : G (kk W s 40) 1 6 (rs k fun i => ch L (i + 1)) := (G.rs (l := 6) (fun i hi => h.gch (m := 40) (by omega)) (by omega))
  have r := minus_q (f := f) sz_1 (g.sz h.k0 K (by decide))
  rw [enc1] at r
  apply ev_is
  rw [u_lasting, ev_dEnd]
  unfold S_lasting
  simp [c, q, r]
  rfl
theorem chances_added_q (h : LOk W s L) (hW : W ≤ 12800) (hs : s ≤ 4) (hl : L.row.length ≤ 63) : F_chances_added [.dat (lifeD L)] f = .ok (.dat (enc (tot L))) f := by
  have K := kk_le (m := 2) hW hs
  have dv : W ∣ kk W s 2 := Nat.dvd_trans (Nat.dvd_mul_right _ _) (Nat.dvd_mul_left _ _)
  have gr : ∀ x ∈ L.row, G (kk W s 2) 1 0 x := fun x hx => G.of (h.row x hx).1 dv (h.row x hx).2.1 (h.row x hx).2.2
  have q := summed_gd (d0 := .tuple (L.row.map enc)) (f := f) rfl gr h.k0 K hl (by decide)
  have gs : G (kk W s 2) 1 0 L.step := G.of h.step (Nat.dvd_trans (Nat.dvd_trans (Nat.dvd_mul_right s s) (by rw [Nat.pow_two]; exact Nat.dvd_mul_left _ W)) (Nat.dvd_mul_left _ _)) h.st0 h.st1'
  apply ev_is
  rw [u_chances_added, ev_dEnd]
  unfold S_chances_added lifeD
  simp [eq_enc0, ev_ite, q]
  refine ⟨fun z => ?_, fun z => ?_⟩
  · unfold tot
    rw [z]
    congr 1
    grind
  · have hr : L.row ≠ [] := fun y => z (h.emp y)
    have al : atI (L.row.map enc) (-1) = some (enc (lastR L)) := atI_last (x := 0) hr
    have gl := gr _ (lastR_mem hr)
    have t1 := times_q (f := f) (gl.sz h.k0 K (by decide)) (gs.sz h.k0 K (by decide)) (Nat.le_refl _)
    have t2 := minus_q (f := f) sz_1 (gs.sz h.k0 K (by decide))
    have n1 : G (kk W s 2) 1 1 (1 - L.step) := (g_1 (n := 1)).sub gs
    have hp : 0 < 1 - L.step := by have := h.st1; grind
    have t3 := over_q (f := f) ((gl.mul gs).sz h.k0 K (by decide)) (n1.sz h.k0 K (by decide)) hp
    have t4 := plus_q (f := f) ((G.sum (l := 6) gr (Nat.le_trans hl (by decide))).sz h.k0 K (by decide)) ((sz_div ((gl.mul gs).szN (N := 100) h.k0 K (by decide)) (n1.szN (N := 100) h.k0 K (by decide)) hp).up (n := 4000) (by decide)) (Nat.le_refl _)
    rw [enc1] at t2
    simp [al, t1, t2, t3, t4]
    rfl
theorem miss_q (h : LOk W s L) (hW : W ≤ 12800) (hs : s ≤ 4) (hl : L.row.length ≤ 63) : F_miss [.dat (lifeD L)] f = .ok (.dat (enc (miss L))) f := by
  have K := kk_le (m := 2) hW hs
  have c := chances_added_q (f := f) h hW hs hl
  have r := minus_q (f := f) sz_1 ((gtot (m := 2) h hs (by decide)).sz h.k0 K (by decide))
  rw [enc1] at r
  apply ev_is
  rw [u_miss, ev_dEnd]
  unfold S_miss
  simp [c, r]
  rfl
theorem q_power_q {n : Nat} {x : Rat} (hs : s ≤ 4) (s0 : 0 < s) (hx : Wh s x) (h0 : 0 ≤ x) (h1 : x ≤ 1) (hn : n ≤ 100) : F_q_power [.dat (enc x), .dat (.int n)] f = .ok (.dat (enc (x ^ n))) f := by
  have gp : ∀ i, i ≤ 100 → G s i 0 (x ^ i) := fun i hi => ⟨wh_pow hx i, by rw [Nat.pow_zero]; exact ab_01 (pow_01 h0 h1 i).1 (pow_01 h0 h1 i).2⟩
  have K : s ≤ 2 ^ 2 := hs
  have z : ∀ i, i ≤ 100 → Sz 4000 (x ^ i) := fun i hi => (gp i hi).sz s0 K (by omega)
  apply ev_is
  rw [u_q_power, ev_dEnd]
  unfold S_q_power
  simp [smallI_ok (n := (n : Int)) (by omega) (by omega)]
  refine ev_for (I := fun i ρ g => g = f ∧ ∃ s3 : Slot, ρ = [.dat (enc x), .dat (.int n), .dat (enc (x ^ i)), s3]) ⟨rfl, .emp, by rw [Rat.pow_zero]; rfl⟩ ?_ ?_
  · rintro i d ρ g hd ⟨rfl, s3, rfl⟩
    obtain ⟨rfl, hi⟩ := range_at hd
    have p := q_times_q (f := g) (z i (by omega)) (by have := z 1 (by decide); rwa [Rat.pow_one] at this) (Nat.le_refl _)
    refine ⟨_, rfl, ?_⟩
    simp [p]
    rw [Rat.pow_succ]
  · rintro ρ g ⟨rfl, s3, rfl⟩
    rw [range_len]
    simp
theorem cutD_drop {ds : List PyData} {n : Nat} : cutD ds (some (n : Int)) none = ds.drop n := by
  unfold cutD
  rw [HT.sIx_none, HT.sIx_nat]
  by_cases h : n ≤ ds.length
  · rw [Nat.min_eq_left h, List.take_of_length_le (by rw [List.length_drop]; exact Nat.le_refl _)]
  · rw [Nat.min_eq_right (by omega), List.drop_length, List.take_nil, List.drop_eq_nil_of_le (by omega)]
theorem q_low_frac {x y : Rat} (hx : Sz 4000 x) (hy : Sz 4000 y) (h1 : y < 1) : F_q_low [.dat (.int (x.num * (y.den : Nat))), .dat (.int ((x.den : Nat) * ((y.den : Nat) - y.num)))] f = .ok (.dat (enc (x / (1 - y)))) f := by
  have hn : y.num < (y.den : Int) := by
    have d : (0 : Rat) < (y.den : Rat) := Rat.natCast_pos.mpr y.den_pos
    have e := mul_den y
    have : (y.num : Rat) < ((y.den : Int) : Rat) := by
      rw [← e, Rat.intCast_natCast]
      have := Rat.mul_lt_mul_of_pos_right h1 d
      grind
    exact Rat.intCast_lt_intCast.mp this
  obtain ⟨c, hc⟩ : ∃ c : Nat, (y.den : Int) - y.num = c := ⟨((y.den : Int) - y.num).toNat, by omega⟩
  have c0 : 0 < c := by omega
  have cle : c ≤ y.den + y.num.natAbs := by omega
  have y1 := hy.num
  have y2 := hy.den
  have y3 : (2 : Nat) ^ 4000 + 2 ^ 4000 = 2 ^ 4001 := by decide
  have b3 := Nat.mul_lt_mul_of_lt_of_lt hx.den (show c < 2 ^ 4001 by omega)
  have q := q_low_q (f := f) (p := x.num * (y.den : Nat)) (q := x.den * c) (Nat.mul_pos x.den_pos c0) (Nat.lt_trans b3 (by decide))
  rw [hc, ← Int.natCast_mul, q]
  congr 3
  rw [Rat.mkRat_eq_div, Rat.natCast_mul, Rat.intCast_mul, Rat.intCast_natCast, ← mul_den x]
  have a := cast_ne x.den_pos
  have b := cast_ne c0
  have d := cast_ne y.den_pos
  have e : (c : Rat) = (1 - y) * (y.den : Rat) := by
    have : ((c : Int) : Rat) = (y.den : Rat) - y.num := by rw [← hc, Rat.intCast_sub, Rat.intCast_natCast]
    rw [Rat.intCast_natCast] at this
    rw [this, ← mul_den y]
    grind
  have n : 1 - y ≠ 0 := by grind
  rw [e]
  grind
theorem q_rest_q (h : LOk W s L) (hW : W ≤ 12800) (hs : s ≤ 4) (hl : L.row.length ≤ 63) (hk : k ≤ 40) : F_q_rest [.dat (lifeD L), .dat (.int k)] f = .ok (.dat (enc (rest L k))) f := by
  have K := kk_le (m := 42) hW hs
  have dv : W ∣ kk W s 42 := Nat.dvd_trans (Nat.dvd_mul_right _ _) (Nat.dvd_mul_left _ _)
  have gr : ∀ x ∈ L.row, G (kk W s 42) 1 0 x := fun x hx => G.of (h.row x hx).1 dv (h.row x hx).2.1 (h.row x hx).2.2
  have gd : ∀ x ∈ L.row.drop k, G (kk W s 42) 1 0 x := fun x hx => gr x (List.mem_of_mem_drop hx)
  have dl : (L.row.drop k).length ≤ 63 := by
    rw [List.length_drop]
    omega
  have q := q_sum_gd (d0 := .tuple ((L.row.map enc).drop k)) (f := f) (congrArg some List.map_drop.symm) gd h.k0 K dl (by decide)
  have cd : cutD (L.row.map enc) (some (k : Int)) none = (L.row.map enc).drop k := cutD_drop
  rw [← restR_eq h.st1]
  apply ev_is
  rw [u_q_rest, ev_dEnd]
  unfold S_q_rest lifeD
  (rw [e_seq, ev_bind]; simp [-e_seq])
  (rw [e_seq, ev_bind]; simp [-e_seq, cd, q])
  (rw [e_seq, ev_bind]; simp [-e_seq, eq_encs_nil, eq_enc0, ev_ite])
  refine ⟨fun z => ?_, fun z1 => ⟨fun y => ?_, fun y => ?_⟩⟩
  · unfold restR lastR
    rw [z, h.emp z]
    simp
    grind
  · unfold restR
    rw [y, Nat.add_comm, Rat.pow_succ]
    congr 1
    have : lastR L * (0 ^ (k - L.row.length) * 0) / (1 - 0) = 0 := by grind
    grind
  have al : atI (L.row.map enc) (-1) = some (enc (lastR L)) := atI_last (x := 0) z1
  unfold restR
  obtain ⟨n, en⟩ : ∃ n, n = 1 + (k - L.row.length) := ⟨_, rfl⟩
  have em : (1 + max 0 ((k : Int) - L.row.length)) = (n : Int) := by omega
  rw [← en]
  have qp := q_power_q (f := f) (n := n) hs h.s0 h.step h.st0 h.st1' (by omega)
  have gs : G (kk W s 42) 1 0 L.step := G.of h.step (Nat.dvd_trans (Nat.dvd_trans (Nat.dvd_mul_right s (s ^ 41)) (by rw [Nat.mul_comm, ← Nat.pow_succ]; exact Nat.dvd_mul_left _ W)) (Nat.dvd_mul_left _ _)) h.st0 h.st1'
  have gl : G (kk W s 42) 1 0 (lastR L) := G.of (lastR_01 h).2.2 dv (lastR_01 h).1 (lastR_01 h).2.1
  have gpw : G (kk W s 42) 1 0 (L.step ^ (n)) := G.of (wh_pow h.step _) (Nat.dvd_trans (Nat.dvd_trans (Nat.pow_dvd_pow s (show n ≤ 42 by omega)) (Nat.dvd_mul_left _ W)) (Nat.dvd_mul_left _ _)) (pow_01 h.st0 h.st1' _).1 (pow_01 h.st0 h.st1' _).2
  have qt := q_times_q (f := f) (gl.sz h.k0 K (by decide)) (gpw.sz h.k0 K (by decide)) (Nat.le_refl _)
  have gt := (gl.mul gpw).sz h.k0 K (by decide)
  have ql := q_low_frac (f := f) gt (gs.sz h.k0 K (by decide)) h.st1
  have gf : G (kk W s 42) 1 0 (lastR L * L.step ^ (n) / (1 - L.step)) := by
    have a := rest_01 (k := k) h
    rw [← restR_eq h.st1] at a
    have w := rest_wh (m := 42) h hs (show k + 1 ≤ 42 by omega)
    rw [← restR_eq h.st1] at w
    unfold restR at a w
    rw [← en] at a w
    have s0 := sum_nonneg (xs := L.row.drop k) fun x hx => (h.row x (List.mem_of_mem_drop hx)).2.1
    have sw := sum_wh (D := kk W s 42) (xs := L.row.drop k) fun x hx => by
      have := (gd x hx).w
      rwa [Nat.pow_one] at this
    have b := Rat.mul_nonneg (lastR_01 h).1 (pow_01 h.st0 h.st1' (n)).1
    have hn : 0 < 1 - L.step := by have := h.st1; grind
    have c : 0 ≤ lastR L * L.step ^ (n) / (1 - L.step) := by
      rw [Rat.div_def]
      exact Rat.mul_nonneg b (Rat.le_of_lt (Rat.inv_pos.mpr hn))
    have w2 := w.sub sw
    generalize lastR L * L.step ^ (n) / (1 - L.step) = u at *
    generalize (L.row.drop k).sum = v at *
    have e : v + u - v = u := by grind
    rw [e] at w2
    exact ⟨by rw [Nat.pow_one]; exact w2, by rw [Nat.pow_zero]; exact ab_01 c (by grind)⟩
  have qs := q_sum_g (f := f) (xs := [(L.row.drop k).sum, lastR L * L.step ^ (n) / (1 - L.step)]) (K := kk W s 42) (n := 1) (e := 6) (b := 18 + 2 * 42) (fun x hx => by
    rcases List.mem_cons.mp hx with rfl | hx
    · exact (G.sum (l := 6) gd (Nat.le_trans dl (by decide))).up (Nat.le_refl _) (by decide)
    · rw [List.mem_singleton.mp hx]
      exact gf.up (Nat.le_refl _) (by decide)) h.k0 K (by simp) (by decide)
  generalize lastR L * L.step ^ (n) / (1 - L.step) = u at *
  rw [List.map_cons, List.map_cons, List.map_nil] at qs
  have es : [(L.row.drop k).sum, u].sum = (L.row.drop k).sum + u := by
    rw [List.sum_cons, List.sum_cons, List.sum_nil]
    grind
  rw [es] at qs
  generalize lastR L * L.step ^ n = t at *
  have sk : (2 : Nat) ^ 4000 + 2 ^ 4000 = 2 ^ 4001 := by decide
  have sa := gs.sz h.k0 K (by decide)
  have sa1 := sa.num
  have sa2 := sa.den
  have m1 : oMul (.int t.num) (.int (L.step.den : Nat)) = some (.dat (.int (t.num * L.step.den))) := oMul_int (mulC_sz gt.num (by rw [Int.natAbs_natCast]; exact sa2) (Nat.le_refl _))
  have m2 : oMul (.int (t.den : Nat)) (.int ((L.step.den : Nat) - L.step.num)) = some (.dat (.int ((t.den : Nat) * ((L.step.den : Nat) - L.step.num)))) := oMul_int (mulC_small (k := 4000) (l := 4001) (by rw [Int.natAbs_natCast]; exact gt.den) (by omega) (by decide))
  (rw [e_seq, ev_bind]; simp [-e_seq, al, em, qp, qt, m1, m2, ql, qs])
end
end Fp

/-! mathematics: all ways -/
namespace Fp
open PySem PySem.Spec L2 Dn
abbrev WayL := List (List Nat × Rat)
def rowP (c : Nat → Rat) (T : List WayL) (m j : Nat) : WayL := (List.range j).flatMap fun k => if c k = 0 then [] else (T.getD (m - 1 - k) []).map fun p => (p.1 ++ [k + 1], p.2 * c k)
def awT (c : Nat → Rat) : Nat → List WayL
  | 0 => [[([], 1)]]
  | n + 1 => awT c n ++ [rowP c (awT c n) (n + 1) (n + 1)]
theorem awT_succ (c : Nat → Rat) (n : Nat) : awT c (n + 1) = awT c n ++ [rowP c (awT c n) (n + 1) (n + 1)] := rfl
/-- all ways that come to n, with their chances -/
def aw (c : Nat → Rat) (n : Nat) : WayL := (awT c n).getD n []
theorem awT_len (c : Nat → Rat) : ∀ n, (awT c n).length = n + 1
  | 0 => rfl
  | n + 1 => by
    rw [awT_succ, List.length_append, awT_len c n]
    rfl
theorem awT_at (c : Nat → Rat) : ∀ n i, i ≤ n → (awT c n).getD i [] = aw c i
  | 0, i, h => by
    rw [show i = 0 by omega]
    rfl
  | n + 1, i, h => by
    by_cases q : i = n + 1
    · rw [q]
      rfl
    · rw [← awT_at c n i (by omega)]
      rw [awT_succ, List.getD_eq_getElem?_getD, List.getD_eq_getElem?_getD, List.getElem?_append_left (by rw [awT_len]; omega)]
theorem aw_succ (c : Nat → Rat) (n : Nat) : aw c (n + 1) = rowP c (awT c n) (n + 1) (n + 1) := by
  unfold aw
  rw [awT_succ, List.getD_eq_getElem?_getD, List.getElem?_append_right (by rw [awT_len]; omega), awT_len, Nat.sub_self]
  rfl
theorem rowP_succ (c : Nat → Rat) (T : List WayL) (m j : Nat) : rowP c T m (j + 1) = rowP c T m j ++ if c j = 0 then [] else (T.getD (m - 1 - j) []).map fun p => (p.1 ++ [j + 1], p.2 * c j) := by
  unfold rowP
  rw [List.range_succ, List.flatMap_append, List.flatMap_cons, List.flatMap_nil, List.append_nil]
def wsum (w : WayL) : Rat := (w.map (·.2)).sum
theorem wsum_app (v w : WayL) : wsum (v ++ w) = wsum v + wsum w := by
  unfold wsum
  rw [List.map_append, List.sum_append]
theorem wsum_mul (w : WayL) (k : Nat) (x : Rat) : wsum (w.map fun p => (p.1 ++ [k], p.2 * x)) = x * wsum w := by
  unfold wsum
  induction w with
  | nil =>
    rw [List.map_nil, List.map_nil, List.sum_nil]
    grind
  | cons p w ih =>
    rw [List.map_cons, List.map_cons, List.map_cons, List.sum_cons, List.sum_cons, ih]
    grind
theorem rowP_sum (c : Nat → Rat) (T : List WayL) (m : Nat) : ∀ j, wsum (rowP c T m j) = rs j fun k => c k * wsum (T.getD (m - 1 - k) [])
  | 0 => rfl
  | j + 1 => by
    rw [rowP_succ, wsum_app, rs_succ, rowP_sum c T m j]
    congr 1
    split
    · rename_i h
      rw [h, Rat.zero_mul]
      rfl
    · rw [wsum_mul]
theorem aw_sum (c : Nat → Rat) : ∀ n, wsum (aw c n) = an c dl n := by
  intro n
  induction n using Nat.strongRecOn with
  | ind n ih =>
    cases n with
    | zero =>
      rw [an_eq, rs_zero]
      rfl
    | succ n =>
      rw [aw_succ, rowP_sum, an_eq]
      have z : dl (n + 1) = 0 := rfl
      rw [z, Rat.zero_add]
      refine rs_congr fun k hk => ?_
      rw [awT_at c n _ (by omega), ih _ (by omega)]
theorem rowP_len (c : Nat → Rat) (n : Nat) (ih : ∀ m, m ≤ n → (aw c m).length ≤ 2 ^ m) : ∀ j, j ≤ n + 1 → (rowP c (awT c n) (n + 1) j).length + 2 ^ (n + 1 - j) ≤ 2 ^ (n + 1) := by
  intro j
  induction j with
  | zero =>
    intro _
    show 0 + 2 ^ (n + 1) ≤ _
    omega
  | succ j ihj =>
    intro hj
    have h1 := ihj (by omega)
    have h2 := ih (n - j) (by omega)
    have h3 : 2 ^ (n + 1 - j) = 2 ^ (n - j) + 2 ^ (n - j) := by
      rw [show n + 1 - j = n - j + 1 by omega, Nat.pow_succ]
      omega
    rw [rowP_succ, List.length_append, show n + 1 - (j + 1) = n - j by omega]
    have h4 : (if c j = 0 then [] else ((awT c n).getD (n + 1 - 1 - j) []).map fun p => (p.1 ++ [j + 1], p.2 * c j)).length ≤ 2 ^ (n - j) := by
      split
      · exact Nat.zero_le _
      · rw [List.length_map, awT_at c n _ (by omega), show n + 1 - 1 - j = n - j by omega]
        exact h2
    omega
theorem aw_len (c : Nat → Rat) : ∀ n, (aw c n).length ≤ 2 ^ n := by
  intro n
  induction n using Nat.strongRecOn with
  | ind n ih =>
    cases n with
    | zero => exact Nat.le_refl 1
    | succ n =>
      rw [aw_succ]
      have := rowP_len c n (fun m hm => ih m (by omega)) (n + 1) (Nat.le_refl _)
      have : 0 < 2 ^ (n + 1 - (n + 1)) := Nat.pow_pos (by decide)
      omega
theorem rowP_mem {c : Nat → Rat} {T : List WayL} {m j : Nat} {p : List Nat × Rat} (h : p ∈ rowP c T m j) : ∃ k, k < j ∧ c k ≠ 0 ∧ ∃ q ∈ T.getD (m - 1 - k) [], p = (q.1 ++ [k + 1], q.2 * c k) := by
  unfold rowP at h
  obtain ⟨k, hk, h⟩ := List.mem_flatMap.mp h
  have hk := List.mem_range.mp hk
  by_cases z : c k = 0
  · rw [if_pos z] at h
    cases h
  · rw [if_neg z] at h
    obtain ⟨q, hq, rfl⟩ := List.mem_map.mp h
    exact ⟨k, hk, z, q, hq, rfl⟩
theorem aw_g {c : Nat → Rat} {K N : Nat} (hc : ∀ k, k < N → G K 1 0 (c k)) : ∀ n, n ≤ N → ∀ p ∈ aw c n, G K n 0 p.2 := by
  intro n
  induction n using Nat.strongRecOn with
  | ind n ih =>
    intro hn p hp
    cases n with
    | zero =>
      have : p = ([], 1) := List.mem_singleton.mp hp
      rw [this]
      exact g_1
    | succ n =>
      rw [aw_succ] at hp
      obtain ⟨k, hk, z, q, hq, rfl⟩ := rowP_mem hp
      rw [awT_at c n _ (by omega)] at hq
      exact ((ih _ (by omega) (by omega) q hq).mul (hc k (by omega))).up (by omega) (Nat.le_refl _)
theorem aw_short {c : Nat → Rat} : ∀ n, ∀ p ∈ aw c n, p.1.length ≤ n ∧ p.1.sum = n ∧ ∀ k ∈ p.1, 1 ≤ k := by
  intro n
  induction n using Nat.strongRecOn with
  | ind n ih =>
    intro p hp
    cases n with
    | zero =>
      have : p = ([], 1) := List.mem_singleton.mp hp
      rw [this]
      exact ⟨Nat.le_refl 0, rfl, fun k hk => by cases hk⟩
    | succ n =>
      rw [aw_succ] at hp
      obtain ⟨k, hk, z, q, hq, rfl⟩ := rowP_mem hp
      rw [awT_at c n _ (by omega)] at hq
      obtain ⟨h1, h2, h3⟩ := ih _ (by omega) q hq
      refine ⟨?_, ?_, ?_⟩
      · rw [List.length_append]
        show q.1.length + 1 ≤ n + 1
        omega
      · rw [List.sum_append, h2, List.sum_cons, List.sum_nil]
        omega
      · intro m hm
        rcases List.mem_append.mp hm with hm | hm
        · exact h3 m hm
        · rw [List.mem_singleton.mp hm]
          omega
theorem put_two {i j : Nat} {a b : PyData} {ρ : Rho} : (Tgt.many [i, j]).put (.tuple [a, b]) ρ = some ((ρ.set i (.dat a)).set j (.dat b)) := rfl
abbrev wayD (w : List Nat) : PyData := .tuple (w.map fun (n : Nat) => .int (n : Nat))
abbrev encW (p : List Nat × Rat) : PyData := .tuple [wayD p.1, enc p.2]
theorem q_all_ways_q {W s N : Nat} {L : Life} {f : Feed} (h : LOk W s L) (hW : W ≤ 12800) (hs : s ≤ 4) (hN : N ≤ 12) : F_q_all_ways [.dat (lifeD L), .dat (.int N)] f = .ok (.dat (.list ((aw (fun k => ch L (k + 1)) N).map encW))) f := by
  have K := kk_le (m := 20) hW hs
  have hc : ∀ k, k < N → G (kk W s 20) 1 0 (ch L (k + 1)) := fun k hk => h.gch (by omega)
  have big : (12800 * 4 ^ 20 : Nat) < 2 ^ 4000 := by decide
  have sm : W * s ^ 20 ≤ 12800 * 4 ^ 20 := Nat.mul_le_mul hW (Nat.pow_le_pow_left hs _)
  have qc : ∀ k, k < N → F_q_chance [.dat (lifeD L), .dat (.int ((k + 1 : Nat) : Int))] f = .ok (.dat (enc (ch L (k + 1)))) f := fun k hk => q_chance_q (m := 20) h (by omega) (by omega) (by omega) (Nat.lt_of_le_of_lt hs (by decide)) (by decide)
  generalize hc2 : (fun k => ch L (k + 1)) = c at *
  have hcc : ∀ k, ch L (k + 1) = c k := fun k => by rw [← hc2]
  simp only [hcc] at hc qc
  have e1 : ((N : Int) + 1 - 1).toNat = N := by omega
  apply ev_is
  rw [u_q_all_ways, ev_dEnd]
  unfold S_q_all_ways
  (rw [e_seq, ev_bind]; simp [-e_seq, -Int.natCast_add, -Int.natCast_mul])
  refine ev_step (fun ρ g => g = f ∧ ∃ s3 s4 s5 s6 s7 s8 : Slot, ρ = [.dat (lifeD L), .dat (.int N), .own ((awT c N).map fun w => .list (w.map encW)), s3, s4, s5, s6, s7, s8]) ?_ ?_
  · simp [smallI_ok (n := 1) (by decide) (by decide), smallI_ok (n := (N : Int) + 1) (by omega) (by omega), e1]
    refine ev_for (I := fun i ρ g => g = f ∧ ∃ s3 s4 s5 s6 s7 s8 : Slot, ρ = [.dat (lifeD L), .dat (.int N), .own ((awT c i).map fun w => .list (w.map encW)), s3, s4, s5, s6, s7, s8]) ⟨rfl, .emp, .emp, .emp, .emp, .emp, .emp, rfl⟩ ?_ ?_
    · rintro i d ρ g hd ⟨rfl, s3, s4, s5, s6, s7, s8, rfl⟩
      obtain ⟨rfl, hi⟩ := range_at hd
      refine ⟨_, rfl, ?_⟩
      have ei : (1 + (i : Int)) = ((i + 1 : Nat) : Int) := by omega
      have e2 : (((i + 1 : Nat) : Int) + 1 - 1).toNat = i + 1 := by omega
      rw [ei]
      (rw [e_seq, ev_bind]; simp [-e_seq, -Int.natCast_add, -Int.natCast_mul])
      refine ev_step (fun ρ g' => g' = g ∧ ∃ s5 s6 s7 s8 : Slot, ρ = [.dat (lifeD L), .dat (.int N), .own ((awT c i).map fun w => .list (w.map encW)), .dat (.int ((i + 1 : Nat) : Int)), .own ((rowP c (awT c i) (i + 1) (i + 1)).map encW), s5, s6, s7, s8]) ?_ ?_
      · rw [e_for]
        simp only [e_iRange2, e_V, e_C, e_Bin, oAdd_int, give_some, List.getElem?_cons_succ, List.getElem?_cons_zero, pk_ok_dat, smallI_ok (n := 1) (by decide) (by decide), smallI_ok (n := ((i + 1 : Nat) : Int) + 1) (by omega) (by omega), Bool.and_self, if_true, bind_ok, e2]
        refine ev_for (I := fun j ρ g' => g' = g ∧ ∃ s5 s6 s7 s8 : Slot, ρ = [.dat (lifeD L), .dat (.int N), .own ((awT c i).map fun w => .list (w.map encW)), .dat (.int ((i + 1 : Nat) : Int)), .own ((rowP c (awT c i) (i + 1) j).map encW), s5, s6, s7, s8]) ⟨rfl, s5, s6, s7, s8, by simp [rowP]⟩ ?_ ?_
        · rintro j d ρ g hd ⟨rfl, s5, s6, s7, s8, rfl⟩
          obtain ⟨rfl, hj⟩ := range_at hd
          refine ⟨_, rfl, ?_⟩
          have ej : (1 + (j : Int)) = ((j + 1 : Nat) : Int) := by omega
          rw [ej]
          rw [rowP_succ]
          have q1 := qc j (by omega)
          have eij : ((i + 1 : Nat) : Int) - ((j + 1 : Nat) : Int) = ((i - j : Nat) : Int) := by omega
          have at1 : atI ((awT c i).map fun w => PyData.list (w.map encW)) ((i - j : Nat) : Int) = some (.list ((aw c (i - j)).map encW)) := by
            rw [Dn.atI_nat, List.getElem?_map, ← awT_at c i (i - j) (by omega), List.getD_eq_getElem?_getD, List.getElem?_eq_getElem (by rw [awT_len]; omega)]
            rfl
          rw [awT_at c i (i + 1 - 1 - j) (by omega), show i + 1 - 1 - j = i - j by omega]
          (rw [e_seq, ev_bind]; simp [-e_seq, -Int.natCast_add, -Int.natCast_mul, q1])
          by_cases z : c j = 0
          · simp [ne_enc0, z]
          · have lc : lcN (.many [7, 8]) cYes (cTup [cBin oAdd (cVar 7) (cTup [cVar 5]), cCall F_q_times [cVar 8, cVar 6]]) [.dat (lifeD L), .dat (.int N), .own ((awT c i).map fun w => .list (w.map encW)), .dat (.int ((i + 1 : Nat) : Int)), .own ((rowP c (awT c i) (i + 1) j).map encW), .dat (.int ((j + 1 : Nat) : Int)), .dat (enc (c j)), .emp, .emp] ((aw c (i - j)).map encW) [] g = .ok ((aw c (i - j)).map (encW ∘ fun p => (p.1 ++ [j + 1], p.2 * c j))) g := by
              refine lc_map (Nat.le_trans (aw_len c (i - j)) (Nat.le_trans (Nat.pow_le_pow_right (n := 2) (by decide) (show i - j ≤ 12 by omega)) (by decide))) fun p hp => ⟨_, put_two, ?_⟩
              have gp := aw_g (N := N) hc (i - j) (by omega) p hp
              have q2 := q_times_q (f := g) (gp.sz h.k0 K (by omega)) ((hc j (by omega)).sz h.k0 K (by decide)) (Nat.le_refl _)
              have pl : p.1.length + 1 ≤ 100000 := by
                have := (aw_short (i - j) p hp).1
                omega
              simp [q2, pl]
            have le : (rowP c (awT c i) (i + 1) j).length + (aw c (i - j)).length ≤ 100000 := by
              have l1 := Nat.le_trans (Nat.le_add_right _ _) (rowP_len c i (fun m _ => aw_len c m) j (by omega))
              have l2 := aw_len c (i - j)
              have l3 : 2 ^ (i + 1) ≤ 2 ^ 12 := Nat.pow_le_pow_right (by decide) (by omega)
              have l4 : 2 ^ (i - j) ≤ 2 ^ 12 := Nat.pow_le_pow_right (by decide) (by omega)
              have l5 : (2 : Nat) ^ 12 = 4096 := by decide
              omega
            have at2 : (awT c i)[i - j]? = some (aw c (i - j)) := by
              rw [← awT_at c i (i - j) (by omega), List.getD_eq_getElem?_getD, List.getElem?_eq_getElem (by rw [awT_len]; omega)]
              rfl
            simp [-Int.natCast_add, ne_enc0, z, eij, at2, lc, le]
        · rintro ρ g ⟨rfl, s5, s6, s7, s8, rfl⟩
          rw [range_len]
          exact ⟨_, rfl, rfl, s5, s6, s7, s8, rfl⟩
      rintro _ g ⟨rfl, s5, s6, s7, s8, rfl⟩
      (rw [e_seq, ev_bind]; simp [-e_seq, -Int.natCast_add, -Int.natCast_mul])
      have l9 : (awT c i).length < 100000 := by
        rw [awT_len]
        omega
      simp [l9, awT_succ]
    · rintro ρ g ⟨rfl, s3, s4, s5, s6, s7, s8, rfl⟩
      rw [range_len]
      exact ⟨_, rfl, rfl, s3, s4, s5, s6, s7, s8, rfl⟩
  rintro _ g ⟨rfl, s3, s4, s5, s6, s7, s8, rfl⟩
  have at1 : (awT c N)[N]? = some (aw c N) := by
    rw [← awT_at c N N (Nat.le_refl _), List.getD_eq_getElem?_getD, List.getElem?_eq_getElem (by rw [awT_len]; omega)]
    rfl
  (rw [e_seq, ev_bind]; simp [-e_seq, at1])
end Fp

/-! mathematics: degrees of what comes anew, of puts, of parts -/
namespace Fp
open PySem PySem.Spec L2 Dn
@[simp] theorem ix_life0 {L : Life} : oIx (lifeD L) (.int 0) = some (.dat (.tuple (L.row.map enc))) := nr rfl
@[simp] theorem ix_life1 {L : Life} : oIx (lifeD L) (.int 1) = some (.dat (enc L.step)) := nr rfl
theorem q_sum_gl {K n e b l : Nat} {f : Feed} {xs : List Rat} (h : ∀ x ∈ xs, G K n e x) (K0 : 0 < K) (hK : K ≤ 2 ^ b) (hl : xs.length < 2 ^ l) (hb : b * n + e + l < 4000) : F_q_sum [.dat (.list (xs.map enc))] f = .ok (.dat (enc xs.sum)) f :=
  q_sum_q (D := K ^ n) (B := 2 ^ e) (L := 2 ^ l - 1) (Nat.pow_pos K0) (Nat.pow_pos (by decide)) (fun x hx => (h x hx).w) (fun x hx => (h x hx).a) (by omega) (by
    rw [Nat.sub_add_cancel (Nat.pow_pos (by decide)), ← Nat.pow_add]
    exact g_size hK (by omega))
theorem G.an {K d e m : Nat} {c t : Nat → Rat} (hc : ∀ k, k < m → G K 1 0 (c k)) (ht : ∀ k, k ≤ m → G K d e (t k)) (hm : m ≤ 31) : ∀ n, n ≤ m → G K (d + n) (e + 5 * n) (an c t n) := fun n hn => by
  refine ⟨?_, ?_⟩
  · rw [Nat.pow_add]
    exact an_wh (fun k hk => by have := (hc k hk).w; rwa [Nat.pow_one] at this) (fun k hk => (ht k hk).w) n hn
  · have a := an_ab (B := 2 ^ e) (M := 32) (m := m) (c := c) (t := t) (fun k hk => by have := (hc k hk).a; rwa [Nat.pow_zero] at this) (fun k hk => (ht k hk).a) (by omega) n hn
    rwa [show 2 ^ e * 32 ^ n = 2 ^ (e + 5 * n) by rw [Nat.pow_add, Nat.pow_mul]] at a
theorem g_dl {K n : Nat} : ∀ k, G K 0 0 (dl k) := fun k => by
  unfold dl
  split
  · exact g_1
  · exact g_0
theorem LOk.gputs {W s m n : Nat} {L : Life} (h : LOk W s L) (hm : m ≤ 31) (hn : n ≤ m) : G (kk W s m) n (5 * n) (Fp.an (fun k => Fp.ch L (k + 1)) dl n) := by
  have := G.an (K := kk W s m) (d := 0) (e := 0) (m := m) (c := fun k => Fp.ch L (k + 1)) (t := dl) (fun k hk => h.gch (by omega)) (fun k _ => g_dl (n := 0) k) hm n hn
  rwa [Nat.zero_add, Nat.zero_add] at this
theorem LOk.gpp {W s m : Nat} {L : Life} (h : LOk W s L) (hm : m ≤ 31) : ∀ j n, n ≤ m → G (kk W s m) j (5 * j) (pp (fun k => Fp.ch L (k + 1)) j n) := fun j n hn => by
  refine ⟨pp_wh (fun k hk => by have := (h.gch (k := k + 1) (m := m) (by omega)).w; rwa [Nat.pow_one] at this) j n hn, ?_⟩
  have a := pp_ab (c := fun k => Fp.ch L (k + 1)) (M := 32) (N := m) (fun k hk => by have := (h.gch (k := k + 1) (m := m) (by omega)).a; rwa [Nat.pow_zero] at this) (by omega) (by omega) j n hn
  rwa [show 32 ^ j = 2 ^ (5 * j) by rw [Nat.pow_mul]] at a
/-- the puts of a life, to N -/
abbrev putsL (L : Life) (N : Nat) : List PyData := (List.range (N + 1)).map fun n => enc (an (fun k => ch L (k + 1)) dl n)
theorem shows_puts {W s N : Nat} {L : Life} (h : LOk W s L) (hW : W ≤ 12800) (hs : s ≤ 4) (hN : N ≤ 20) : Dn.shows (.tuple (putsL L N)) = true :=
  shows_range (fun k hk => (h.gputs (m := 20) (n := k) (by decide) (by omega)).szN h.k0 (kk_le hW hs) (by omega)) (by omega)
theorem range_take {α : Type} {g : Nat → α} {m n : Nat} (h : m ≤ n) : ((List.range n).map g).take m = (List.range m).map g := by
  rw [← List.map_take, List.take_range, Nat.min_eq_left h]
theorem puts_last {L : Life} {N : Nat} : atI (putsL L N) (-1) = some (enc (an (fun k => ch L (k + 1)) dl N)) := by
  unfold putsL
  rw [List.range_succ, List.map_append]
  exact L2.atI_last _ _
end Fp

/-! k14: how many there are -/
namespace Fp
open PySem PySem.Spec L2 Dn
theorem pp_none (c : Nat → Rat) : ∀ j n, n < j → pp c j n = 0
  | 0, n, h => by omega
  | j + 1, n, h => by
    show (rs n fun i => pp c j i * c (n - 1 - i)) = 0
    rw [rs_congr (h := fun _ => 0) fun i hi => by rw [pp_none c j i (by omega), Rat.zero_mul], rs_0]
/-- how often at least j are put at 1 to N -/
def least (c : Nat → Rat) (N j : Nat) : Rat := rs (N + 1) fun n => pp c j n
theorem least_0 (c : Nat → Rat) (N : Nat) : least c N 0 = 1 := by
  unfold least
  rw [rs_head]
  have : (rs N fun i => pp c 0 (i + 1)) = 0 := by
    rw [rs_congr (h := fun _ => 0) fun i hi => by simp [pp], rs_0]
  rw [this]
  show (1 : Rat) + 0 = 1
  decide +kernel
theorem least_none (c : Nat → Rat) (N : Nat) : least c N (N + 1) = 0 := by
  unfold least
  rw [rs_congr (h := fun _ => 0) fun i hi => pp_none c _ _ (by omega), rs_0]
/-- just j: the last one lasts beyond -/
theorem just_j (L : Life) (N j : Nat) : (rs (N + 1) fun n => pp (fun k => ch L (k + 1)) j n * lasts L (N - n)) = least (fun k => ch L (k + 1)) N j - least (fun k => ch L (k + 1)) N (j + 1) := by
  generalize hc : (fun k => ch L (k + 1)) = c
  have e1 : (rs (N + 1) fun n => pp c j n * lasts L (N - n)) = (rs (N + 1) fun n => pp c j n) - rs (N + 1) fun n => rs (N - n) fun k => pp c j n * c k := by
    have : (rs (N + 1) fun n => pp c j n * lasts L (N - n)) + (rs (N + 1) fun n => rs (N - n) fun k => pp c j n * c k) = rs (N + 1) fun n => pp c j n := by
      rw [← rs_add]
      refine rs_congr fun n hn => ?_
      unfold lasts
      rw [rs_mul, hc]
      grind
    grind
  rw [e1]
  unfold least
  congr 1
  -- both are sums over n + k + 1 = m
  have e2 : (rs (N + 1) fun m => pp c (j + 1) m) = rs N fun m => pp c (j + 1) (m + 1) := by
    rw [rs_head, pp_none c (j + 1) 0 (by omega)]
    grind
  have e3 : (rs (N + 1) fun n => rs (N - n) fun k => pp c j n * c k) = rs N fun n => rs (N - n) fun k => pp c j n * c k := by
    rw [rs_succ, Nat.sub_self, rs_zero]
    grind
  rw [e2, e3, ← rs_tri (G := fun n k => pp c j n * c k)]
  refine rs_congr fun m hm => ?_
  show _ = rs (m + 1) fun n => pp c j n * c (m + 1 - 1 - n)
  exact rs_congr fun n hn => by rw [Nat.add_sub_cancel]
theorem rs_tele (g : Nat → Rat) : ∀ n, (rs n fun j => g j - g (j + 1)) = g 0 - g n
  | 0 => by
    rw [rs_zero]
    grind
  | n + 1 => by
    rw [rs_succ, rs_tele g n]
    grind
/-- how many in the mean -/
theorem many_least (c : Nat → Rat) (N : Nat) : (rs N fun n => an c dl (n + 1)) = rs (N + 1) fun j => least c N (j + 1) := by
  unfold least
  rw [← rs_swap]
  rw [rs_head]
  have z : (rs (N + 1) fun j => pp c (j + 1) 0) = 0 := by
    rw [rs_congr (h := fun _ => 0) fun j hj => pp_none c (j + 1) 0 (by omega), rs_0]
  rw [z, Rat.zero_add]
  refine rs_congr fun n hn => ?_
  rw [← pp_sum c (n + 1) (N + 2) (by omega), rs_head]
  have : pp c 0 (n + 1) = 0 := by simp [pp]
  rw [this, Rat.zero_add]
section
variable {W s N : Nat} {L : Life} {f : Feed}
theorem LOk.gleast (h : LOk W s L) (hN : N ≤ 20) (j : Nat) : G (kk W s 20) j (5 * j + 5) (least (fun k => Fp.ch L (k + 1)) N j) := G.rs (l := 5) (fun n hn => h.gpp (by decide) j n (by omega)) (by omega)
theorem next_puts_q (h : LOk W s L) (hW : W ≤ 12800) (hs : s ≤ 4) (hN : N ≤ 20) {j : Nat} (hj : j ≤ 20) : F_next_puts [.dat (.list ((List.range N).map fun k => enc (ch L (k + 1)))), .dat (.list (rowD (fun k => ch L (k + 1)) N j))] f = .ok (.own (rowD (fun k => ch L (k + 1)) N (j + 1))) f := by
  have K := kk_le (m := 20) hW hs
  have hp := fun n (hn : n ≤ 20) => h.gpp (m := 20) (by decide) j n hn
  have hc := fun k (hk : k < 20) => h.gch (m := 20) (k := k + 1) (by omega)
  generalize hcc : (fun k => ch L (k + 1)) = c at *
  have hce : ∀ k, ch L (k + 1) = c k := fun k => by rw [← hcc]
  simp only [hce] at hc ⊢
  have e2 : ((N : Int) + 1).toNat = N + 1 := by omega
  apply ev_is
  rw [u_next_puts, ev_dEnd]
  unfold S_next_puts
  (rw [e_seq, ev_bind]; simp [-e_seq, -Int.natCast_add, -Int.natCast_mul])
  refine ev_step (fun ρ g => g = f ∧ ∃ s3 s4 : Slot, ρ = [.dat (.list ((List.range N).map fun k => enc (c k))), .dat (.list (rowD c N j)), .own (rowD c N (j + 1)), s3, s4]) ?_ ?_
  · simp [smallI_ok (n := (N : Int) + 1) (by omega) (by omega), e2]
    refine ev_for (I := fun i ρ g => g = f ∧ ∃ s3 s4 : Slot, ρ = [.dat (.list ((List.range N).map fun k => enc (c k))), .dat (.list (rowD c N j)), .own ((List.range i).map fun n => enc (pp c (j + 1) n)), s3, s4]) ⟨rfl, .emp, .emp, rfl⟩ ?_ ?_
    · rintro i d ρ g hd ⟨rfl, s3, s4, rfl⟩
      obtain ⟨rfl, hi⟩ := range_at hd
      refine ⟨_, rfl, ?_⟩
      have lc : lcN (.one 4) cYes (cCall F_times [cBin oIx (cVar 1) (cBin oSub (cBin oSub (cVar 3) (cC (.int 1))) (cVar 4)), cBin oIx (cVar 0) (cVar 4)]) [.dat (.list ((List.range N).map fun k => enc (c k))), .dat (.list (rowD c N j)), .own ((List.range i).map fun n => enc (pp c (j + 1) n)), .dat (.int (i : Nat)), .emp] (rangeD 0 i) [] g = .ok ((List.range i).map fun k => enc (pp c j (i - 1 - k) * c k)) g := by
        rw [range0]
        refine lc_map (by rw [List.length_range]; omega) fun k hk => ⟨_, rfl, ?_⟩
        have hk2 := List.mem_range.mp hk
        have ej : ((i : Int) - 1 - (k : Int)) = ((i - 1 - k : Nat) : Int) := by omega
        have a1 := at_range (n := N + 1) (g := fun n => enc (pp c j n)) (show i - 1 - k < N + 1 by omega)
        have a2 := at_range (n := N) (g := fun k => enc (c k)) (show k < N by omega)
        have q := times_q (f := g) ((hp (i - 1 - k) (by omega)).sz h.k0 K (by omega)) ((hc k (by omega)).sz h.k0 K (by decide)) (Nat.le_refl _)
        simp only [List.set_cons_succ, List.set_cons_zero, e_Call, e_Vals_cons, e_Vals_nil, e_Bin, e_V, e_C, List.getElem?_cons_succ, List.getElem?_cons_zero, bind_ok, pk_ok_dat, pk_ok_lent, e_ix_list, a1, ej, a2, Option.map_some, give_some, e_arg_dat, oSub_int, q]
      have sm := summed_r (f := g) (K := kk W s 20) (n := j + 1) (e := 5 * j) (N := i) (g := fun k => pp c j (i - 1 - k) * c k) (fun k hk => ((hp (i - 1 - k) (by omega)).mul (hc k (by omega))).up (Nat.le_refl _) (by omega)) h.k0 K (by omega) (by omega)
      have er : (rs i fun k => pp c j (i - 1 - k) * c k) = pp c (j + 1) i := by
        show _ = rs i fun n => pp c j n * c (i - 1 - n)
        rw [← rs_rev]
        exact rs_congr fun k hk => by rw [show i - 1 - (i - 1 - k) = k by omega]
      rw [er] at sm
      have l9 : i < 100000 := by omega
      simp [smallI_ok (n := (i : Int)) (by omega) (by omega), lc, sm, l9]
      rw [List.range_succ, List.map_append]
      rfl
    · rintro ρ g ⟨rfl, s3, s4, rfl⟩
      rw [range_len]
      exact ⟨_, rfl, rfl, s3, s4, rfl⟩
  rintro _ g ⟨rfl, s3, s4, rfl⟩
  simp
theorem zipD_map {α : Type} {g h : α → PyData} : ∀ l : List α, zipD (l.map g) (l.map h) = l.map fun x => .tuple [g x, h x]
  | [] => rfl
  | x :: l => by
    show PyData.tuple [g x, h x] :: zipD (l.map g) (l.map h) = _
    rw [zipD_map l]
    rfl
theorem range_drop1 {α : Type} {g : Nat → α} {n : Nat} : ((List.range (n + 1)).map g).drop 1 = (List.range n).map fun k => g (k + 1) := by
  rw [List.range_succ_eq_map, List.map_cons, List.drop_one, List.tail_cons, List.map_map]
  rfl
theorem counts_q (h : LOk W s L) (hW : W ≤ 12800) (hs : s ≤ 4) (hN : N ≤ 20) : F_counts [.dat (lifeD L), .dat (.int N)] f = .ok (.dat (.tuple ((List.range (N + 1)).map fun j => enc (least (fun k => ch L (k + 1)) N j - least (fun k => ch L (k + 1)) N (j + 1))))) f := by
  have K := kk_le (m := 20) hW hs
  have hp := fun j n (hn : n ≤ 20) => h.gpp (m := 20) (by decide) j n hn
  have hl := fun k (hk : k ≤ 20) => glasts (m := 20) (k := k) h hk
  have big : (12800 * 4 ^ 20 : Nat) < 2 ^ 4000 := by decide
  have sm : W * s ^ 20 ≤ 12800 * 4 ^ 20 := Nat.mul_le_mul hW (Nat.pow_le_pow_left hs _)
  have c1 := chances_to_q (f := f) (n := N) (m := 20) h hN (by omega) (Nat.lt_of_le_of_lt hs (by decide)) (by decide)
  have np := fun g j (hj : j ≤ 20) => next_puts_q (f := g) h hW hs hN hj
  have jj := just_j L N
  have e2 : ((N : Int) + 1).toNat = N + 1 := by omega
  have r0 := row0 (c := fun k => ch L (k + 1)) (N := N)
  have lc1 : lcN (.one 7) cYes (cCall F_lasting [cVar 0, cBin oSub (cVar 1) (cVar 7)]) [.dat (lifeD L), .dat (.int N), .dat (.list ((List.range N).map fun k => enc (ch L (k + 1)))), .emp, .emp, .emp, .emp, .emp, .emp, .emp] (rangeD 0 (N + 1)) [] f = .ok ((List.range (N + 1)).map fun k => enc (lasts L (N - k))) f := by
    rw [range0]
    refine lc_map (by rw [List.length_range]; omega) fun k hk => ⟨_, rfl, ?_⟩
    have hk2 := List.mem_range.mp hk
    have ej : ((N : Int) - (k : Int)) = ((N - k : Nat) : Int) := by omega
    have q := lasting_q (f := f) (k := N - k) h hW hs (by omega)
    simp [ej, q]
  generalize hcc : (fun k => ch L (k + 1)) = c at *
  have b1 : (N : Int) ≤ 1000 := by omega
  have b2 : -1000 ≤ (N : Int) := by omega
  have b3 : 1 + N ≤ 100000 := by omega
  apply ev_is
  rw [u_counts, ev_dEnd]
  unfold S_counts
  (rw [e_seq, ev_bind]; simp [-e_seq, -Int.natCast_add, -Int.natCast_mul, c1])
  (rw [e_seq, ev_bind]; simp [-e_seq, -Int.natCast_add, -Int.natCast_mul])
  (rw [e_seq, ev_bind]; simp [-e_seq, -Int.natCast_add, -Int.natCast_mul, smallI_ok (n := (N : Int) + 1) (by omega) (by omega), e2, lc1])
  (rw [e_seq, ev_bind]; simp [-e_seq, -Int.natCast_add, -Int.natCast_mul])
  (rw [e_seq, ev_bind]; simp [-e_seq, -Int.natCast_add, -Int.natCast_mul, b1, b2, b3])
  rw [r0]
  (rw [e_seq, ev_bind]; simp [-e_seq, -Int.natCast_add, -Int.natCast_mul])
  (rw [e_seq, ev_bind]; simp [-e_seq, -Int.natCast_add, -Int.natCast_mul])
  refine ev_step (fun ρ g => g = f ∧ ∃ s4 s6 s7 s8 s9 : Slot, ρ = [.dat (lifeD L), .dat (.int N), .dat (.list ((List.range N).map fun k => enc (ch L (k + 1)))), .dat (.list ((List.range (N + 1)).map fun k => enc (lasts L (N - k)))), s4, .own ((List.range (N + 1)).map fun j => enc (least c N j - least c N (j + 1))), s6, s7, s8, s9]) ?_ ?_
  · simp [smallI_ok (n := (N : Int) + 1) (by omega) (by omega), e2]
    refine ev_for (I := fun i ρ g => g = f ∧ ∃ s6 s7 s8 s9 : Slot, ρ = [.dat (lifeD L), .dat (.int N), .dat (.list ((List.range N).map fun k => enc (ch L (k + 1)))), .dat (.list ((List.range (N + 1)).map fun k => enc (lasts L (N - k)))), .dat (.list (rowD c N i)), .own ((List.range i).map fun j => enc (least c N j - least c N (j + 1))), s6, s7, s8, s9]) ⟨rfl, .emp, .emp, .emp, .emp, rfl⟩ ?_ ?_
    · rintro i d ρ g hd ⟨rfl, s6, s7, s8, s9, rfl⟩
      obtain ⟨rfl, hi⟩ := range_at hd
      refine ⟨_, rfl, ?_⟩
      have zp : zipD (rowD c N i) ((List.range (N + 1)).map fun k => enc (lasts L (N - k))) = (List.range (N + 1)).map fun n => .tuple [enc (pp c i n), enc (lasts L (N - n))] := zipD_map _
      have lc : ∀ s8 s9, lcN (.many [8, 9]) cYes (cCall F_times [cVar 8, cVar 9]) [.dat (lifeD L), .dat (.int N), .dat (.list ((List.range N).map fun k => enc (ch L (k + 1)))), .dat (.list ((List.range (N + 1)).map fun k => enc (lasts L (N - k)))), .dat (.list (rowD c N i)), .own ((List.range i).map fun j => enc (least c N j - least c N (j + 1))), .dat (.int (i : Nat)), s7, s8, s9] ((List.range (N + 1)).map fun n => .tuple [enc (pp c i n), enc (lasts L (N - n))]) [] g = .ok ((List.range (N + 1)).map fun n => enc (pp c i n * lasts L (N - n))) g := fun s8 s9 => by
        refine lc_map (by rw [List.length_range]; omega) fun k hk => ⟨_, put_two, ?_⟩
        have hk2 := List.mem_range.mp hk
        have q := times_q (f := g) ((hp i k (by omega)).sz h.k0 K (by omega)) ((hl (N - k) (by omega)).sz h.k0 K (by decide)) (Nat.le_refl _)
        simp [q]
      have sm := summed_r (f := g) (K := kk W s 20) (n := i + 1) (e := 5 * i) (N := N + 1) (g := fun n => pp c i n * lasts L (N - n)) (fun k hk => ((hp i k (by omega)).mul (hl (N - k) (by omega))).up (Nat.le_refl _) (by omega)) h.k0 K (by omega) (by omega)
      rw [jj i] at sm
      have l9 : i < 100000 := by omega
      have q := np g i (by omega)
      simp [zp, lc, sm, l9, q]
      rw [List.range_succ, List.map_append]
      rfl
    · rintro ρ g ⟨rfl, s6, s7, s8, s9, rfl⟩
      rw [range_len]
      exact ⟨_, rfl, rfl, _, s6, s7, s8, s9, rfl⟩
  rintro _ g ⟨rfl, s4, s6, s7, s8, s9, rfl⟩
  (rw [e_seq, ev_bind]; simp [-e_seq, -Int.natCast_add, -Int.natCast_mul])
theorem many_by_q (h : LOk W s L) (hW : W ≤ 12800) (hs : s ≤ 4) (hN : N ≤ 20) : F_many_by [.dat (lifeD L), .dat (.int N)] f = .ok (.dat (enc (rs N fun n => an (fun k => ch L (k + 1)) dl (n + 1)))) f := by
  have K := kk_le (m := 20) hW hs
  have p1 := puts_q (f := f) h hW hs hN
  have cd : cutD (putsL L N) (some 1) none = (putsL L N).drop 1 := cutD_drop (n := 1)
  unfold putsL at cd
  rw [range_drop1] at cd
  have sm := summed_gd (f := f) (d0 := .tuple ((List.range N).map fun n => enc (an (fun k => ch L (k + 1)) dl (n + 1)))) (xs := (List.range N).map fun n => an (fun k => ch L (k + 1)) dl (n + 1)) (K := kk W s 20) (n := 20) (e := 100) (by rw [List.map_map]; rfl) (fun x hx => by
    obtain ⟨k, hk, rfl⟩ := List.mem_map.mp hx
    have := List.mem_range.mp hk
    exact (h.gputs (m := 20) (by decide) (by omega)).up (by omega) (by omega)) h.k0 K (by rw [List.length_map, List.length_range]; omega) (by decide)
  rw [rs_list] at sm
  generalize (fun k => ch L (k + 1)) = c at *
  apply ev_is
  rw [u_many_by, ev_dEnd]
  unfold S_many_by
  simp [p1, cd, sm]
theorem one_miss (L : Life) : 1 - miss L = tot L := by
  unfold miss
  grind
theorem miss_pos (h : LOk W s L) (z : miss L ≠ 0) : 0 < miss L := by
  have := (miss_01 h).1
  grind
theorem in_all_q (h : LOk W s L) (hW : W ≤ 12800) (hs : s ≤ 4) (hl : L.row.length ≤ 63) : F_in_all [.dat (lifeD L)] f = .ok (.dat (if miss L = 0 then .none else enc (tot L / miss L))) f := by
  have K := kk_le (m := 2) hW hs
  have m1 := miss_q (f := f) h hW hs hl
  have gm := gmiss (m := 2) h hs (by decide)
  have gt := gtot (m := 2) h hs (by decide)
  have t2 := minus_q (f := f) sz_1 (gm.sz h.k0 K (by decide))
  rw [enc1, one_miss] at t2
  apply ev_is
  rw [u_in_all, ev_dEnd]
  unfold S_in_all
  (rw [e_seq, ev_bind]; simp [-e_seq, -Int.natCast_add, -Int.natCast_mul, m1])
  simp [eq_enc0]
  by_cases z : miss L = 0
  · simp [z]
  · have t3 := over_q (f := f) (gt.sz h.k0 K (by decide)) (gm.sz h.k0 K (by decide)) (miss_pos h z)
    simp [z, t2, t3]
theorem q_low_div {x y : Rat} (hx : Sz 4000 x) (hy : Sz 4000 y) (h0 : 0 < y) : F_q_low [.dat (.int (x.num * (y.den : Nat))), .dat (.int ((x.den : Nat) * y.num))] f = .ok (.dat (enc (x / y))) f := by
  have hn := num_pos h0
  have e : (x.den * y.num : Int) = ((x.den * y.num.toNat : Nat) : Int) := by
    rw [Int.natCast_mul, Int.toNat_of_nonneg (by omega)]
  have b3 := prod_lt hx.den hy.num (Nat.le_refl _)
  have k : (2 : Nat) ^ 8000 ≤ 2 ^ 8500 := by decide
  have e2 : y.num.toNat = y.num.natAbs := by omega
  have r1 := q_low_q (f := f) (p := x.num * y.den) (q := x.den * y.num.toNat) (Nat.mul_pos x.den_pos (by omega)) (by rw [e2]; omega)
  rw [div_eq h0] at r1
  rw [e]
  exact r1
theorem mul_nd {x y : Rat} (hx : Sz 4000 x) (hy : Sz 4000 y) : oMul (.int x.num) (.int (y.den : Nat)) = some (.dat (.int (x.num * (y.den : Nat)))) ∧ oMul (.int (x.den : Nat)) (.int y.num) = some (.dat (.int ((x.den : Nat) * y.num))) :=
  ⟨oMul_int (mulC_sz hx.num (by rw [Int.natAbs_natCast]; exact hy.den) (Nat.le_refl _)), oMul_int (mulC_sz (by rw [Int.natAbs_natCast]; exact hx.den) hy.num (Nat.le_refl _))⟩
end
end Fp

/-! k04: the twin and the far one of a life -/
namespace Fp
open PySem PySem.Spec L2 Dn
theorem LOk.twin {W s : Nat} {L : Life} (h : LOk W s L) : LOk W s ⟨L.row, 0⟩ := by
  refine ⟨h.W0, h.s0, h.row, wh_0, show (0 : Rat) ≤ 0 by decide, show (0 : Rat) < 1 by decide, fun _ => rfl, ?_⟩
  have a := h.tot1
  unfold tot at a ⊢
  have b := Rat.mul_nonneg (lastR_01 h).1 h.st0
  have hn : 0 < 1 - L.step := by have := h.st1; grind
  have c : 0 ≤ lastR L * L.step / (1 - L.step) := by
    rw [Rat.div_def]
    exact Rat.mul_nonneg b (Rat.le_of_lt (Rat.inv_pos.mpr hn))
  show L.row.sum + lastR ⟨L.row, 0⟩ * 0 / (1 - 0) ≤ 1
  rw [Rat.mul_zero]
  have e : (0 : Rat) / (1 - 0) = 0 := by decide +kernel
  rw [e]
  grind
def far (L : Life) (n : Nat) : Life := ⟨List.replicate n 0 ++ L.row, L.step⟩
theorem sum_zeros : ∀ n : Nat, (List.replicate n (0 : Rat)).sum = 0
  | 0 => rfl
  | n + 1 => by
    rw [List.replicate_succ, List.sum_cons, sum_zeros n]
    grind
theorem far_tot {L : Life} {n : Nat} (h : L.row = [] → L.step = 0) : tot (far L n) = tot L := by
  unfold tot far
  show (List.replicate n 0 ++ L.row).sum + lastR ⟨List.replicate n 0 ++ L.row, L.step⟩ * L.step / (1 - L.step) = _
  rw [List.sum_append, sum_zeros, Rat.zero_add]
  congr 1
  by_cases z : L.row = []
  · rw [h z, Rat.mul_zero, Rat.mul_zero]
  · congr 2
    unfold lastR
    rw [List.getLastD_eq_getLast?, List.getLastD_eq_getLast?, List.getLast?_append, List.getLast?_eq_some_getLast z]
    rfl
theorem LOk.far {W s n : Nat} {L : Life} (h : LOk W s L) : LOk W s (Fp.far L n) := by
  refine ⟨h.W0, h.s0, fun x hx => ?_, h.step, h.st0, h.st1, fun z => ?_, by rw [far_tot h.emp]; exact h.tot1⟩
  · rcases List.mem_append.mp hx with q | q
    · rw [List.eq_of_mem_replicate q]
      exact ⟨wh_0, by decide, by decide⟩
    · exact h.row x q
  · exact h.emp (List.append_eq_nil_iff.mp z).2
theorem miss_far {L : Life} {n : Nat} (h : L.row = [] → L.step = 0) : miss (far L n) = miss L := by
  unfold miss
  rw [far_tot h]
theorem q_sum_two {K n e b : Nat} {x y : Rat} {f : Feed} (hx : G K n e x) (hy : G K n e y) (K0 : 0 < K) (hK : K ≤ 2 ^ b) (hb : b * n + e + 6 < 4000) : F_q_sum [.dat (.list [enc x, enc y])] f = .ok (.dat (enc (x + y))) f := by
  have q := q_sum_g (f := f) (xs := [x, y]) (K := K) (n := n) (e := e) (b := b) (fun z hz => by
    rcases List.mem_cons.mp hz with rfl | hz
    · exact hx
    · rw [List.mem_singleton.mp hz]
      exact hy) K0 hK (by simp) hb
  have es : [x, y].sum = x + y := by
    rw [List.sum_cons, List.sum_cons, List.sum_nil]
    grind
  rwa [es] at q
theorem far_data {L : Life} (hl : L.row.length ≤ 7) (h : L.row = [] → L.step = 0) : PyData.tuple [.tuple (List.replicate (12 - L.row.length) (PyData.tuple [.int 0, .int 1]) ++ L.row.map enc), enc L.step] = lifeD (far L (12 - L.row.length)) := by
  unfold lifeD far
  simp [enc0]
end Fp

/-! mathematics: the mean, the share, what stands -/
namespace Fp
open PySem PySem.Spec L2 Dn
@[simp] theorem isNone_enc {x : Rat} : isNone (enc x) = false := nr rfl
@[simp] theorem isNone_none : isNone .none = true := nr rfl
theorem encN {k : Nat} : PyData.tuple [.int (k : Nat), .int 1] = enc (k : Rat) := by
  unfold enc
  rw [Rat.num_natCast, Rat.den_natCast]
  rfl
theorem encN1 {k : Nat} : PyData.tuple [.int ((k : Int) + 1), .int 1] = enc ((k : Rat) + 1) := by
  have := encN (k := k + 1)
  rw [Rat.natCast_add] at this
  exact this
theorem sz_mk {p : Int} {q n : Nat} (hq : 0 < q) (h1 : p.natAbs < 2 ^ n) (h2 : q < 2 ^ n) : Sz n (mkRat p q) := by
  refine ⟨?_, ?_⟩
  · rw [Rat.num_mkRat, if_neg (by omega), Int.natAbs_ediv_of_dvd (Int.ofNat_dvd_left.mpr (Nat.gcd_dvd_right _ _))]
    exact Nat.lt_of_le_of_lt (Nat.div_le_self _ _) h1
  · rw [Rat.den_mkRat, if_neg (by omega)]
    exact Nat.lt_of_le_of_lt (Nat.div_le_self _ _) h2
theorem Sz.mul {a b : Nat} {x y : Rat} (hx : Sz a x) (hy : Sz b y) : Sz (a + b) (x * y) := by
  rw [← mul_eq]
  refine sz_mk (Nat.mul_pos x.den_pos y.den_pos) ?_ ?_
  · rw [Int.natAbs_mul, Nat.pow_add]
    exact Nat.mul_lt_mul_of_lt_of_lt hx.num hy.num
  · rw [Nat.pow_add]
    exact Nat.mul_lt_mul_of_lt_of_lt hx.den hy.den
theorem Sz.add {a b : Nat} {x y : Rat} (hx : Sz a x) (hy : Sz b y) : Sz (a + b + 1) (x + y) := by
  rw [← add_eq]
  have h1 := Nat.mul_lt_mul_of_lt_of_lt hx.num hy.den
  have h2 := Nat.mul_lt_mul_of_lt_of_lt hy.num hx.den
  have h3 := Nat.mul_lt_mul_of_lt_of_lt hx.den hy.den
  have e : 2 ^ (a + b + 1) = 2 ^ a * 2 ^ b + 2 ^ b * 2 ^ a := by
    rw [Nat.pow_succ, Nat.pow_add, Nat.mul_comm (2 ^ b)]
    omega
  refine sz_mk (Nat.mul_pos x.den_pos y.den_pos) ?_ ?_
  · have a1 : (x.num * y.den).natAbs = x.num.natAbs * y.den := by rw [Int.natAbs_mul, Int.natAbs_natCast]
    have a2 : (y.num * x.den).natAbs = y.num.natAbs * x.den := by rw [Int.natAbs_mul, Int.natAbs_natCast]
    have a3 := Int.natAbs_add_le (x.num * y.den) (y.num * x.den)
    omega
  · omega
theorem Sz.neg {a : Nat} {x : Rat} (hx : Sz a x) : Sz a (-x) := ⟨by rw [show (-x).num = -x.num from rfl, Int.natAbs_neg]; exact hx.num, by rw [show (-x).den = x.den from rfl]; exact hx.den⟩
theorem Sz.sub {a b : Nat} {x y : Rat} (hx : Sz a x) (hy : Sz b y) : Sz (a + b + 1) (x - y) := by
  rw [Rat.sub_eq_add_neg]
  exact hx.add hy.neg
theorem szn {k n : Nat} (h : k < 2 ^ n) (hn : 0 < n) : Sz n (k : Rat) := ⟨by rw [Rat.num_natCast, Int.natAbs_natCast]; exact h, by rw [Rat.den_natCast]; exact Nat.one_lt_two_pow (by omega)⟩
theorem inv_g {s : Nat} {x : Rat} (hw : Wh s x) (s0 : 0 < s) (hs : s ≤ 4) (h0 : 0 ≤ x) (h1 : x < 1) : 0 ≤ 1 / (1 - x) ∧ 1 / (1 - x) ≤ 4 := by
  have sp : (0 : Rat) < (s : Rat) := Rat.natCast_pos.mpr s0
  have hn : 0 < 1 - x := by grind
  obtain ⟨i, hi⟩ := hw
  have i1 : (i : Rat) < (s : Rat) := by
    rw [← hi]
    have := Rat.mul_lt_mul_of_pos_right h1 sp
    grind
  rw [← Rat.intCast_natCast] at i1
  have i2 : i < s := Rat.intCast_lt_intCast.mp i1
  have i3 : (i : Rat) + 1 ≤ (s : Rat) := by
    have : ((i + 1 : Int) : Rat) ≤ ((s : Int) : Rat) := Rat.intCast_le_intCast.mpr (by omega)
    rw [Rat.intCast_add, Rat.intCast_natCast] at this
    exact this
  have i4 : 1 ≤ (1 - x) * (s : Rat) := by grind
  have s4 : (s : Rat) ≤ 4 := by
    have : (s : Rat) ≤ ((4 : Nat) : Rat) := Rat.natCast_le_natCast.mpr hs
    exact this
  have iv : 0 ≤ 1 / (1 - x) := by
    rw [Rat.div_def, Rat.one_mul]
    exact Rat.le_of_lt (Rat.inv_pos.mpr hn)
  have e : 1 / (1 - x) * (1 - x) = 1 := by
    have : 1 - x ≠ 0 := by grind
    grind
  refine ⟨iv, ?_⟩
  have a := Rat.mul_le_mul_of_nonneg_left i4 iv
  have b := Rat.mul_le_mul_of_nonneg_left s4 iv
  have c : 1 / (1 - x) * ((1 - x) * (s : Rat)) = (s : Rat) := by
    rw [← Rat.mul_assoc, e, Rat.one_mul]
  grind
theorem inv_num {x : Rat} (h : 0 < x) : Wh x.num.toNat (1 / x) := by
  have hn := num_pos h
  refine ⟨x.den, ?_⟩
  have e : ((x.num.toNat : Nat) : Rat) = (x.num : Rat) := by
    rw [← Rat.intCast_natCast, Int.toNat_of_nonneg (by omega)]
  rw [e, ← mul_den x, Rat.intCast_natCast]
  have : x ≠ 0 := by grind
  grind
/-- the mean of a stretch -/
def meanV (L : Life) : Rat := (rs L.row.length fun k => ((k : Rat) + 1) * ch L (k + 1)) + lastR L * ((L.row.length : Rat) * (L.step / (1 - L.step)) + L.step / (1 - L.step) / (1 - L.step))
section
variable {W s m k N : Nat} {L : Life} {f : Feed}
theorem LOk.row_len (h : LOk W s L) (z : miss L = 0) : 0 < L.row.length := by
  rcases Nat.eq_zero_or_pos L.row.length with e | e
  · have r := List.eq_nil_of_length_eq_zero e
    unfold miss tot lastR at z
    rw [r, h.emp r] at z
    exact absurd z (by decide +kernel)
  · exact e
theorem row_at (h : k < L.row.length) : L.row[k] = ch L (k + 1) := by
  unfold ch
  rw [if_pos (by omega), Nat.add_sub_cancel, List.getD_eq_getElem?_getD, List.getElem?_eq_getElem h]
  rfl
theorem once_g (h : LOk W s L) (hs : s ≤ 4) : G (kk W s 4) 1 2 (L.step / (1 - L.step)) ∧ 0 ≤ L.step / (1 - L.step) ∧ G (kk W s 4) 2 4 (L.step / (1 - L.step) / (1 - L.step)) ∧ 0 ≤ L.step / (1 - L.step) / (1 - L.step) := by
  have iw := inv_wh h.step h.s0 hs h.st0 h.st1
  have ia := inv_g h.step h.s0 hs h.st0 h.st1
  have hn : 1 - L.step ≠ 0 := by have := h.st1; grind
  have e1 : L.step / (1 - L.step) = L.step * (1 / (1 - L.step)) := by grind
  have e2 : L.step / (1 - L.step) / (1 - L.step) = L.step * (1 / (1 - L.step)) * (1 / (1 - L.step)) := by grind
  have d1 : s * 12 ∣ kk W s 4 := by
    rw [Nat.mul_comm]
    exact Nat.mul_dvd_mul_left 12 (Nat.dvd_trans (by rw [Nat.pow_succ]; exact Nat.dvd_mul_left s (s ^ 3)) (Nat.dvd_mul_left _ W))
  have n1 := Rat.mul_nonneg h.st0 ia.1
  have n2 := Rat.mul_nonneg n1 ia.1
  have gi : G (kk W s 4) 1 2 (1 / (1 - L.step)) := ⟨by rw [Nat.pow_one]; exact iw.up (Nat.dvd_mul_right _ _), ⟨by have := ia.1; show -(4 : Rat) ≤ _; grind, ia.2⟩⟩
  have ab : Ab ((2 ^ 2 : Nat) : Rat) (L.step * (1 / (1 - L.step))) := by
    refine ⟨by show -(4 : Rat) ≤ _; grind, ?_⟩
    have a := Rat.mul_le_mul_of_nonneg_right h.st1' ia.1
    rw [Rat.one_mul] at a
    show _ ≤ (4 : Rat)
    grind
  rw [e2, e1]
  have g1 : G (kk W s 4) 1 2 (L.step * (1 / (1 - L.step))) := ⟨by rw [Nat.pow_one]; exact (h.step.mul iw).up d1, ab⟩
  exact ⟨g1, n1, g1.mul gi, n2⟩
theorem gchs (h : LOk W s L) (hl : L.row.length ≤ 40) (hk : k < L.row.length) : G (kk W s 4) 1 0 (ch L (k + 1)) := by
  have b := h.row _ (List.getElem_mem hk)
  rw [← row_at hk]
  exact G.of b.1 (Nat.dvd_trans (Nat.dvd_mul_right _ _) (Nat.dvd_mul_left _ _)) b.2.1 b.2.2
theorem gnat {K n e : Nat} {k : Nat} (h : k ≤ 2 ^ e) : G K n e ((k : Nat) : Rat) := g_nat h
theorem gmean (h : LOk W s L) (hs : s ≤ 4) (hl : L.row.length ≤ 40) : G (kk W s 4) 3 14 (meanV L) := by
  obtain ⟨g1, n1, g2, n2⟩ := once_g h hs
  unfold meanV
  refine G.add ?_ ?_
  · refine (G.rs (l := 6) (n := 1) (e := 6) (fun k hk => ?_) (by omega)).up (by decide) (by decide)
    have a : G (kk W s 4) 0 6 ((k : Rat) + 1) := by
      have := gnat (K := kk W s 4) (n := 0) (e := 6) (k := k + 1) (by omega)
      rwa [Rat.natCast_add] at this
    exact (a.mul (gchs h hl hk)).up (by decide) (by decide)
  · have gl : G (kk W s 4) 1 0 (lastR L) := G.of (lastR_01 h).2.2 (Nat.dvd_trans (Nat.dvd_mul_right _ _) (Nat.dvd_mul_left _ _)) (lastR_01 h).1 (lastR_01 h).2.1
    have gn : G (kk W s 4) 0 6 ((L.row.length : Nat) : Rat) := gnat (by omega)
    exact (gl.mul ((((gn.mul g1).up (show 0 + 1 ≤ 2 by decide) (show 6 + 2 ≤ 8 by decide)).add (g2.up (Nat.le_refl _) (by decide))))).up (by decide) (by decide)
theorem mean_ge (h : LOk W s L) (hs : s ≤ 4) (z : miss L = 0) : 1 ≤ meanV L := by
  obtain ⟨g1, n1, g2, n2⟩ := once_g h hs
  have l0 := h.row_len z
  have t1 : tot L = 1 := by
    unfold miss at z
    grind
  have e0 : L.row.sum = rs L.row.length fun k => ch L (k + 1) := by
    unfold rs
    congr 1
    apply List.ext_getElem
    · simp
    · intro i h1 h2
      rw [List.getElem_map, List.getElem_range, row_at h1]
  have e1 : tot L = (rs L.row.length fun k => ch L (k + 1)) + lastR L * (L.step / (1 - L.step)) := by
    unfold tot
    rw [e0]
    have hn : 1 - L.step ≠ 0 := by have := h.st1; grind
    congr 1
    grind
  have e2 : (rs L.row.length fun k => ((k : Rat) + 1) * ch L (k + 1)) = (rs L.row.length fun k => (k : Rat) * ch L (k + 1)) + rs L.row.length fun k => ch L (k + 1) := by
    rw [← rs_add]
    exact rs_congr fun k _ => by grind
  have n3 := rs_nonneg (n := L.row.length) (g := fun k => (k : Rat) * ch L (k + 1)) fun k _ => Rat.mul_nonneg Rat.natCast_nonneg h.ch0
  have ln : (1 : Rat) ≤ (L.row.length : Rat) := by
    have : ((1 : Nat) : Rat) ≤ (L.row.length : Rat) := Rat.natCast_le_natCast.mpr l0
    exact this
  have n4 := Rat.mul_nonneg (show 0 ≤ (L.row.length : Rat) - 1 by grind) n1
  have n5 := Rat.mul_nonneg (lastR_01 h).1 (show 0 ≤ ((L.row.length : Rat) - 1) * (L.step / (1 - L.step)) + L.step / (1 - L.step) / (1 - L.step) by grind)
  unfold meanV
  rw [e2]
  generalize L.step / (1 - L.step) = o at *
  generalize o / (1 - L.step) = t at *
  grind
theorem behind_row_q (h : LOk W s L) (hW : W ≤ 12800) (hs : s ≤ 4) (hl : L.row.length ≤ 40) : F_behind_row [.dat (lifeD L), .dat (.int 1)] f = .ok (.dat (enc (lastR L * ((L.row.length : Rat) * (L.step / (1 - L.step)) + L.step / (1 - L.step) / (1 - L.step))))) f := by
  obtain ⟨g1, n1, g2, n2⟩ := once_g h hs
  have K := kk_le (m := 4) hW hs
  apply ev_is
  rw [u_behind_row, ev_dEnd]
  unfold S_behind_row
  (rw [e_seq, ev_bind]; simp [-e_seq, -Int.natCast_add, -Int.natCast_mul, lifeD])
  (rw [e_seq, ev_bind]; simp [-e_seq, -Int.natCast_add, -Int.natCast_mul, eq_enc0, ev_ite])
  refine ⟨fun z => ?_, fun z => ?_⟩
  · rw [z]
    have : lastR L * ((L.row.length : Rat) * (0 / (1 - 0)) + 0 / (1 - 0) / (1 - 0)) = 0 := by grind
    rw [this]
    rfl
  have hr : L.row ≠ [] := fun y => z (h.emp y)
  have al : atI (L.row.map enc) (-1) = some (enc (lastR L)) := atI_last (x := 0) hr
  have gs : G (kk W s 4) 1 0 L.step := G.of h.step (Nat.dvd_trans (Nat.dvd_trans (Nat.dvd_mul_left s (s ^ 3)) (by rw [← Nat.pow_succ]; exact Nat.dvd_mul_left _ W)) (Nat.dvd_mul_left _ _)) h.st0 h.st1'
  have hn : 0 < 1 - L.step := by have := h.st1; grind
  have gn : G (kk W s 4) 1 1 (1 - L.step) := (g_1 (n := 1)).sub gs
  have t2 := minus_q (f := f) sz_1 (gs.sz h.k0 K (by decide))
  rw [enc1] at t2
  have t3 := over_q (f := f) (gs.sz h.k0 K (by decide)) (gn.sz h.k0 K (by decide)) hn
  have t4 := over_q (f := f) (g1.sz h.k0 K (by decide)) (gn.sz h.k0 K (by decide)) hn
  have gl : G (kk W s 4) 1 0 (lastR L) := G.of (lastR_01 h).2.2 (Nat.dvd_trans (Nat.dvd_mul_right _ _) (Nat.dvd_mul_left _ _)) (lastR_01 h).1 (lastR_01 h).2.1
  have gN : G (kk W s 4) 0 6 ((L.row.length : Nat) : Rat) := gnat (by omega)
  have t5 := times_q (f := f) (gN.sz h.k0 K (by decide)) (g1.sz h.k0 K (by decide)) (Nat.le_refl _)
  have g5 := (gN.mul g1).up (show 0 + 1 ≤ 2 by decide) (show 6 + 2 ≤ 8 by decide)
  have t6 := plus_q (f := f) (g5.sz h.k0 K (by decide)) (g2.sz h.k0 K (by decide)) (Nat.le_refl _)
  have t7 := times_q (f := f) (gl.sz h.k0 K (by decide)) ((g5.add (g2.up (Nat.le_refl _) (by decide))).sz h.k0 K (by decide)) (Nat.le_refl _)
  have eN := encN (k := L.row.length)
  (rw [e_seq, ev_bind]; simp [-e_seq, -Int.natCast_add, -Int.natCast_mul])
  rw [eN]
  (rw [e_seq, ev_bind]; simp [-e_seq, -Int.natCast_add, -Int.natCast_mul, t2])
  (rw [e_seq, ev_bind]; simp [-e_seq, -Int.natCast_add, -Int.natCast_mul, t3])
  (rw [e_seq, ev_bind]; simp [-e_seq, -Int.natCast_add, -Int.natCast_mul, t4])
  (rw [e_seq, ev_bind]; simp [-e_seq, -Int.natCast_add, -Int.natCast_mul, al, t5, t6, t7])
theorem mean_none (h : LOk W s L) (hW : W ≤ 12800) (hs : s ≤ 4) (hl : L.row.length ≤ 40) (z : miss L ≠ 0) : F_mean [.dat (lifeD L)] f = .ok (.dat .none) f := by
  have m1 := miss_q (f := f) h hW hs (by omega)
  apply ev_is
  rw [u_mean, ev_dEnd]
  unfold S_mean
  (rw [e_seq, ev_bind]; simp [-e_seq, -Int.natCast_add, -Int.natCast_mul, m1, ne_enc0, z])
theorem mean_q (h : LOk W s L) (hW : W ≤ 12800) (hs : s ≤ 4) (hl : L.row.length ≤ 40) (z : miss L = 0) : F_mean [.dat (lifeD L)] f = .ok (.dat (enc (meanV L))) f := by
  have K := kk_le (m := 4) hW hs
  have m1 := miss_q (f := f) h hW hs (by omega)
  have b1 := behind_row_q (f := f) h hW hs hl
  obtain ⟨g1, n1, g2, n2⟩ := once_g h hs
  have pd : pairsD (L.row.map enc) = (List.range L.row.length).map fun (i : Nat) => .tuple [.int (i : Nat), enc (ch L (i + 1))] := by
    rw [pairsD_range2 _ (fun i => enc (ch L (i + 1))) fun i hi => by rw [List.getElem_map, row_at (by simpa using hi)]]
    simp
  have ga : ∀ k, k < L.row.length → G (kk W s 4) 0 6 ((k : Rat) + 1) := fun k hk => by
    have := gnat (K := kk W s 4) (n := 0) (e := 6) (k := k + 1) (by omega)
    rwa [Rat.natCast_add] at this
  have lc : lcN (.many [2, 3]) cYes (cCall F_times [cTup [cBin oAdd (cVar 2) (cC (.int 1)), cC (.int 1)], cVar 3]) [.dat (lifeD L), .emp, .emp, .emp] ((List.range L.row.length).map fun (i : Nat) => .tuple [.int (i : Nat), enc (ch L (i + 1))]) [] f = .ok ((List.range L.row.length).map fun (k : Nat) => enc (((k : Rat) + 1) * ch L (k + 1))) f := by
    refine lc_map (by rw [List.length_range]; omega) fun k hk => ⟨_, put_two, ?_⟩
    have hk2 := List.mem_range.mp hk
    have q := times_q (f := f) ((ga k hk2).sz h.k0 K (by decide)) ((gchs h hl hk2).sz h.k0 K (by decide)) (Nat.le_refl _)
    simp [encN1, q]
  have gk : ∀ k, k < L.row.length → G (kk W s 4) 1 6 (((k : Rat) + 1) * ch L (k + 1)) := fun k hk => ((ga k hk).mul (gchs h hl hk)).up (by decide) (by decide)
  have sm := summed_r (f := f) gk h.k0 K (by omega) (by decide)
  have gl : G (kk W s 4) 1 0 (lastR L) := G.of (lastR_01 h).2.2 (Nat.dvd_trans (Nat.dvd_mul_right _ _) (Nat.dvd_mul_left _ _)) (lastR_01 h).1 (lastR_01 h).2.1
  have gN : G (kk W s 4) 0 6 ((L.row.length : Nat) : Rat) := gnat (by omega)
  have gb := gl.mul (((gN.mul g1).up (show 0 + 1 ≤ 2 by decide) (show 6 + 2 ≤ 8 by decide)).add (g2.up (Nat.le_refl _) (by decide)))
  have p := plus_q (f := f) ((G.rs (l := 6) gk (by omega)).sz h.k0 K (by decide)) (gb.sz h.k0 K (by decide)) (Nat.le_refl _)
  apply ev_is
  rw [u_mean, ev_dEnd]
  unfold S_mean
  (rw [e_seq, ev_bind]; simp [-e_seq, -Int.natCast_add, -Int.natCast_mul, m1, ne_enc0, z])
  (rw [e_seq, ev_bind]; simp [-e_seq, -Int.natCast_add, -Int.natCast_mul, pd, lc, sm])
  simp [b1, p]
  rfl
def shareV (L : Life) : Rat := 1 / meanV L
theorem share_none (h : LOk W s L) (hW : W ≤ 12800) (hs : s ≤ 4) (hl : L.row.length ≤ 40) (z : miss L ≠ 0) : F_share [.dat (lifeD L)] f = .ok (.dat (enc 0)) f := by
  have m1 := mean_none (f := f) h hW hs hl z
  apply ev_is
  rw [u_share, ev_dEnd]
  unfold S_share
  (rw [e_seq, ev_bind]; simp [-e_seq, -Int.natCast_add, -Int.natCast_mul, m1])
  (rw [e_seq, ev_bind]; simp [-e_seq, -Int.natCast_add, -Int.natCast_mul])
  rfl
theorem share_q (h : LOk W s L) (hW : W ≤ 12800) (hs : s ≤ 4) (hl : L.row.length ≤ 40) (z : miss L = 0) : F_share [.dat (lifeD L)] f = .ok (.dat (enc (shareV L))) f := by
  have K := kk_le (m := 4) hW hs
  have m1 := mean_q (f := f) h hW hs hl z
  have m2 := mean_ge h hs z
  have gm := gmean h hs hl
  have o := over_q (f := f) sz_1 (gm.sz h.k0 K (by decide)) (by grind)
  rw [enc1] at o
  apply ev_is
  rw [u_share, ev_dEnd]
  unfold S_share
  (rw [e_seq, ev_bind]; simp [-e_seq, -Int.natCast_add, -Int.natCast_mul, m1])
  (rw [e_seq, ev_bind]; simp [-e_seq, -Int.natCast_add, -Int.natCast_mul, isNone_enc])
  simp [o]
  rfl
end
end Fp

/-! mathematics: the short life -/
namespace Fp
open PySem PySem.Spec L2 Dn
/-- of a row from its end: noughts out -/
def tz : List Rat → List Rat
  | [] => []
  | x :: r => if x = 0 then tz r else x :: r
/-- .. chances that go on by the step out -/
def ts (st : Rat) : List Rat → List Rat
  | [] => []
  | x :: r => match r with
    | [] => [x]
    | y :: r2 => if y * st = x then ts st (y :: r2) else x :: y :: r2
theorem ts_two (st x y : Rat) (r : List Rat) : ts st (x :: y :: r) = if y * st = x then ts st (y :: r) else x :: y :: r := by
  rw [ts]
theorem ts_one (st x : Rat) : ts st [x] = [x] := by
  rw [ts]
def shortR (r : List Rat) (st : Rat) : Life := if r.head? = some 0 ∨ st = 0 then ⟨(tz r).reverse, 0⟩ else ⟨(ts st r).reverse, st⟩
def shortL (L : Life) : Life := shortR L.row.reverse L.step
theorem tz_zeros (r : List Rat) : ∀ n, tz (List.replicate n 0 ++ r) = tz r
  | 0 => rfl
  | n + 1 => by
    rw [List.replicate_succ, List.cons_append, tz, if_pos rfl, tz_zeros r n]
theorem tz_split : ∀ r : List Rat, ∃ n, r = List.replicate n 0 ++ tz r
  | [] => ⟨0, rfl⟩
  | x :: r => by
    by_cases q : x = 0
    · obtain ⟨n, e⟩ := tz_split r
      refine ⟨n + 1, ?_⟩
      rw [tz, if_pos q, q, List.replicate_succ, List.cons_append, ← e]
    · refine ⟨0, ?_⟩
      rw [tz, if_neg q]
      rfl
theorem tz_head : ∀ r : List Rat, (tz r).head? ≠ some 0
  | [] => by
    rw [tz]
    simp
  | x :: r => by
    by_cases q : x = 0
    · rw [tz, if_pos q]
      exact tz_head r
    · rw [tz, if_neg q, List.head?_cons]
      simpa using q
theorem tz_id {r : List Rat} (h : r.head? ≠ some 0) : tz r = r := by
  cases r with
  | nil => rfl
  | cons x r =>
    rw [tz, if_neg (by simpa using h)]
theorem ts_id : ∀ (st : Rat) (r : List Rat), ts st (ts st r) = ts st r
  | st, [] => by rw [ts, ts]
  | st, [x] => by rw [ts_one, ts_one]
  | st, x :: y :: r => by
    by_cases q : y * st = x
    · rw [ts_two, if_pos q]
      exact ts_id st (y :: r)
    · rw [ts_two, if_neg q, ts_two, if_neg q]
theorem ts_head : ∀ (st : Rat) (r : List Rat), st ≠ 0 → r.head? ≠ some 0 → (ts st r).head? ≠ some 0
  | st, [], _, h => by
    rw [ts]
    exact h
  | st, [x], _, h => by
    rw [ts_one]
    exact h
  | st, x :: y :: r, hs, h => by
    by_cases q : y * st = x
    · rw [ts_two, if_pos q]
      refine ts_head st (y :: r) hs ?_
      intro z
      have : y = 0 := by simpa using z
      apply h
      rw [List.head?_cons, ← q, this, Rat.zero_mul]
    · rw [ts_two, if_neg q]
      exact h
/-- a short life is short -/
theorem short_short (L : Life) : shortL (shortL L) = shortL L := by
  unfold shortL shortR
  by_cases q : L.row.reverse.head? = some 0 ∨ L.step = 0
  · rw [if_pos q]
    show (if (tz L.row.reverse).reverse.reverse.head? = some 0 ∨ (0 : Rat) = 0 then _ else _) = _
    rw [if_pos (.inr rfl), List.reverse_reverse, tz_id (tz_head _)]
  · rw [if_neg q]
    have q2 : L.step ≠ 0 := fun z => q (.inr z)
    have q1 : L.row.reverse.head? ≠ some 0 := fun z => q (.inl z)
    show (if (ts L.step L.row.reverse).reverse.reverse.head? = some 0 ∨ L.step = 0 then _ else _) = _
    rw [List.reverse_reverse, if_neg (by
      rintro (z | z)
      · exact ts_head _ _ q2 q1 z
      · exact q2 z), ts_id]
theorem cutD_last {ds : List PyData} : cutD ds none (some (-1)) = ds.dropLast := by
  unfold cutD
  have e : HT.sIx ds.length ds.length (some (-1)) = ds.length - 1 := by
    unfold HT.sIx
    simp only
    split
    · omega
    · omega
  rw [HT.sIx_none, e, List.dropLast_eq_take]
  simp
/-- a row from its end, as data -/
def rd (r : List Rat) : List PyData := r.reverse.map enc
theorem rd_len {r : List Rat} : (rd r).length = r.length := by simp [rd]
theorem rd_nil : rd [] = [] := rfl
theorem cut_rd {x : Rat} {r : List Rat} : cutD (rd (x :: r)) none (some (-1)) = rd r := by
  rw [cutD_last]
  unfold rd
  rw [List.reverse_cons, List.map_append, List.map_cons, List.map_nil, List.dropLast_concat]
theorem at_rd {x : Rat} {r : List Rat} : atI (rd (x :: r)) (-1) = some (enc x) := by
  unfold rd
  rw [List.reverse_cons, List.map_append, List.map_cons, List.map_nil]
  exact L2.atI_last _ _
theorem at_rd2 {x y : Rat} {r : List Rat} : atI (rd (x :: y :: r)) (-2) = some (enc y) := by
  unfold rd
  rw [List.reverse_cons, List.reverse_cons, List.map_append, List.map_append]
  unfold atI
  have e : ixN (((r.reverse.map enc) ++ [y].map enc) ++ [x].map enc).length (-2) = some r.length := by
    unfold ixN
    simp
    omega
  rw [e]
  simp
theorem life_rd (L : Life) : lifeD L = .tuple [.tuple (rd L.row.reverse), enc L.step] := by
  unfold lifeD rd
  rw [List.reverse_reverse]
theorem mk_rd (r : List Rat) (st : Rat) : PyData.tuple [.tuple (rd r), enc st] = lifeD ⟨r.reverse, st⟩ := rfl
/-- what a life's numbers are: short -/
def Plain (L : Life) : Prop := (∀ x ∈ L.row, Sz 400 x) ∧ Sz 400 L.step
theorem LOk.plain {W s : Nat} {L : Life} (h : LOk W s L) (hW : W ≤ 2 ^ 90) (hs : s ≤ 4) : Plain L :=
  ⟨fun x hx => ab_sz (B := 1) h.W0 (h.row x hx).1 (ab_01 (h.row x hx).2.1 (h.row x hx).2.2) (by decide) (Nat.lt_of_le_of_lt (Nat.mul_le_mul_left 1 hW) (by decide)), ab_sz (B := 1) h.s0 h.step (ab_01 h.st0 h.st1') (by decide) (Nat.lt_of_le_of_lt (Nat.mul_le_mul_left 1 hs) (by decide))⟩
section
variable {L : Life} {f : Feed}
theorem short_q (h : Plain L) : F_short [.dat (lifeD L)] f = .ok (.dat (lifeD (shortL L))) f := by
  have hr : ∀ x ∈ L.row.reverse, Sz 400 x := fun x hx => h.1 x (List.mem_reverse.mp hx)
  have hst := h.2
  apply ev_is
  rw [u_short, ev_dEnd, life_rd L]
  unfold S_short shortL shortR
  generalize L.row.reverse = r at *
  generalize L.step = st at *
  (rw [e_seq, ev_bind]; simp [-e_seq, -Int.natCast_add, -Int.natCast_mul])
  refine ev_step (fun ρ g => g = f ∧ ∃ (r2 : List Rat) (s2 : Rat), ρ = [.dat (.tuple [.tuple (rd r), enc st]), .dat (.tuple (rd r2)), .dat (enc s2)] ∧ tz r2 = tz r ∧ r2.head? ≠ some 0 ∧ ((r2 = r ∧ s2 = st) ∨ (s2 = 0 ∧ r.head? = some 0))) ?_ ?_
  · refine ev_while (I := fun n ρ g => g = f ∧ ∃ (r2 : List Rat) (s2 : Rat), n = r2.length ∧ ρ = [.dat (.tuple [.tuple (rd r), enc st]), .dat (.tuple (rd r2)), .dat (enc s2)] ∧ tz r2 = tz r ∧ ((r2 = r ∧ s2 = st) ∨ (s2 = 0 ∧ r.head? = some 0))) (n := r.length) ?_ ⟨rfl, r, st, rfl, rfl, rfl, .inl ⟨rfl, rfl⟩⟩
    rintro n ρ g ⟨rfl, r2, s2, rfl, rfl, e1, e2⟩
    cases r2 with
    | nil =>
      simp [rd_len]
      exact ⟨[], s2, ⟨rfl, rfl⟩, e1, by simp, e2⟩
    | cons x r2 =>
      have lp : (0 : Int) < (r2.length : Int) + 1 := by omega
      by_cases z : x = 0
      · subst z
        simp [lp, rd_len, at_rd, eq_enc0, cut_rd]
        refine ⟨r2.length, by omega, r2, rfl, 0, ⟨rfl, rfl⟩, ?_, .inr ⟨rfl, ?_⟩⟩
        · rw [← e1, tz, if_pos rfl]
        · rcases e2 with ⟨e2, _⟩ | ⟨_, e2⟩
          · rw [← e2, List.head?_cons]
          · exact e2
      · simp [lp, rd_len, at_rd, eq_enc0, z]
        exact ⟨x :: r2, s2, ⟨rfl, rfl⟩, e1, by simpa using z, e2⟩
  rintro _ g ⟨rfl, r2, s2, rfl, e1, e2, e3⟩
  (rw [e_seq, ev_bind]; simp [-e_seq, -Int.natCast_add, -Int.natCast_mul, eq_enc0, ev_ite])
  refine ⟨fun z => ?_, fun z => ?_⟩
  · subst z
    have c : r.head? = some 0 ∨ st = 0 := by
      rcases e3 with ⟨_, e⟩ | ⟨_, e⟩
      · exact .inr e.symm
      · exact .inl e
    rw [if_pos c, mk_rd, ← e1, tz_id e2]
  · rcases e3 with ⟨rfl, rfl⟩ | ⟨e, _⟩
    · rw [if_neg (by rintro (q | q); exact e2 q; exact z q)]
      refine ev_step (fun ρ g' => g' = g ∧ ∃ (r3 : List Rat), ρ = [.dat (.tuple [.tuple (rd r2), enc s2]), .dat (.tuple (rd r3)), .dat (enc s2)] ∧ r3 = ts s2 r2) ?_ ?_
      · refine ev_while (I := fun n ρ g' => g' = g ∧ ∃ (r3 : List Rat), n = r3.length ∧ ρ = [.dat (.tuple [.tuple (rd r2), enc s2]), .dat (.tuple (rd r3)), .dat (enc s2)] ∧ ts s2 r3 = ts s2 r2 ∧ ∀ x ∈ r3, Sz 400 x) (n := r2.length) ?_ ⟨rfl, r2, rfl, rfl, rfl, hr⟩
        rintro n ρ g ⟨rfl, r3, rfl, rfl, e4, e5⟩
        match r3 with
        | [] =>
          simp [rd_len]
          rw [← e4, ts]
        | [x] =>
          simp [rd_len]
          rw [← e4, ts_one]
        | x :: y :: r4 =>
          have lp : (1 : Int) < (r4.length : Int) + 1 + 1 := by omega
          have t1 := times_q (f := g) ((e5 y (by simp)).up (n := 4000) (by decide)) (hst.up (by decide)) (Nat.le_refl _)
          by_cases q : y * s2 = x
          · simp [lp, rd_len, at_rd, at_rd2, t1, eq_enc, q, cut_rd]
            refine ⟨(y :: r4).length, by simp, y :: r4, rfl, rfl, ?_, fun x hx => e5 x (List.mem_cons_of_mem _ hx)⟩
            rw [← e4, ts_two, if_pos q]
          · simp [lp, rd_len, at_rd, at_rd2, t1, eq_enc, q]
            rw [← e4, ts_two, if_neg q]
      rintro _ g ⟨rfl, r3, rfl, rfl⟩
      simp [mk_rd]
    · exact absurd e z
/-- the places of what is not nought -/
theorem places (r : List Rat) : ((List.range r.length).filter fun k => decide (r.reverse.getD k 0 ≠ 0)) = [] ∧ tz r = [] ∨ ∃ n ns, ((List.range r.length).filter fun k => decide (r.reverse.getD k 0 ≠ 0)) = n :: ns ∧ ∃ m, m ∈ n :: ns ∧ (∀ x ∈ n :: ns, x ≤ m) ∧ (tz r).length = m + 1 := by
  obtain ⟨z, e⟩ := tz_split r
  have hl : r.length = z + (tz r).length := by
    have := congrArg List.length e
    simpa using this
  have ge : ∀ k, (tz r).length ≤ k → r.reverse.getD k 0 = 0 := fun k hk => by
    have e2 : r.reverse = (tz r).reverse ++ List.replicate z 0 := by
      conv => lhs; rw [e]
      rw [List.reverse_append, List.reverse_replicate]
    rw [e2, List.getD_eq_getElem?_getD, List.getElem?_append_right (by simpa using hk)]
    by_cases q : k - (tz r).reverse.length < z
    · rw [List.getElem?_replicate, if_pos q]
      rfl
    · rw [List.getElem?_eq_none (by simp at q ⊢; omega)]
      rfl
  cases ht : tz r with
  | nil =>
    left
    refine ⟨?_, rfl⟩
    rw [List.filter_eq_nil_iff]
    intro k hk
    have := ge k (by rw [ht]; exact Nat.zero_le _)
    rw [this]
    simp
  | cons x t =>
    right
    have hx : x ≠ 0 := by
      have := tz_head r
      rw [ht] at this
      simpa using this
    have ht2 : r.reverse.getD t.length 0 = x := by
      have e2 : r.reverse = (tz r).reverse ++ List.replicate z 0 := by
        conv => lhs; rw [e]
        rw [List.reverse_append, List.reverse_replicate]
      rw [e2, ht, List.getD_eq_getElem?_getD, List.getElem?_append_left (by simp), List.reverse_cons, List.getElem?_append_right (by simp)]
      simp
    have mem : t.length ∈ ((List.range r.length).filter fun k => decide (r.reverse.getD k 0 ≠ 0)) := by
      rw [List.mem_filter, List.mem_range]
      refine ⟨by rw [hl, ht, List.length_cons]; omega, ?_⟩
      rw [ht2]
      exact decide_eq_true hx
    cases hf : ((List.range r.length).filter fun k => decide (r.reverse.getD k 0 ≠ 0)) with
    | nil =>
      rw [hf] at mem
      cases mem
    | cons n ns =>
      refine ⟨n, ns, rfl, t.length, by rw [← hf]; exact mem, fun k hk => ?_, by rw [List.length_cons]⟩
      rw [← hf] at hk
      have h2 := (List.mem_filter.mp hk).2
      rcases Nat.lt_or_ge t.length k with q | q
      · have := ge k (by rw [ht, List.length_cons]; omega)
        rw [this] at h2
        simp at h2
      · exact q
theorem foldl_max_nat {n m : Nat} {ns : List Nat} (h1 : m ∈ n :: ns) (h2 : ∀ x ∈ n :: ns, x ≤ m) : (ns.map fun (k : Nat) => (k : Int)).foldl max (n : Int) = (m : Int) := by
  have a : (m : Int) ≤ (ns.map fun (k : Nat) => (k : Int)).foldl max (n : Int) := by
    rcases List.mem_cons.mp h1 with e | e
    · rw [e]
      exact (foldl_max_le (a := 0)).1
    · exact foldl_max_le.2 (List.mem_map.mpr ⟨m, e, rfl⟩)
  have b := foldl_max_mem (ns := ns.map fun (k : Nat) => (k : Int)) (n := (n : Int))
  have c : (ns.map fun (k : Nat) => (k : Int)).foldl max (n : Int) ≤ (m : Int) := by
    rcases List.mem_cons.mp b with e | e
    · rw [e]
      have := h2 n List.mem_cons_self
      omega
    · obtain ⟨k, hk, e⟩ := List.mem_map.mp e
      rw [← e]
      have := h2 k (List.mem_cons_of_mem _ hk)
      omega
  omega
theorem rd_get {r : List Rat} {k : Nat} (h : k < r.length) : (rd r)[k]? = some (enc (r.reverse.getD k 0)) := by
  unfold rd
  rw [List.getElem?_map, List.getD_eq_getElem?_getD, List.getElem?_eq_getElem (by simpa using h)]
  rfl
theorem rd_take {r : List Rat} {n : Nat} : (rd r).take n = (r.reverse.take n).map enc := by
  unfold rd
  rw [List.map_take]
theorem ne_rd_nil {r : List Rat} : oNe (.tuple (rd r)) (.tuple []) = some (.dat (.bool (!decide (r = [])))) := by
  have := ne_encs_nil (xs := r.reverse)
  rw [show (decide (r.reverse = [])) = decide (r = []) by
    cases r with
    | nil => rfl
    | cons x r => simp] at this
  exact this
theorem ne_ints_nil {n : Nat} {ns : List Nat} : oNe (.list ((n :: ns).map fun (k : Nat) => PyData.int (k : Nat))) (.list []) = some (.dat (.bool true)) := by
  have e : ((n :: ns).map fun (k : Nat) => PyData.int (k : Nat)) = ((n :: ns).map fun (k : Nat) => (k : Int)).map .int := by rw [List.map_map]; rfl
  rw [e, oNe_of shaped_list_ints shaped_list_nil]
  simp [PyData.eqv, PyData.eqvAll]
theorem maxL_ints {n : Nat} {ns : List Nat} : oMaxL (.list ((n :: ns).map fun (k : Nat) => PyData.int (k : Nat))) = some (.dat (.int ((ns.map fun (k : Nat) => (k : Int)).foldl max (n : Int)))) := by
  have e : ((n :: ns).map fun (k : Nat) => PyData.int (k : Nat)) = ((n : Int) :: ns.map fun (k : Nat) => (k : Int)).map .int := by
    rw [List.map_cons, List.map_cons, List.map_map]
    rfl
  unfold oMaxL
  rw [e]
  simp only [intsOf_ints]
theorem rev_at {pre t : List Rat} {x : Rat} : (pre ++ x :: t).reverse.getD t.length 0 = x := by
  rw [List.reverse_append, List.reverse_cons, List.getD_eq_getElem?_getD, List.getElem?_append_left (by simp), List.getElem?_append_right (by simp)]
  simp
theorem q_short_q (h : Plain L) (hl : L.row.length ≤ 1000) : F_q_short [.dat (lifeD L)] f = .ok (.dat (lifeD (shortL L))) f := by
  have hr : ∀ x ∈ L.row.reverse, Sz 400 x := fun x hx => h.1 x (List.mem_reverse.mp hx)
  have hst := h.2
  have hl2 : L.row.reverse.length ≤ 1000 := by
    rw [List.length_reverse]
    exact hl
  apply ev_is
  rw [u_q_short, ev_dEnd, life_rd L]
  unfold S_q_short shortL shortR
  generalize L.row.reverse = r at *
  generalize L.step = st at *
  (rw [e_seq, ev_bind]; simp [-e_seq, -Int.natCast_add, -Int.natCast_mul])
  refine ev_step (fun ρ g => g = f ∧ ρ = [.dat (.tuple [.tuple (rd r), enc st]), .dat (.tuple (rd r)), .dat (enc (if r.head? = some 0 then 0 else st)), .emp, .emp, .emp]) ?_ ?_
  · cases r with
    | nil => simp [ne_rd_nil]
    | cons x r =>
      by_cases z : x = 0
      · subst z
        simp [ne_rd_nil, at_rd, eq_enc0]
        rfl
      · simp [ne_rd_nil, at_rd, eq_enc0, z]
  rintro _ g ⟨rfl, rfl⟩
  by_cases c : r.head? = some 0 ∨ st = 0
  · have e0 : (if r.head? = some 0 then (0 : Rat) else st) = 0 := by
      rcases c with c | c
      · rw [if_pos c]
      · rw [c, ite_self]
    rw [e0, if_pos c]
    have lc : lcN (.one 5) (cT (cBin oNe (cBin oIx (cVar 1) (cVar 5)) (cTup [cC (.int 0), cC (.int 1)]))) (cVar 5) [.dat (.tuple [.tuple (rd r), enc st]), .dat (.tuple (rd r)), .dat (enc 0), .emp, .emp, .emp] (rangeD 0 r.length) [] g = .ok (((List.range r.length).filter fun k => decide (r.reverse.getD k 0 ≠ 0)).map fun (k : Nat) => .int (k : Nat)) g := by
      rw [range0]
      refine lc_pure (by rw [List.length_range]; omega) fun k hk => ⟨_, rfl, ?_, fun _ => ?_⟩
      · have a := rd_get (List.mem_range.mp hk)
        simp only [List.set_cons_succ, List.set_cons_zero, e_T, e_Bin, e_V, e_C, e_Tup, e_Args_cons, e_Args_nil, List.getElem?_cons_succ, List.getElem?_cons_zero, pk_ok_dat, dt_ok_dat, e_ix_tuple, Dn.atI_nat, a, Option.map_some, give_some, bind_ok]
        simp [ne_enc0]
      · simp
    have pl := places r
    have sm : smallI (r.length : Int) = true := smallI_ok (by omega) (by omega)
    generalize ((List.range r.length).filter fun k => decide (r.reverse.getD k 0 ≠ 0)) = ks at *
    (rw [e_seq, ev_bind]; simp [-e_seq, -Int.natCast_add, -Int.natCast_mul, eq_enc0])
    (rw [e_seq, ev_bind]; simp [-e_seq, -Int.natCast_add, -Int.natCast_mul, rd_len, sm, lc])
    rcases pl with ⟨rfl, e1⟩ | ⟨n, ns, rfl, m, hm1, hm2, e1⟩
    · have nn : oNe (.list []) (.list []) = some (.dat (.bool false)) := ne_nil2
      simp [nn, e1]
      rfl
    · have e2 := foldl_max_nat hm1 hm2
      have e3 : cutD (rd r) none (some ((m : Int) + 1)) = rd (tz r) := by
        rw [show ((m : Int) + 1) = ((m + 1 : Nat) : Int) by omega, cutD_take, rd_take]
        refine congrArg (List.map enc) ?_
        obtain ⟨z, e⟩ := tz_split r
        have e5 : r.reverse = (tz r).reverse ++ List.replicate z 0 := by
          conv => lhs; rw [e]
          rw [List.reverse_append, List.reverse_replicate]
        rw [e5, List.take_append_of_le_length (by simp [e1]), List.take_of_length_le (by simp [e1])]
      have nn := ne_ints_nil (n := n) (ns := ns)
      have mm := maxL_ints (n := n) (ns := ns)
      rw [e2] at mm
      generalize ((n :: ns).map fun (k : Nat) => PyData.int (k : Nat)) = kd at *
      (rw [e_seq, ev_bind]; simp [-e_seq, -Int.natCast_add, -Int.natCast_mul])
      simp [nn, mm, e3, mk_rd]
  · have c1 : r.head? ≠ some 0 := fun q => c (.inl q)
    have c2 : st ≠ 0 := fun q => c (.inr q)
    rw [if_neg c1, if_neg c]
    (rw [e_seq, ev_bind]; simp [-e_seq, -Int.natCast_add, -Int.natCast_mul, eq_enc0, c2])
    (rw [e_seq, ev_bind]; simp [-e_seq, -Int.natCast_add, -Int.natCast_mul, rd_len])
    refine ev_step (fun ρ g' => g' = g ∧ ∃ (pre : List Rat), pre ++ ts st r = r ∧ ρ = [.dat (.tuple [.tuple (rd r), enc st]), .dat (.tuple (rd r)), .dat (enc st), .emp, .dat (.int (((ts st r).length : Int) - 1)), .emp]) ?_ ?_
    · refine ev_while (I := fun n ρ g' => g' = g ∧ ∃ (pre r3 : List Rat), n = r3.length ∧ pre ++ r3 = r ∧ ρ = [.dat (.tuple [.tuple (rd r), enc st]), .dat (.tuple (rd r)), .dat (enc st), .emp, .dat (.int ((r3.length : Int) - 1)), .emp] ∧ ts st r3 = ts st r) (n := r.length) ?_ ⟨rfl, [], r, rfl, rfl, rfl, rfl⟩
      rintro n ρ g ⟨rfl, pre, r3, rfl, ep, rfl, e4⟩
      match r3 with
      | [] =>
        have e5 : ts st r = [] := by rw [← e4, ts]
        rw [e5]
        simp
      | [x] =>
        have e5 : ts st r = [x] := by rw [← e4, ts_one]
        rw [e5]
        simp
        exact ⟨pre, ep⟩
      | x :: y :: r4 =>
        have lp : (0 : Int) < (((x :: y :: r4).length : Nat) : Int) - 1 := by
          rw [List.length_cons, List.length_cons]
          omega
        have gx : (rd r)[r4.length + 1]? = some (enc x) := by
          rw [rd_get (by rw [← ep]; simp; omega), ← ep, show r4.length + 1 = (y :: r4).length from rfl, rev_at]
        have gy : (rd r)[r4.length]? = some (enc y) := by
          rw [rd_get (by rw [← ep]; simp; omega), ← ep, show pre ++ x :: y :: r4 = (pre ++ [x]) ++ y :: r4 by simp, rev_at]
        have i1 : (((x :: y :: r4).length : Nat) : Int) - 1 = ((r4.length + 1 : Nat) : Int) := by
          rw [List.length_cons, List.length_cons]
          omega
        have i2 : ((r4.length + 1 : Nat) : Int) - 1 = (r4.length : Int) := by omega
        have i3 : (((y :: r4).length : Nat) : Int) - 1 = (r4.length : Int) := by
          rw [List.length_cons]
          omega
        have sy : Sz 400 y := hr y (by rw [← ep]; simp)
        have t1 := q_times_q (f := g) (sy.up (n := 4000) (by decide)) (hst.up (by decide)) (Nat.le_refl _)
        rw [i1] at lp ⊢
        by_cases q : y * st = x
        · simp [-Int.natCast_add, lp, i2, gx, gy, t1, eq_enc, q]
          refine ⟨(y :: r4).length, by simp, pre ++ [x], y :: r4, rfl, by rw [← ep]; simp, by rw [i3], ?_⟩
          rw [← e4, ts_two, if_pos q]
        · have e5 : ts st r = x :: y :: r4 := by rw [← e4, ts_two, if_neg q]
          rw [e5, i1]
          simp [-Int.natCast_add, lp, i2, gx, gy, t1, eq_enc, q]
          exact ⟨pre, ep⟩
    rintro _ g ⟨rfl, pre, ep, rfl⟩
    have e3 : cutD (rd r) none (some ((ts st r).length : Int)) = rd (ts st r) := by
      rw [cutD_take, rd_take]
      refine congrArg (List.map enc) ?_
      have e6 : r.reverse = (ts st r).reverse ++ pre.reverse := by
        conv => lhs; rw [← ep]
        rw [List.reverse_append]
      rw [e6, List.take_append_of_le_length (by simp), List.take_of_length_le (by simp)]
    simp [e3, mk_rd]
end
end Fp

/-! mathematics: the chain, the life of a kind -/
namespace Fp
open PySem PySem.Spec L2 Dn
/-- chances of a kind, of some triples, added -/
def cp (k : List Tri) (p : Tri → Bool) : Rat := ((k.filter p).map (·.c)).sum
theorem cp_snoc {k : List Tri} {t : Tri} {p : Tri → Bool} : cp (k ++ [t]) p = cp k p + if p t = true then t.c else 0 := by
  unfold cp
  rw [List.filter_append, List.map_append, sum_app]
  congr 1
  by_cases h : p t = true
  · rw [List.filter_cons_of_pos h, if_pos h]
    show t.c + 0 = t.c
    grind
  · rw [List.filter_cons_of_neg h, if_neg h]
    rfl
theorem cp_nil {p : Tri → Bool} : cp [] p = 0 := rfl
theorem cp_cons {k : List Tri} {t : Tri} {p : Tri → Bool} : cp (t :: k) p = (if p t = true then t.c else 0) + cp k p := by
  unfold cp
  by_cases h : p t = true
  · rw [List.filter_cons_of_pos h, if_pos h]
    simp
  · rw [List.filter_cons_of_neg h, if_neg h]
    simp [Rat.zero_add]
theorem cp_bd {k : List Tri} {p : Tri → Bool} (h : ∀ t ∈ k, 0 ≤ t.c) : 0 ≤ cp k p ∧ cp k p ≤ (k.map (·.c)).sum := by
  induction k with
  | nil => exact ⟨Rat.le_refl, Rat.le_refl⟩
  | cons t k ih =>
    obtain ⟨h1, h2⟩ := ih fun s hs => h s (List.mem_cons_of_mem _ hs)
    have h3 := h t List.mem_cons_self
    rw [cp_cons, List.map_cons, List.sum_cons]
    constructor
    · split <;> grind
    · split <;> grind
theorem cp_wh {W : Nat} {k : List Tri} {p : Tri → Bool} (h : ∀ t ∈ k, Wh W t.c) : Wh W (cp k p) :=
  sum_wh fun x hx => by
    obtain ⟨t, ht, rfl⟩ := List.mem_map.mp hx
    exact h t (List.mem_filter.mp ht).1
theorem KdOk.cp {n W : Nat} {k : List Tri} (h : KdOk n W k) (p : Tri → Bool) : Wh W (cp k p) ∧ 0 ≤ Fp.cp k p ∧ Fp.cp k p ≤ 1 := by
  have := cp_bd (p := p) fun t ht => (show 0 ≤ t.c by have := (h.c t ht).2.1; grind)
  have h1 := h.sum
  exact ⟨cp_wh fun t ht => (h.c t ht).1, this.1, by grind⟩
theorem sz01 {D n : Nat} {x : Rat} (hD : 0 < D) (w : Wh D x) (h0 : 0 ≤ x) (h1 : x ≤ 1) (hn : D < 2 ^ n) : Sz n x := ab_sz (B := 1) hD w (by simpa using ab_01 h0 h1) (by decide) (by omega)
theorem KdOk.cpS {n W : Nat} {k : List Tri} (h : KdOk n W k) (hW : W ≤ 2 ^ 31) (p : Tri → Bool) : Sz 40 (Fp.cp k p) := by
  obtain ⟨w, h0, h1⟩ := h.cp p
  exact sz01 h.W0 w h0 h1 (by omega)
theorem KdOk.cS {n W : Nat} {k : List Tri} (h : KdOk n W k) (hW : W ≤ 2 ^ 31) {t : Tri} (ht : t ∈ k) : Sz 40 t.c := by
  obtain ⟨w, h0, h1⟩ := h.c t ht
  exact sz01 h.W0 w (by grind) h1 (by omega)
/-- a part of a kind is a kind -/
theorem KdOk.sub {n W : Nat} {k l : List Tri} (h : KdOk n W k) (s : l.Sublist k) : KdOk n W l where
  W0 := h.W0
  len := Nat.le_trans s.length_le h.len
  st := fun t ht => h.st t (s.subset ht)
  c := fun t ht => h.c t (s.subset ht)
  sum := by
    have hc : ∀ t ∈ k, 0 ≤ t.c := fun t ht => by have := (h.c t ht).2.1; grind
    have h1 := h.sum
    have : ∀ {k l : List Tri}, l.Sublist k → (∀ t ∈ k, 0 ≤ t.c) → (l.map (·.c)).sum ≤ (k.map (·.c)).sum := by
      intro k l s
      induction s with
      | slnil => exact fun _ => Rat.le_refl
      | cons a _ ih =>
        intro h
        have h1 := ih fun t ht => h t (List.mem_cons_of_mem _ ht)
        have h2 := h a List.mem_cons_self
        rw [List.map_cons, List.sum_cons]
        grind
      | cons_cons a _ ih =>
        intro h
        have h1 := ih fun t ht => h t (List.mem_cons_of_mem _ ht)
        rw [List.map_cons, List.map_cons, List.sum_cons, List.sum_cons]
        grind
    have := this s hc
    grind
  rise := h.rise.sublist s
def pN (f : Nat) (t : Tri) : Bool := decide (t.nx = f)
def pS (j : Nat) (t : Tri) : Bool := decide (t.st = j)
/-- a list that chances are put to, triple by triple -/
theorem put_row {n j : Nat} {g : Nat → Rat} {x : Rat} (hj : j < n) : ((List.range n).map fun m => enc (g m)).set j (enc x) = (List.range n).map fun m => enc (if m = j then x else g m) := by
  rw [map_set hj]
  refine List.map_congr_left fun m _ => ?_
  split <;> rfl
def rowN (n : Nat) (k : List Tri) : List PyData := (List.range n).map fun f => enc (cp k (pN f))
def rowsD (ks : List (List Tri)) : PyData := .tuple (ks.map fun k => .tuple (rowN ks.length k))
theorem const_row (n : Nat) : (List.range n).map (fun _ => enc 0) = List.replicate n (enc 0) := by
  rw [List.map_const', List.length_range]
theorem rowN_len {n : Nat} {k : List Tri} : (rowN n k).length = n := by
  unfold rowN
  rw [List.length_map, List.length_range]
theorem rowN_at {n j : Nat} {k : List Tri} (h : j < n) : atI (rowN n k) (j : Int) = some (enc (cp k (pN j))) := at_range h
theorem rowN_put {n : Nat} {k : List Tri} {t : Tri} (h : t.nx < n) : (rowN n k).set t.nx (enc (cp k (pN t.nx) + t.c)) = rowN n (k ++ [t]) := by
  unfold rowN
  rw [put_row h]
  refine List.map_congr_left fun m _ => ?_
  rw [cp_snoc]
  unfold pN
  by_cases e : m = t.nx
  · subst e
    rw [if_pos rfl, if_pos (decide_eq_true rfl)]
  · rw [if_neg e, if_neg (by simp; exact fun z => e z.symm)]
    congr 1
    grind
theorem chain_q {W : Nat} {ks : List (List Tri)} {f : Feed} (h : KsOk W ks) (hW : W ≤ 2 ^ 31) : F_chain [.dat (kindsD ks)] f = .ok (.dat (rowsD ks)) f := by
  apply ev_is
  rw [u_chain, ev_dEnd]
  unfold S_chain kindsD
  simp
  refine ev_forT (I := fun (rest : List (List Tri)) ρ g => g = f ∧ ∃ done s2 s3 s4 s5 s6 s7, done ++ rest = ks ∧ ρ = [.dat (.tuple (ks.map kindD)), .own (done.map fun k => .tuple (rowN ks.length k)), s2, s3, s4, s5, s6, s7]) ?_ ?_ ks _ f ⟨rfl, [], _, _, _, _, _, _, rfl, rfl⟩
  · rintro k rest ρ g ⟨rfl, done, s2, s3, s4, s5, s6, s7, e, rfl⟩
    have hk : KdOk ks.length W k := h.ok k (by rw [← e]; simp)
    have hn4 := h.n4
    have hdl : done.length < 100000 := by
      have := congrArg List.length e
      rw [List.length_append, List.length_cons] at this
      omega
    refine ⟨_, rfl, ?_⟩
    have lc : lcN (.one 7) cYes (cC d_NOUGHT) [.dat (.tuple (ks.map kindD)), .own (done.map fun k => .tuple (rowN ks.length k)), .dat (kindD k), s3, s4, s5, s6, .emp] (ks.map kindD) [] g = .ok (ks.map fun _ => enc 0) g := by
      refine lc_map (by omega) fun x hx => ⟨_, rfl, ?_⟩
      simp
      rfl
    have e0 : (ks.map fun _ => enc 0) = rowN ks.length [] := by
      rw [List.map_const']
      unfold rowN
      rw [← const_row]
      rfl
    simp
    rw [lc]
    simp [e0, kindD]
    refine ev_forT (I := fun (rest2 : List Tri) ρ f2 => f2 = g ∧ ∃ dn s4 s5 s6, dn ++ rest2 = k ∧ ρ = [.dat (.tuple (ks.map kindD)), .own (done.map fun k => .tuple (rowN ks.length k)), .dat (.tuple (k.map triD)), .own (rowN ks.length dn), s4, s5, s6, s7]) ?_ ?_ k _ g ⟨rfl, [], _, _, _, rfl, rfl⟩
    · rintro t rest2 ρ f2 ⟨rfl, dn, s4, s5, s6, e2, rfl⟩
      have ht : t ∈ k := by rw [← e2]; simp
      have hd : KdOk ks.length W dn := hk.sub (by rw [← e2]; exact List.sublist_append_left _ _)
      have p1 := plus_q (f := f2) (hd.cpS hW (pN t.nx)) (hk.cS hW ht) (by decide)
      have hx := (hk.st t ht).2.2
      refine ⟨_, rfl, ?_⟩
      simp [-Dn.atI_nat, rowN_at hx, p1, rowN_len, hx, rowN_put hx]
      exact ⟨dn ++ [t], by rw [← e2]; simp, rfl⟩
    · rintro ρ f2 ⟨rfl, dn, s4, s5, s6, e2, rfl⟩
      simp at e2
      subst e2
      simp [hdl]
      exact ⟨done ++ [dn], by rw [← e]; simp, by simp⟩
  · rintro ρ g ⟨rfl, done, s2, s3, s4, s5, s6, s7, e, rfl⟩
    simp at e
    subst e
    simp
    rfl
/-- the life of how long a kind lasts -/
def rowS (k : List Tri) : List Rat := (List.range 6).map fun j => cp k (pS (j + 1))
def lifeK (k : List Tri) : Life := shortL ⟨rowS k, 0⟩
def rowSD (k : List Tri) : List PyData := (List.range 6).map fun j => enc (cp k (pS (j + 1)))
theorem rowSD_eq {k : List Tri} : rowSD k = (rowS k).map enc := by
  unfold rowSD rowS
  rw [List.map_map]
  rfl
theorem rowSD_len {k : List Tri} : (rowSD k).length = 6 := by
  unfold rowSD
  rw [List.length_map, List.length_range]
theorem rowSD_at {j : Nat} {k : List Tri} (h : j < 6) : atI (rowSD k) (j : Int) = some (enc (cp k (pS (j + 1)))) := at_range h
theorem rowSD_put {k : List Tri} {t : Tri} {j : Nat} (hj : t.st = j + 1) (h : j < 6) : (rowSD k).set j (enc (cp k (pS (j + 1)) + t.c)) = rowSD (k ++ [t]) := by
  unfold rowSD
  rw [put_row (g := fun j => cp k (pS (j + 1))) h]
  refine List.map_congr_left fun m _ => ?_
  rw [cp_snoc]
  unfold pS
  rw [hj]
  by_cases e : m = j
  · subst e
    rw [if_pos rfl, if_pos (decide_eq_true rfl)]
  · rw [if_neg e, if_neg (by simp; exact fun z => e z.symm)]
    congr 1
    grind
theorem KdOk.plain {n W : Nat} {k : List Tri} (h : KdOk n W k) (hW : W ≤ 2 ^ 31) : Plain ⟨rowS k, 0⟩ := by
  refine ⟨fun x hx => ?_, sz01 (D := 1) (by decide) wh_0 Rat.le_refl (by show (0 : Rat) ≤ 1; decide) (by decide)⟩
  obtain ⟨j, _, rfl⟩ := List.mem_map.mp hx
  exact (h.cpS hW _).up (by decide)
theorem kind_life_q {W i : Nat} {ks : List (List Tri)} {k : List Tri} {f : Feed} (h : KsOk W ks) (hW : W ≤ 2 ^ 31) (hi : ks[i]? = some k) : F_kind_life [.dat (kindsD ks), .dat (.int i)] f = .ok (.dat (lifeD (lifeK k))) f := by
  have hk : KdOk ks.length W k := h.ok k (List.mem_of_getElem? hi)
  apply ev_is
  rw [u_kind_life, ev_dEnd]
  unfold S_kind_life kindsD
  have lc : lcN (.one 6) cYes (cC d_NOUGHT) [.dat (.tuple (ks.map kindD)), .dat (.int i), .emp, .emp, .emp, .emp, .emp] (rangeD 0 6) [] f = .ok (rowSD []) f := by
    rw [range0]
    refine lc_map (by rw [List.length_range]; decide) fun x hx => ⟨_, rfl, ?_⟩
    simp
    rfl
  have ha : atI (ks.map kindD) (i : Int) = some (kindD k) := by rw [Dn.atI_nat, List.getElem?_map, hi]; rfl
  simp [smallI_ok (n := 6) (by decide) (by decide), lc, -Dn.atI_nat, ha, kindD]
  refine ev_forT (I := fun (rest2 : List Tri) ρ f2 => f2 = f ∧ ∃ dn s3 s4 s5, dn ++ rest2 = k ∧ ρ = [.dat (.tuple (ks.map kindD)), .dat (.int i), .own (rowSD dn), s3, s4, s5, .emp]) ?_ ?_ k _ f ⟨rfl, [], _, _, _, rfl, rfl⟩
  · rintro t rest2 ρ f2 ⟨rfl, dn, s3, s4, s5, e2, rfl⟩
    have ht : t ∈ k := by rw [← e2]; simp
    have hd : KdOk ks.length W dn := hk.sub (by rw [← e2]; exact List.sublist_append_left _ _)
    obtain ⟨h1, h6, _⟩ := hk.st t ht
    obtain ⟨j, hj⟩ : ∃ j, t.st = j + 1 := ⟨t.st - 1, by omega⟩
    have p1 := plus_q (f := f2) (hd.cpS hW (pS (j + 1))) (hk.cS hW ht) (by decide)
    have hx : j < 6 := by omega
    have ej : ((t.st : Nat) : Int) - 1 = (j : Int) := by omega
    refine ⟨_, rfl, ?_⟩
    simp [-Dn.atI_nat, ej, rowSD_at hx, p1, rowSD_len, hx, rowSD_put hj hx]
    exact ⟨dn ++ [t], by rw [← e2]; simp, rfl⟩
  · rintro ρ f2 ⟨rfl, dn, s3, s4, s5, e2, rfl⟩
    simp at e2
    subst e2
    have q := short_q (f := f2) (hk.plain hW)
    have e : PyData.tuple [.tuple (rowSD dn), .tuple [.int 0, .int 1]] = lifeD ⟨rowS dn, 0⟩ := by
      rw [rowSD_eq]
      rfl
    simp [e, q]
    rfl
/-! the law's own -/
theorem lowest_big {p : Int} {q : Nat} {f : Feed} (hq : 0 < q) (h2 : q < 2 ^ 8500) : F_q_lowest [.dat (.int p), .dat (.int q)] f = .ok (.dat (enc (mkRat p q))) f := by
  have hg : 0 < Nat.gcd p.natAbs q := Nat.gcd_pos_of_pos_right _ hq
  have hl : Nat.gcd p.natAbs q ≤ q := Nat.gcd_le_right _ hq
  have d1 : ∀ c : Int, oDiv (.int c) (.int (Nat.gcd p.natAbs q : Nat)) = some (.dat (.int (c / (Nat.gcd p.natAbs q : Nat)))) := fun c => oDiv_int (by omega) (Nat.lt_trans (log2_small (k := 8500) (by rw [Int.natAbs_natCast]; omega) (by decide)) (by decide))
  rw [← low_eq hq]
  apply ev_is
  rw [u_q_lowest, ev_dEnd]
  unfold S_q_lowest
  simp
  refine ev_while (I := fun n ρ g => g = f ∧ ∃ x y : Nat, n = y ∧ ρ = [.dat (.int p), .dat (.int q), .dat (.int x), .dat (.int y)] ∧ Nat.gcd x y = Nat.gcd p.natAbs q) (n := q) ?_ ⟨rfl, p.natAbs, q, rfl, rfl, rfl⟩
  rintro n ρ g ⟨rfl, x, y, rfl, rfl, e⟩
  simp
  refine ⟨fun h => ?_, fun h => ?_⟩
  · have hy : (0 : Int) < n := by omega
    simp [oMod_int hy]
    exact ⟨x % n, Nat.mod_lt _ (by omega), n, ⟨rfl, by omega⟩, by rw [← e, Nat.gcd_comm x n, Nat.gcd_rec n x]; exact Nat.gcd_comm _ _⟩
  · subst h
    rw [Nat.gcd_zero_right] at e
    subst e
    simp [d1, low]
theorem q_add_q {n : Nat} {x y : Rat} {f : Feed} (hx : Sz n x) (hy : Sz n y) (hn : n ≤ 4000) : F_q_add [.dat (enc x), .dat (enc y)] f = .ok (.dat (enc (x + y))) f := by
  have m1 : oMul (.int x.num) (.int (y.den : Nat)) = some (.dat (.int (x.num * y.den))) := oMul_int (mulC_sz hx.num (by rw [Int.natAbs_natCast]; exact hy.den) hn)
  have m2 : oMul (.int y.num) (.int (x.den : Nat)) = some (.dat (.int (y.num * x.den))) := oMul_int (mulC_sz hy.num (by rw [Int.natAbs_natCast]; exact hx.den) hn)
  have m3 : oMul (.int (x.den : Nat)) (.int (y.den : Nat)) = some (.dat (.int ((x.den * y.den : Nat) : Int))) := by
    rw [oMul_int (mulC_sz (by rw [Int.natAbs_natCast]; exact hx.den) (by rw [Int.natAbs_natCast]; exact hy.den) hn), Int.natCast_mul]
  have b3 := prod_lt hx.den hy.den hn
  have kk : (2 : Nat) ^ 8000 ≤ 2 ^ 8500 := by decide
  have p := lowest_big (f := f) (p := x.num * y.den + y.num * x.den) (Nat.mul_pos x.den_pos y.den_pos) (by omega)
  rw [add_eq] at p
  apply ev_is
  rw [u_q_add, ev_dEnd]
  unfold S_q_add
  rw [Int.natCast_mul] at m3 p
  simp [m1, m2, m3, p]
theorem q_all_d {d0 : PyData} {D B L : Nat} {xs : List Rat} {f : Feed} (hd : seqOf d0 = some (xs.map enc)) (hD : 0 < D) (hB : 0 < B) (hw : ∀ x ∈ xs, Wh D x) (hb : ∀ x ∈ xs, Ab (B : Rat) x) (hL : xs.length ≤ L) (hs : B * (L + 1) * D < 2 ^ 4000) : F_q_all [.dat d0] f = .ok (.dat (enc xs.sum)) f := by
  apply ev_is
  rw [u_q_all, ev_dEnd]
  unfold S_q_all
  simp [hd]
  refine ev_forT (I := fun (rest : List Rat) ρ g => g = f ∧ ∃ (acc : Rat) (k : Nat) (s2 : Slot), ρ = [.dat d0, .dat (enc acc), s2] ∧ acc + rest.sum = xs.sum ∧ Wh D acc ∧ Ab ((B * k : Nat) : Rat) acc ∧ k + rest.length ≤ L ∧ (∀ x ∈ rest, Wh D x ∧ Ab (B : Rat) x)) ?_ ?_ xs _ f ⟨rfl, 0, 0, .emp, rfl, by grind, wh_0, ab_0 Rat.natCast_nonneg, by omega, fun x hx => ⟨hw x hx, hb x hx⟩⟩
  · rintro x rest ρ g ⟨rfl, acc, k, s2, rfl, e, w, a, l, h⟩
    obtain ⟨hx1, hx2⟩ := h x List.mem_cons_self
    rw [List.length_cons] at l
    rw [List.sum_cons] at e
    have hm : ∀ j, j ≤ L → (B * (j + 1)) * D < 2 ^ 4000 := fun j hj => Nat.lt_of_le_of_lt (Nat.mul_le_mul_right D (Nat.mul_le_mul_left B (by omega))) hs
    have s1 : Sz 4000 acc := ab_sz hD w (a.up (Rat.natCast_le_natCast.mpr (Nat.mul_le_mul_left B (Nat.le_succ k)))) (Nat.mul_pos hB (Nat.succ_pos k)) (hm k (by omega))
    have s2 : Sz 4000 x := ab_sz hD hx1 hx2 hB (by have := hm 0 (by omega); rwa [Nat.zero_add, Nat.mul_one] at this)
    have p := q_add_q (f := g) s1 s2 (Nat.le_refl _)
    refine ⟨_, rfl, ?_⟩
    simp [p]
    refine ⟨acc + x, rfl, by grind, w.add hx1, k + 1, ?_, by omega, fun y hy => h y (List.mem_cons_of_mem _ hy)⟩
    have := a.add hx2
    rw [← Rat.natCast_add] at this
    rw [← Rat.natCast_mul, Nat.mul_succ]
    exact this
  · rintro ρ g ⟨rfl, acc, k, s2, rfl, e, w, a, l, h⟩
    simp
    rw [List.sum_nil] at e
    have : acc = xs.sum := by grind
    rw [this]
theorem q_all_gd {K n e b : Nat} {f : Feed} {d0 : PyData} {xs : List Rat} (hd : seqOf d0 = some (xs.map enc)) (h : ∀ x ∈ xs, G K n e x) (K0 : 0 < K) (hK : K ≤ 2 ^ b) (hl : xs.length ≤ 255) (hb : b * n + e + 8 < 4000) : F_q_all [.dat d0] f = .ok (.dat (enc xs.sum)) f :=
  q_all_d (D := K ^ n) (B := 2 ^ e) (L := 255) hd (Nat.pow_pos K0) (Nat.pow_pos (by decide)) (fun x hx => (h x hx).w) (fun x hx => (h x hx).a) hl (by
    rw [show 2 ^ e * (255 + 1) = 2 ^ (e + 8) by rw [Nat.pow_add]]
    exact g_size hK hb)
theorem KdOk.g {n W : Nat} {k : List Tri} (h : KdOk n W k) {t : Tri} (ht : t ∈ k) : G W 1 0 t.c := G.of (h.c t ht).1 (Nat.dvd_refl _) (by have := (h.c t ht).2.1; grind) (h.c t ht).2.2
/-- some triples of a kind, their chances added -/
theorem q_all_cp {n W : Nat} {k : List Tri} {p : Tri → Bool} {f : Feed} (h : KdOk n W k) (hW : W ≤ 2 ^ 31) : F_q_all [.dat (.list ((k.filter p).map fun t => enc t.c))] f = .ok (.dat (enc (cp k p))) f := by
  have e : ((k.filter p).map fun t => enc t.c) = ((k.filter p).map (·.c)).map enc := by rw [List.map_map]; rfl
  rw [e]
  refine q_all_gd (K := W) (n := 1) (e := 0) (b := 31) rfl (fun x hx => ?_) h.W0 hW ?_ (by decide)
  · obtain ⟨t, ht, rfl⟩ := List.mem_map.mp hx
    exact h.g (List.mem_filter.mp ht).1
  · rw [List.length_map]
    have := List.length_filter_le p k
    have := h.len
    omega
theorem lifeK_eqS {k : List Tri} : lifeK k = ⟨(tz (rowS k).reverse).reverse, 0⟩ := by
  unfold lifeK shortL shortR
  rw [if_pos (.inr rfl)]
end Fp

/-! mathematics: where kinds are put -/
namespace Fp
open PySem PySem.Spec L2 Dn
/-! by all that was ahead -/
def cov {α : Type} (z : α) (F : (Nat → α) → Nat → α) : Nat → List α
  | 0 => []
  | m + 1 => cov z F m ++ [F (fun q => (cov z F m).getD q z) m]
def cvv {α : Type} (z : α) (F : (Nat → α) → Nat → α) (m : Nat) : α := (cov z F (m + 1)).getD m z
section
variable {α : Type} {z : α} {F : (Nat → α) → Nat → α}
theorem cov_len : ∀ m, (cov z F m).length = m
  | 0 => rfl
  | m + 1 => by rw [cov, List.length_append, cov_len m]; rfl
theorem cov_at {q : Nat} : ∀ {m : Nat}, q < m → (cov z F m).getD q z = cvv z F q
  | 0, h => absurd h (Nat.not_lt_zero _)
  | m + 1, h => by
    by_cases e : q = m
    · subst e
      rfl
    · have h2 : q < m := by omega
      rw [cov, List.getD_eq_getElem?_getD, List.getElem?_append_left (by rw [cov_len]; exact h2), ← List.getD_eq_getElem?_getD]
      exact cov_at h2
theorem cvv_eq (m : Nat) (h : ∀ R S : Nat → α, (∀ q, q < m → R q = S q) → F R m = F S m) : cvv z F m = F (cvv z F) m := by
  unfold cvv
  rw [cov, List.getD_eq_getElem?_getD, List.getElem?_append_right (by rw [cov_len]; exact Nat.le_refl m), cov_len, Nat.sub_self]
  exact h _ _ fun q hq => cov_at hq
end
def kAt (ks : List (List Tri)) (i : Nat) : List Tri := ks.getD i []
/-! all triples, each with its kind -/
def pairsK (ks : List (List Tri)) : List (Nat × Tri) := (List.range ks.length).flatMap fun i => (kAt ks i).map fun t => (i, t)
theorem pairs_mem {ks : List (List Tri)} {p : Nat × Tri} (h : p ∈ pairsK ks) : p.1 < ks.length ∧ p.2 ∈ kAt ks p.1 := by
  unfold pairsK at h
  obtain ⟨i, h1, h2⟩ := List.mem_flatMap.mp h
  obtain ⟨t, h3, rfl⟩ := List.mem_map.mp h2
  exact ⟨List.mem_range.mp h1, h3⟩
theorem getD_mem {ks : List (List Tri)} {i : Nat} (h : i < ks.length) : kAt ks i ∈ ks := by
  unfold kAt
  rw [List.getD_eq_getElem?_getD, List.getElem?_eq_getElem h]
  exact List.getElem_mem h
theorem pairs_len {W : Nat} {ks : List (List Tri)} (h : KsOk W ks) : (pairsK ks).length ≤ 96 := by
  unfold pairsK
  have : ∀ l : List Nat, (∀ i ∈ l, i < ks.length) → (l.flatMap fun i => (kAt ks i).map fun t => (i, t)).length ≤ l.length * 24 := by
    intro l
    induction l with
    | nil => exact fun _ => Nat.le_refl _
    | cons a l ih =>
      intro hl
      have h1 := ih fun i hi => hl i (List.mem_cons_of_mem _ hi)
      have h2 := (h.ok _ (getD_mem (hl a List.mem_cons_self))).len
      rw [List.flatMap_cons, List.length_append, List.length_map, List.length_cons]
      omega
  have := this (List.range ks.length) fun i hi => List.mem_range.mp hi
  rw [List.length_range] at this
  have := h.n4
  omega
/-- what a triple gives to kind j at beat m -/
def cb (R : Nat → Nat → Rat) (m : Nat) (p : Nat × Tri) (j : Nat) : Rat := if p.2.nx = j ∧ p.2.st ≤ m then R (m - p.2.st) p.1 * p.2.c else 0
def sb (R : Nat → Nat → Rat) (m : Nat) (l : List (Nat × Tri)) (j : Nat) : Rat := (l.map fun p => cb R m p j).sum
def rb (R : Nat → Nat → Rat) (m : Nat) (ks : List (List Tri)) (j : Nat) : Rat := sb R m (pairsK ks) j
theorem sb_snoc {R : Nat → Nat → Rat} {m j : Nat} {l : List (Nat × Tri)} {p : Nat × Tri} : sb R m (l ++ [p]) j = sb R m l j + cb R m p j := by
  unfold sb
  rw [List.map_append, sum_app]
  show _ + (cb R m p j + 0) = _
  grind
theorem cb_g {R : Nat → Nat → Rat} {W m e j : Nat} {ks : List (List Tri)} {p : Nat × Tri} (h : KsOk W ks) (hR : ∀ q i, q < m → G W q e (R q i)) (hp : p ∈ pairsK ks) : G W m e (cb R m p j) := by
  obtain ⟨h1, h2⟩ := pairs_mem hp
  have hk := h.ok _ (getD_mem h1)
  have hs := hk.st _ h2
  unfold cb
  split
  · rename_i c
    have := (hR (m - p.2.st) p.1 (by omega)).mul (hk.g h2)
    exact this.up (by omega) (by omega)
  · exact g_0
theorem sb_g {R : Nat → Nat → Rat} {W m e j : Nat} {ks : List (List Tri)} {l : List (Nat × Tri)} (h : KsOk W ks) (hR : ∀ q i, q < m → G W q e (R q i)) (hl : l.Sublist (pairsK ks)) : G W m (e + 7) (sb R m l j) :=
  G.sum (l := 7) (fun x hx => by
    obtain ⟨p, hp, rfl⟩ := List.mem_map.mp hx
    exact cb_g h hR (hl.subset hp)) (by
    rw [List.length_map]
    have := hl.length_le
    have := pairs_len h
    omega)
/-- a row of ratios -/
def rw' (n : Nat) (g : Nat → Rat) : List PyData := (List.range n).map fun j => enc (g j)
theorem rw_len {n : Nat} {g : Nat → Rat} : (rw' n g).length = n := by
  unfold rw'
  rw [List.length_map, List.length_range]
theorem rw_at {n j : Nat} {g : Nat → Rat} (h : j < n) : atI (rw' n g) (j : Int) = some (enc (g j)) := at_range h
theorem rw_put {n j : Nat} {g : Nat → Rat} {x : Rat} (h : j < n) : (rw' n g).set j (enc x) = rw' n fun m => if m = j then x else g m := put_row h
theorem rw_congr {n : Nat} {g h : Nat → Rat} (e : ∀ j, j < n → g j = h j) : rw' n g = rw' n h :=
  List.map_congr_left fun j hj => by rw [e j (List.mem_range.mp hj)]
theorem enum_kinds (ks : List (List Tri)) : pairsD (ks.map kindD) = (List.range ks.length).map fun (i : Nat) => .tuple [.int (i : Nat), kindD (kAt ks i)] := by
  have := pairsD_range2 (ks.map kindD) (fun i => kindD (kAt ks i)) fun i hi => by
    rw [List.length_map] at hi
    unfold kAt
    rw [List.getElem_map, List.getD_eq_getElem?_getD, List.getElem?_eq_getElem hi]
    rfl
  rwa [List.length_map] at this
/-- the first i kinds' triples -/
def pre (ks : List (List Tri)) (i : Nat) : List (Nat × Tri) := (List.range i).flatMap fun i => (kAt ks i).map fun t => (i, t)
theorem pre_succ {ks : List (List Tri)} {i : Nat} : pre ks (i + 1) = pre ks i ++ (kAt ks i).map fun t => (i, t) := by
  unfold pre
  rw [List.range_succ, List.flatMap_append]
  simp
theorem pre_sub {ks : List (List Tri)} {i : Nat} (h : i ≤ ks.length) : (pre ks i).Sublist (pairsK ks) := by
  have e : pairsK ks = pre ks i ++ ((List.range ks.length).drop i).flatMap fun i => (kAt ks i).map fun t => (i, t) := by
    unfold pairsK pre
    conv => lhs; rw [← List.take_append_drop i (List.range ks.length), List.flatMap_append]
    rw [List.take_range, Nat.min_eq_left h]
  rw [e]
  exact List.sublist_append_left _ _
theorem pre_subX {ks : List (List Tri)} {i : Nat} {a b : List Tri} (h : i < ks.length) (e : a ++ b = kAt ks i) : (pre ks i ++ a.map fun t => (i, t)).Sublist (pairsK ks) := by
  refine List.Sublist.trans ?_ (pre_sub (i := i + 1) h)
  rw [pre_succ, ← e, List.map_append, ← List.append_assoc]
  exact List.sublist_append_left _ _
theorem row_behind_q {R : Nat → Nat → Rat} {W m e : Nat} {ks : List (List Tri)} {f : Feed} (h : KsOk W ks) (hW : W ≤ 2 ^ 31) (hm : m ≤ 40) (he : e ≤ 300) (hR : ∀ q i, q < m → G W q e (R q i)) :
    F_row_behind [.dat (kindsD ks), .dat (.list ((List.range m).map fun q => .list (rw' ks.length (R q))))] f = .ok (.own (rw' ks.length (rb R m ks))) f := by
  have hn4 := h.n4
  apply ev_is
  rw [u_row_behind, ev_dEnd]
  unfold S_row_behind kindsD
  generalize hRD : PyData.list ((List.range m).map fun q => .list (rw' ks.length (R q))) = RD
  have hRl : oLen RD = some (.dat (.int (m : Nat))) := by
    rw [← hRD, oLen_list, List.length_map, List.length_range]
  have lc : lcN (.one 4) cYes (cC d_NOUGHT) [.dat (.tuple (ks.map kindD)), .dat RD, .emp, .emp, .emp, .emp, .emp, .emp] (ks.map kindD) [] f = .ok (rw' ks.length fun j => sb R m [] j) f := by
    rw [lc_map (g := fun _ => enc 0) (by omega) fun x hx => ⟨_, rfl, rfl⟩, List.map_const']
    unfold rw'
    rw [← const_row]
    rfl
  simp [lc, enum_kinds]
  refine ev_for (I := fun i ρ g => g = f ∧ ∃ s3 s4 s5 s6 s7, ρ = [.dat (.tuple (ks.map kindD)), .dat RD, .own (rw' ks.length fun j => sb R m (pre ks i) j), s3, s4, s5, s6, s7]) ⟨rfl, _, _, _, _, _, rfl⟩ ?_ ?_
  · rintro i d ρ g hd ⟨rfl, s3, s4, s5, s6, s7, rfl⟩
    rw [List.getElem?_map] at hd
    obtain ⟨i2, hi2, rfl⟩ := Option.map_eq_some_iff.mp hd
    obtain ⟨hi, rfl⟩ := List.getElem?_eq_some_iff.mp hi2
    rw [List.getElem_range] at *
    have hi3 : i < ks.length := by simpa using hi
    have hk := h.ok _ (getD_mem hi3)
    have hRat : ∀ q, q < m → atI ((List.range m).map fun q => PyData.list (rw' ks.length (R q))) (q : Int) = some (.list (rw' ks.length (R q))) := fun q hq => at_range hq
    generalize hkk : kAt ks i = k at hk
    refine ⟨_, rfl, ?_⟩
    simp [kindD]
    refine ev_forT (I := fun (rest : List Tri) ρ f2 => f2 = g ∧ ∃ dn s5 s6 s7, dn ++ rest = k ∧ ρ = [.dat (.tuple (ks.map kindD)), .dat RD, .own (rw' ks.length fun j => sb R m (pre ks i ++ dn.map fun t => (i, t)) j), .dat (.int (i : Nat)), .dat (.tuple (k.map triD)), s5, s6, s7]) ?_ ?_ k _ g ⟨rfl, [], s5, s6, s7, rfl, by simp [hkk]⟩
    · rintro t rest ρ f2 ⟨rfl, dn, s5, s6, s7, e2, rfl⟩
      have ht : t ∈ k := by rw [← e2]; simp
      obtain ⟨ht1, ht6, htn⟩ := hk.st t ht
      have hs1 : (pre ks i ++ dn.map fun t => (i, t)).Sublist (pairsK ks) := pre_subX hi3 (b := t :: rest) (by rw [e2, hkk])
      have hp : (i, t) ∈ pairsK ks := (pre_subX (a := k) (b := []) hi3 (by rw [List.append_nil, hkk])).subset (List.mem_append_right _ (List.mem_map.mpr ⟨t, ht, rfl⟩))
      have esn : ∀ j, sb R m (pre ks i ++ (dn ++ [t]).map fun t => (i, t)) j = sb R m (pre ks i ++ dn.map fun t => (i, t)) j + cb R m (i, t) j := fun j => by
        rw [List.map_append, ← List.append_assoc]
        exact sb_snoc
      refine ⟨_, rfl, ?_⟩
      by_cases hst : t.st ≤ m
      · have c1 : cb R m (i, t) t.nx = R (m - t.st) i * t.c := by
          unfold cb
          rw [if_pos ⟨rfl, hst⟩]
        have z1 : Sz 4000 (R (m - t.st) i) := (hR (m - t.st) i (by omega)).sz h.W0 hW (by omega)
        have z2 : Sz 4000 t.c := (hk.cS hW ht).up (by decide)
        have z3 : Sz 4000 (sb R m (pre ks i ++ dn.map fun t => (i, t)) t.nx) := (sb_g h hR hs1).sz h.W0 hW (by omega)
        have z4 : Sz 4000 (R (m - t.st) i * t.c) := by
          have := (cb_g (j := t.nx) h hR hp).sz h.W0 hW (by omega)
          rwa [c1] at this
        have p1 := times_q (f := f2) z1 z2 (Nat.le_refl _)
        have p2 := plus_q (f := f2) z3 z4 (Nat.le_refl _)
        have ei : (m : Int) - (t.st : Int) = ((m - t.st : Nat) : Int) := by omega
        have a1 := hRat (m - t.st) (by omega)
        have a2 : oIx RD (.int ((m - t.st : Nat) : Int)) = some (.dat (.list (rw' ks.length (R (m - t.st))))) := by
          rw [← hRD]
          simp [-Dn.atI_nat, a1]
        have a3 := rw_at (g := R (m - t.st)) hi3
        have a4 := rw_at (g := fun j => sb R m (pre ks i ++ dn.map fun t => (i, t)) j) htn
        have a5 := rw_put (g := fun j => sb R m (pre ks i ++ dn.map fun t => (i, t)) j) (x := sb R m (pre ks i ++ dn.map fun t => (i, t)) t.nx + R (m - t.st) i * t.c) htn
        have a6 : (rw' ks.length fun j => if j = t.nx then sb R m (pre ks i ++ dn.map fun t => (i, t)) t.nx + R (m - t.st) i * t.c else sb R m (pre ks i ++ dn.map fun t => (i, t)) j) = rw' ks.length fun j => sb R m (pre ks i ++ (dn ++ [t]).map fun t => (i, t)) j := rw_congr fun j _ => by
          rw [esn]
          by_cases e : j = t.nx
          · subst e
            rw [if_pos rfl, c1]
          · rw [if_neg e]
            unfold cb
            rw [if_neg (fun z => e z.1.symm)]
            grind
        have h0 : (t.st : Int) ≤ (m : Int) := by omega
        simp [-Dn.atI_nat, hRl, h0, ei, a2, a3, a4, p1, p2, rw_len, htn, a5, a6]
        exact ⟨dn ++ [t], by rw [← e2]; simp, by simp⟩
      · have h0 : ¬ (t.st : Int) ≤ (m : Int) := by omega
        simp [hRl, h0]
        refine ⟨dn ++ [t], by rw [← e2]; simp, rw_congr fun j _ => ?_⟩
        rw [esn]
        unfold cb
        rw [if_neg (fun z => hst z.2)]
        grind
    · rintro ρ f2 ⟨rfl, dn, s5, s6, s7, e2, rfl⟩
      simp at e2
      subst e2
      simp [pre_succ, hkk]
  · rintro ρ g ⟨rfl, s3, s4, s5, s6, s7, rfl⟩
    simp
    rfl
/-! beat by beat -/
theorem cb_congr {R S : Nat → Nat → Rat} {m j : Nat} {W : Nat} {ks : List (List Tri)} {p : Nat × Tri} (h : KsOk W ks) (hp : p ∈ pairsK ks) (e : ∀ q, q < m → R q = S q) : cb R m p j = cb S m p j := by
  obtain ⟨h1, h2⟩ := pairs_mem hp
  have hs := (h.ok _ (getD_mem h1)).st _ h2
  unfold cb
  split
  · rw [e (m - p.2.st) (by omega)]
  · rfl
theorem rb_congr {R S : Nat → Nat → Rat} {m : Nat} {W : Nat} {ks : List (List Tri)} (h : KsOk W ks) (e : ∀ q, q < m → R q = S q) : rb R m ks = rb S m ks := by
  funext j
  unfold rb sb
  congr 1
  exact List.map_congr_left fun p hp => cb_congr h hp e
def kpF (ks : List (List Tri)) (a : Nat) (R : Nat → Nat → Rat) (m : Nat) : Nat → Rat := if m = 0 then fun j => if j = a then 1 else 0 else rb R m ks
/-- the chance that a part of kind j is put at beat m, the first one of kind a -/
def kp (ks : List (List Tri)) (a : Nat) : Nat → Nat → Rat := cvv (fun _ => 0) (kpF ks a)
section
variable {W a : Nat} {ks : List (List Tri)} {f : Feed}
theorem kp_eq (h : KsOk W ks) (m : Nat) : kp ks a m = kpF ks a (kp ks a) m := cvv_eq m fun R S e => by
  unfold kpF
  split
  · rfl
  · exact rb_congr h e
theorem kp_zero (h : KsOk W ks) : kp ks a 0 = fun j => if j = a then 1 else 0 := by
  rw [kp_eq h]
  rfl
theorem kp_succ (h : KsOk W ks) (m : Nat) : kp ks a (m + 1) = rb (kp ks a) (m + 1) ks := by
  rw [kp_eq h]
  rfl
theorem kp_g (h : KsOk W ks) (m : Nat) : ∀ j, G W m (7 * m) (kp ks a m j) := by
  induction m using Nat.strongRecOn with
  | ind m ih =>
    intro j
    cases m with
    | zero =>
      rw [kp_zero h]
      dsimp only
      split
      · exact g_1
      · exact g_0
    | succ m =>
      rw [kp_succ h]
      have := sb_g (e := 7 * m) (j := j) h (fun q i hq => (ih q hq i).up (Nat.le_refl q) (by omega)) (List.Sublist.refl (pairsK ks)) (R := kp ks a) (m := m + 1)
      exact this.up (Nat.le_refl _) (by omega)
theorem begun_by_q (hn : ks.length ≤ 1000) : F_begun_by [.dat (kindsD ks), .dat (.int a)] f = .ok (.own (rw' ks.length fun j => if j = a then 1 else 0)) f := by
  apply ev_is
  rw [u_begun_by, ev_dEnd]
  unfold S_begun_by kindsD
  have lc : lcN (.one 2) cYes (cIf (cT (cBin oEq (cVar 2) (cVar 1))) (cTup [cC (.int 1), cC (.int 1)]) (cC d_NOUGHT)) [.dat (.tuple (ks.map kindD)), .dat (.int a), .emp] (rangeD 0 ks.length) [] f = .ok (rw' ks.length fun j => if j = a then 1 else 0) f := by
    rw [range0]
    refine lc_map (by rw [List.length_range]; omega) fun j hj => ⟨_, rfl, ?_⟩
    by_cases e : j = a
    · subst e
      simp
      rfl
    · have e2 : ¬ (j : Int) = (a : Int) := by omega
      simp [e, e2]
      rfl
  simp [smallI_ok (n := (ks.length : Int)) (by omega) (by omega), lc]
@[simp] theorem e_CallLk {F : Dn.Fn} {xs : List Ex} {i : Nat} {ρ : Rho} {f : Feed} : cCallL F xs i ρ f = (cVals xs ρ f).bind fun as f1 => match ρ[i]? with
  | some (.own ds) => (F (as ++ [.dat (.list ds)]) f1).bind keepF
  | _ => .no := nr rfl
theorem flat_encs (n : Nat) (g : Nat → Rat) : flatAll (rw' n g) = true := by
  unfold rw'
  generalize List.range n = l
  induction l with
  | nil => rfl
  | cons a l ih =>
    rw [List.map_cons]
    unfold flatAll
    rw [ih]
    rfl
def putsD (n : Nat) (R : Nat → Nat → Rat) (N : Nat) : List PyData := (List.range (N + 1)).map fun q => .tuple (rw' n (R q))
theorem rows_snoc {n m : Nat} {R : Nat → Nat → Rat} : ((List.range m).map fun q => PyData.list (rw' n (R q))) ++ [.list (rw' n (R m))] = (List.range (m + 1)).map fun q => .list (rw' n (R q)) := by
  rw [List.range_succ, List.map_append]
  rfl
theorem kind_puts_all {N : Nat} (h : KsOk W ks) (hW : W ≤ 2 ^ 31) (hN : N ≤ 39) : F_kind_puts_v2 [.dat (kindsD ks), .dat (.int a), .dat (.int N)] f = .ok (.dat (.tuple (putsD ks.length (kp ks a) N))) f := by
  have hn4 := h.n4
  have hb := begun_by_q (ks := ks) (a := a) (f := f) (by omega)
  have e0 : [PyData.list (rw' ks.length fun j => if j = a then 1 else 0)] = (List.range 1).map fun q => .list (rw' ks.length (kp ks a q)) := by
    rw [show List.range 1 = [0] from rfl, List.map_cons, List.map_nil, kp_zero h]
  generalize hkd : kindsD ks = kd at hb
  apply ev_is
  rw [u_kind_puts_v2, ev_dEnd]
  unfold S_kind_puts_v2
  simp [hb, smallI_ok (n := (N : Int) + 1) (by omega) (by omega), smallI_ok (n := 1) (by decide) (by decide), e0]
  refine ev_for (I := fun i ρ g => g = f ∧ ∃ s4 s5, ρ = [.dat kd, .dat (.int a), .dat (.int N), .own ((List.range (i + 1)).map fun q => .list (rw' ks.length (kp ks a q))), s4, s5]) ⟨rfl, _, _, rfl⟩ ?_ ?_
  · rintro i d ρ g hd ⟨rfl, s4, s5, rfl⟩
    obtain ⟨rfl, hi⟩ := range_at hd
    have hi2 : i < N := by omega
    refine ⟨_, rfl, ?_⟩
    have q := row_behind_q (R := kp ks a) (m := i + 1) (e := 7 * i) (f := g) h hW (by omega) (by omega) fun q j hq => (kp_g h q j).up (Nat.le_refl q) (by omega)
    rw [hkd, ← kp_succ h] at q
    simp [-Int.natCast_add, q, keepF_own, flat_encs, rows_snoc, show i + 1 < 100000 by omega]
  · rintro ρ g ⟨rfl, s4, s5, rfl⟩
    rw [range_len]
    have lc : ∀ s3 s4, lcN (.one 5) cYes (cUn oTuple (cVar 5)) [.dat kd, .dat (.int a), .dat (.int N), s3, s4, .emp] ((List.range (N + 1)).map fun q => .list (rw' ks.length (kp ks a q))) [] g = .ok (putsD ks.length (kp ks a) N) g := fun s3 s4 => by
      refine lc_map (by rw [List.length_range]; omega) fun q hq => ⟨_, rfl, ?_⟩
      simp
    simp [lc]
end
end Fp

/-! mathematics: the last stretch or the first one -/
namespace Fp
open PySem PySem.Spec L2 Dn
theorem rs_one {n a : Nat} {g : Nat → Rat} : rs n (fun i => if i = a then g i else 0) = if a < n then g a else 0 := by
  induction n with
  | zero => rfl
  | succ n ih =>
    rw [rs_succ, ih]
    by_cases e : n = a
    · subst e
      rw [if_pos rfl, if_neg (Nat.lt_irrefl _), if_pos (Nat.lt_succ_self _)]
      grind
    · rw [if_neg e]
      by_cases c : a < n
      · rw [if_pos c, if_pos (by omega)]
        grind
      · rw [if_neg c, if_neg (by omega)]
        grind
theorem rs_cut {N m : Nat} (h : N ≤ m) (g : Nat → Rat) : rs N g = rs m fun e => if e < N then g e else 0 := by
  induction m with
  | zero =>
    have : N = 0 := by omega
    subst this
    rfl
  | succ m ih =>
    by_cases e : N = m + 1
    · subst e
      exact rs_congr fun i hi => by rw [if_pos hi]
    · rw [rs_succ, ← ih (by omega), if_neg (by omega)]
      grind
theorem tri_swap (m : Nat) (X : Nat → Nat → Rat) : rs m (fun k => rs (m - 1 - k) fun e => X e k) = rs m fun e => rs (m - 1 - e) fun k => X e k := by
  have e1 : rs m (fun k => rs (m - 1 - k) fun e => X e k) = rs m fun k => rs m fun e => if e + k < m - 1 then X e k else 0 := rs_congr fun k hk => by
    rw [rs_cut (show m - 1 - k ≤ m by omega)]
    refine rs_congr fun e he => ?_
    by_cases c : e < m - 1 - k
    · rw [if_pos c, if_pos (by omega)]
    · rw [if_neg c, if_neg (by omega)]
  have e2 : rs m (fun e => rs (m - 1 - e) fun k => X e k) = rs m fun e => rs m fun k => if e + k < m - 1 then X e k else 0 := rs_congr fun e he => by
    rw [rs_cut (show m - 1 - e ≤ m by omega)]
    refine rs_congr fun k hk => ?_
    by_cases c : k < m - 1 - e
    · rw [if_pos c, if_pos (by omega)]
    · rw [if_neg c, if_neg (by omega)]
  rw [e1, e2, rs_swap]
theorem rs_mulR {n : Nat} {g : Nat → Rat} {c : Rat} : rs n (fun i => g i * c) = rs n g * c := by
  rw [Rat.mul_comm, ← rs_mul]
  exact rs_congr fun i _ => Rat.mul_comm _ _
section
variable {n : Nat} {T : Nat → Nat → Nat → Rat} {P Q : Nat → Nat → Nat → Rat}
theorem renew (hP : ∀ m a j, a < n → j < n → P a m j = (if m = 0 ∧ j = a then 1 else 0) + rs m fun k => rs n fun i => P a (m - 1 - k) i * T k i j)
    (hQ : ∀ m a j, a < n → j < n → Q j m a = (if m = 0 ∧ j = a then 1 else 0) + rs m fun k => rs n fun b => T k a b * Q j (m - 1 - k) b) (m : Nat) : ∀ a j, a < n → j < n → P a m j = Q j m a := by
  induction m using Nat.strongRecOn with
  | ind m ih =>
    intro a j ha hj
    rw [hP m a j ha hj, hQ m a j ha hj]
    congr 1
    have l1 : rs m (fun k => rs n fun i => P a (m - 1 - k) i * T k i j) = rs m (fun k => (if k = m - 1 then T k a j else 0) + rs (m - 1 - k) fun e => rs n fun i => rs n fun b => T e a b * Q i (m - 1 - k - 1 - e) b * T k i j) := rs_congr fun k hk => by
      have : rs n (fun i => P a (m - 1 - k) i * T k i j) = rs n fun i => (if i = a then (if k = m - 1 then T k i j else 0) else 0) + rs (m - 1 - k) fun e => rs n fun b => T e a b * Q i (m - 1 - k - 1 - e) b * T k i j := rs_congr fun i hi => by
        rw [ih (m - 1 - k) (by omega) a i ha hi, hQ (m - 1 - k) a i ha hi]
        have z : rs (m - 1 - k) (fun e => rs n fun b => T e a b * Q i (m - 1 - k - 1 - e) b * T k i j) = (rs (m - 1 - k) fun e => rs n fun b => T e a b * Q i (m - 1 - k - 1 - e) b) * T k i j := by
          rw [← rs_mulR]
          exact rs_congr fun e _ => rs_mulR
        rw [z]
        by_cases c : i = a
        · by_cases d : k = m - 1
          · rw [if_pos ⟨by omega, c⟩, if_pos c, if_pos d]
            grind
          · rw [if_neg (fun w => d (by omega)), if_pos c, if_neg d]
            grind
        · rw [if_neg (fun w => c w.2), if_neg c]
          grind
      rw [this, rs_add, rs_one, if_pos ha, rs_swap]
    have l2 : rs m (fun k => rs n fun b => T k a b * Q j (m - 1 - k) b) = rs m (fun k => (if k = m - 1 then T k a j else 0) + rs (m - 1 - k) fun e => rs n fun b => rs n fun i => T k a b * P b (m - 1 - k - 1 - e) i * T e i j) := rs_congr fun k hk => by
      have : rs n (fun b => T k a b * Q j (m - 1 - k) b) = rs n fun b => (if b = j then (if k = m - 1 then T k a b else 0) else 0) + rs (m - 1 - k) fun e => rs n fun i => T k a b * P b (m - 1 - k - 1 - e) i * T e i j := rs_congr fun b hb => by
        rw [← ih (m - 1 - k) (by omega) b j hb hj, hP (m - 1 - k) b j hb hj]
        have z : rs (m - 1 - k) (fun e => rs n fun i => T k a b * P b (m - 1 - k - 1 - e) i * T e i j) = T k a b * rs (m - 1 - k) fun e => rs n fun i => P b (m - 1 - k - 1 - e) i * T e i j := by
          rw [← rs_mul]
          refine rs_congr fun e _ => ?_
          rw [← rs_mul]
          exact rs_congr fun i _ => Rat.mul_assoc _ _ _
        rw [z]
        by_cases c : b = j
        · by_cases d : k = m - 1
          · rw [if_pos ⟨by omega, c.symm⟩, if_pos c, if_pos d]
            grind
          · rw [if_neg (fun w => d (by omega)), if_pos c, if_neg d]
            grind
        · rw [if_neg (fun w => c w.2.symm), if_neg c]
          grind
      rw [this, rs_add, rs_one, if_pos hj, rs_swap]
    rw [l1, l2, rs_add, rs_add]
    congr 1
    rw [tri_swap]
    refine rs_congr fun e he => rs_congr fun k hk => ?_
    rw [rs_swap]
    refine rs_congr fun b hb => rs_congr fun i hi => ?_
    rw [ih (m - 1 - e - 1 - k) (by omega) b i hb hi, show m - 1 - k - 1 - e = m - 1 - e - 1 - k by omega]
/-- together one -/
theorem stand_one {L : Nat → Nat → Rat} {a : Nat} (ha : a < n) (hP : ∀ m j, j < n → P a m j = (if m = 0 ∧ j = a then 1 else 0) + rs m fun k => rs n fun i => P a (m - 1 - k) i * T k i j)
    (hL0 : ∀ j, j < n → L j 0 = 1) (hL : ∀ j g, j < n → L j (g + 1) = L j g - rs n fun b => T g j b) : ∀ m, rs n (fun j => rs (m + 1) fun g => P a (m - g) j * L j g) = 1
  | 0 => by
    have : rs n (fun j => rs (0 + 1) fun g => P a (0 - g) j * L j g) = rs n fun j => if j = a then 1 else 0 := rs_congr fun j hj => by
      rw [rs_succ, rs_zero, hL0 j hj, hP _ j hj, Nat.zero_sub, rs_zero]
      by_cases c : j = a
      · rw [if_pos ⟨rfl, c⟩, if_pos c]
        grind
      · rw [if_neg (fun w => c w.2), if_neg c]
        grind
    rw [this, rs_one, if_pos ha]
  | m + 1 => by
    have ih := stand_one ha hP hL0 hL m
    have e1 : rs n (fun j => rs (m + 1 + 1) fun g => P a (m + 1 - g) j * L j g) = rs n fun j => P a (m + 1) j + ((rs (m + 1) fun g => P a (m - g) j * L j g) + (-1) * rs (m + 1) fun g => P a (m - g) j * rs n fun b => T g j b) := rs_congr fun j hj => by
      rw [rs_head, hL0 j hj, Nat.sub_zero, ← rs_mul, ← rs_add]
      congr 1
      · grind
      · refine rs_congr fun g hg => ?_
        rw [hL j g hj, show m + 1 - (g + 1) = m - g by omega]
        grind
    have e2 : rs n (fun j => P a (m + 1) j) = rs n fun j => rs (m + 1) fun g => P a (m - g) j * rs n fun b => T g j b := by
      have s1 : rs n (fun j => P a (m + 1) j) = rs n fun j => rs (m + 1) fun k => rs n fun i => P a (m - k) i * T k i j := rs_congr fun j hj => by
        rw [hP (m + 1) j hj, if_neg (fun w => by omega)]
        rw [Rat.zero_add]
        exact rs_congr fun k hk => rs_congr fun i hi => by rw [show m + 1 - 1 - k = m - k by omega]
      have s2 : rs n (fun j => rs (m + 1) fun g => P a (m - g) j * rs n fun b => T g j b) = rs n fun j => rs (m + 1) fun g => rs n fun b => P a (m - g) j * T g j b := rs_congr fun j hj => rs_congr fun g hg => by rw [rs_mul]
      rw [s1, s2, rs_swap, rs_swap (n := n)]
      exact rs_congr fun k hk => rs_swap
    rw [e1, rs_add, rs_add, ih, rs_mul, e2]
    grind
end
end Fp

/-! mathematics: kinds by stretches and nexts -/
namespace Fp
open PySem PySem.Spec L2 Dn
def pT (d j : Nat) (t : Tri) : Bool := decide (t.nx = j) && decide (t.st = d + 1)
/-- the chance that kind i lasts d + 1 and leads to j -/
def tk (ks : List (List Tri)) (d i j : Nat) : Rat := cp (kAt ks i) (pT d j)
theorem sum_zero {α : Type} {g : α → Rat} : ∀ {l : List α}, (∀ x ∈ l, g x = 0) → (l.map g).sum = 0
  | [], _ => rfl
  | x :: r, h => by
    rw [List.map_cons, List.sum_cons, h x List.mem_cons_self, sum_zero fun y hy => h y (List.mem_cons_of_mem _ hy)]
    grind
theorem sum_flat {α β : Type} {g : β → Rat} {f : α → List β} : ∀ l : List α, ((l.flatMap f).map g).sum = (l.map fun x => ((f x).map g).sum).sum
  | [] => rfl
  | x :: r => by
    rw [List.flatMap_cons, List.map_append, sum_app, List.map_cons, List.sum_cons, sum_flat r]
theorem one_T {m j : Nat} {t : Tri} {g : Nat → Rat} (h1 : 1 ≤ t.st) : rs m (fun d => g (m - 1 - d) * if pT d j t = true then t.c else 0) = if t.nx = j ∧ t.st ≤ m then g (m - t.st) * t.c else 0 := by
  have e : rs m (fun d => g (m - 1 - d) * if pT d j t = true then t.c else 0) = rs m fun d => if d = t.st - 1 then (if t.nx = j then g (m - 1 - d) * t.c else 0) else 0 := rs_congr fun d hd => by
    unfold pT
    by_cases c1 : t.nx = j
    · by_cases c2 : t.st = d + 1
      · rw [if_pos (by simp [c1, c2]), if_pos (by omega), if_pos c1]
      · rw [if_neg (by simp [c2]), if_neg (by omega)]
        grind
    · rw [if_neg (by simp [c1]), if_neg c1]
      split <;> grind
  rw [e, rs_one]
  by_cases c1 : t.nx = j
  · by_cases c2 : t.st ≤ m
    · rw [if_pos (by omega), if_pos c1, if_pos ⟨c1, c2⟩, show m - 1 - (t.st - 1) = m - t.st by omega]
    · rw [if_neg (by omega), if_neg (fun z => c2 z.2)]
  · have c3 : ¬ (t.nx = j ∧ t.st ≤ m) := fun z => c1 z.1
    rw [if_neg c3]
    split <;> simp [c1]
theorem list_T {m j : Nat} {g : Nat → Rat} : ∀ {k : List Tri}, (∀ t ∈ k, 1 ≤ t.st) → (k.map fun t => if t.nx = j ∧ t.st ≤ m then g (m - t.st) * t.c else 0).sum = rs m fun d => g (m - 1 - d) * cp k (pT d j)
  | [], _ => by
    have : rs m (fun d => g (m - 1 - d) * cp [] (pT d j)) = rs m fun _ => 0 := rs_congr fun d _ => by rw [cp_nil, Rat.mul_zero]
    rw [this, rs_0]
    rfl
  | t :: k, h => by
    rw [List.map_cons, List.sum_cons, list_T fun s hs => h s (List.mem_cons_of_mem _ hs), ← one_T (h t List.mem_cons_self), ← rs_add]
    refine rs_congr fun d _ => ?_
    rw [cp_cons]
    grind
theorem rb_T {R : Nat → Nat → Rat} {W m j : Nat} {ks : List (List Tri)} (h : KsOk W ks) : rb R m ks j = rs m fun d => rs ks.length fun i => R (m - 1 - d) i * tk ks d i j := by
  unfold rb sb pairsK
  rw [sum_flat]
  have e : ((List.range ks.length).map fun x => ((((kAt ks x).map fun t => (x, t)).map fun p => cb R m p j)).sum).sum = rs ks.length fun i => rs m fun d => R (m - 1 - d) i * tk ks d i j := by
    rw [rs_list]
    refine rs_congr fun i hi => ?_
    rw [List.map_map]
    exact list_T (g := fun q => R q i) fun t ht => ((h.ok _ (getD_mem hi)).st t ht).1
  rw [e, rs_swap]
/-- by the first stretch -/
def qs (R : Nat → Nat → Rat) (m : Nat) (k : List Tri) : Rat := (k.map fun t => if t.st ≤ m then t.c * R (m - t.st) t.nx else 0).sum
theorem list_Q {n m : Nat} {R : Nat → Nat → Rat} : ∀ {k : List Tri}, (∀ t ∈ k, 1 ≤ t.st ∧ t.nx < n) → qs R m k = rs m fun d => rs n fun b => cp k (pT d b) * R (m - 1 - d) b
  | [], _ => by
    have : rs m (fun d => rs n fun b => cp [] (pT d b) * R (m - 1 - d) b) = rs m fun _ => 0 := rs_congr fun d _ => by
      have : rs n (fun b => cp [] (pT d b) * R (m - 1 - d) b) = rs n fun _ => 0 := rs_congr fun b _ => by rw [cp_nil, Rat.zero_mul]
      rw [this, rs_0]
    rw [this, rs_0]
    rfl
  | t :: k, h => by
    obtain ⟨h1, h2⟩ := h t List.mem_cons_self
    have ih := list_Q (R := R) (n := n) (m := m) fun s hs => h s (List.mem_cons_of_mem _ hs)
    unfold qs at ih ⊢
    rw [List.map_cons, List.sum_cons, ih]
    have e1 : (if t.st ≤ m then t.c * R (m - t.st) t.nx else 0) = rs m fun d => rs n fun b => (if pT d b t = true then t.c else 0) * R (m - 1 - d) b := by
      have : rs m (fun d => rs n fun b => (if pT d b t = true then t.c else 0) * R (m - 1 - d) b) = rs m fun d => R (m - 1 - d) t.nx * if pT d t.nx t = true then t.c else 0 := rs_congr fun d _ => by
        have : rs n (fun b => (if pT d b t = true then t.c else 0) * R (m - 1 - d) b) = rs n fun b => if b = t.nx then R (m - 1 - d) b * (if pT d b t = true then t.c else 0) else 0 := rs_congr fun b _ => by
          by_cases c : b = t.nx
          · rw [if_pos c]
            grind
          · rw [if_neg c]
            have : ¬ pT d b t = true := by
              unfold pT
              simp
              exact fun z => absurd z.symm c
            rw [if_neg this, Rat.zero_mul]
        rw [this, rs_one, if_pos h2]
      rw [this, one_T (g := fun q => R q t.nx) h1]
      by_cases c : t.st ≤ m
      · rw [if_pos c, if_pos ⟨rfl, c⟩, Rat.mul_comm]
      · rw [if_neg c, if_neg (fun z => c z.2)]
    rw [e1, ← rs_add]
    refine rs_congr fun d _ => ?_
    rw [← rs_add]
    refine rs_congr fun b _ => ?_
    rw [cp_cons]
    grind
def qpF (ks : List (List Tri)) (j : Nat) (R : Nat → Nat → Rat) (m a : Nat) : Rat := (if m = 0 ∧ j = a then 1 else 0) + qs R m (kAt ks a)
def qp (ks : List (List Tri)) (j : Nat) : Nat → Nat → Rat := cvv (fun _ => 0) (qpF ks j)
theorem qs_congr {R S : Nat → Nat → Rat} {m : Nat} : ∀ {k : List Tri}, (∀ t ∈ k, 1 ≤ t.st) → (∀ q, q < m → R q = S q) → qs R m k = qs S m k := fun {k} h e => by
  unfold qs
  congr 1
  refine List.map_congr_left fun t ht => ?_
  by_cases c : t.st ≤ m
  · rw [if_pos c, if_pos c, e (m - t.st) (by have := h t ht; omega)]
  · rw [if_neg c, if_neg c]
section
variable {W : Nat} {ks : List (List Tri)}
theorem st1 (h : KsOk W ks) (a : Nat) : ∀ t ∈ kAt ks a, 1 ≤ t.st ∧ t.nx < ks.length := fun t ht => by
  by_cases c : a < ks.length
  · have := (h.ok _ (getD_mem c)).st t ht
    exact ⟨this.1, this.2.2⟩
  · unfold kAt at ht
    rw [List.getD_eq_getElem?_getD, List.getElem?_eq_none (by omega)] at ht
    cases ht
theorem qp_eq (h : KsOk W ks) (j m a : Nat) : qp ks j m a = (if m = 0 ∧ j = a then 1 else 0) + qs (qp ks j) m (kAt ks a) := by
  unfold qp
  rw [cvv_eq m fun R S e => ?_]
  · rfl
  · funext a
    unfold qpF
    rw [qs_congr (fun t ht => (st1 h a t ht).1) e]
theorem kp_T (h : KsOk W ks) (a m j : Nat) (hj : j < ks.length) : kp ks a m j = (if m = 0 ∧ j = a then 1 else 0) + rs m fun d => rs ks.length fun i => kp ks a (m - 1 - d) i * tk ks d i j := by
  cases m with
  | zero =>
    rw [kp_zero h, rs_zero]
    by_cases c : j = a
    · rw [if_pos ⟨rfl, c⟩]
      simp only [c, if_true]
      grind
    · rw [if_neg (fun z => c z.2)]
      simp only [c, if_false]
      grind
  | succ m =>
    rw [kp_succ h, rb_T h, if_neg (fun z => by omega), Rat.zero_add]
theorem kp_qp (h : KsOk W ks) {a j : Nat} (ha : a < ks.length) (hj : j < ks.length) (m : Nat) : kp ks a m j = qp ks j m a :=
  renew (P := kp ks) (Q := qp ks) (T := tk ks) (fun m a j _ hj => kp_T h a m j hj) (fun m a j _ _ => by rw [qp_eq h, list_Q (st1 h a)]; rfl) m a j ha hj
/-- the chance that kind j lasts longer -/
def pL (g : Nat) (t : Tri) : Bool := decide (t.st ≤ g)
def stl (ks : List (List Tri)) (j g : Nat) : Rat := 1 - cp (kAt ks j) (pL g)
theorem cp_le {n g : Nat} : ∀ {k : List Tri}, (∀ t ∈ k, 1 ≤ t.st ∧ t.nx < n) → cp k (pL (g + 1)) = cp k (pL g) + rs n fun b => cp k (pT g b)
  | [], _ => by
    have : rs n (fun b => cp [] (pT g b)) = rs n fun _ => 0 := rs_congr fun b _ => cp_nil
    rw [this, rs_0, cp_nil, cp_nil]
    grind
  | t :: k, h => by
    have ih := cp_le (g := g) fun s hs => h s (List.mem_cons_of_mem _ hs)
    have : rs n (fun b => cp (t :: k) (pT g b)) = (rs n fun b => if b = t.nx then (if t.st = g + 1 then t.c else 0) else 0) + rs n fun b => cp k (pT g b) := by
      rw [← rs_add]
      refine rs_congr fun b _ => ?_
      rw [cp_cons]
      congr 1
      unfold pT
      by_cases c1 : b = t.nx
      · by_cases c2 : t.st = g + 1
        · rw [if_pos (by simp [c1, c2]), if_pos c1, if_pos c2]
        · rw [if_neg (by simp [c2]), if_pos c1, if_neg c2]
      · rw [if_neg (by simp; exact fun z => absurd z.symm c1), if_neg c1]
    rw [this, rs_one, if_pos (h t List.mem_cons_self).2, cp_cons, cp_cons, ih]
    unfold pL
    by_cases c1 : t.st = g + 1
    · rw [if_pos (decide_eq_true (show t.st ≤ g + 1 by omega)), if_neg (by simp; omega), if_pos c1]
      grind
    · by_cases c2 : t.st ≤ g
      · rw [if_pos (decide_eq_true (show t.st ≤ g + 1 by omega)), if_pos (decide_eq_true c2), if_neg c1]
        grind
      · rw [if_neg (by simp; omega), if_neg (by simp; omega), if_neg c1]
        grind
def stands (ks : List (List Tri)) (a m j : Nat) : Rat := rs (m + 1) fun g => kp ks a (m - g) j * stl ks j g
theorem stands_one (h : KsOk W ks) {a : Nat} (ha : a < ks.length) (m : Nat) : rs ks.length (stands ks a m) = 1 :=
  stand_one (P := kp ks) (T := tk ks) (L := stl ks) ha (fun m j hj => kp_T h a m j hj) (fun j hj => by
    unfold stl
    have : cp (kAt ks j) (pL 0) = 0 := by
      unfold cp
      have : (kAt ks j).filter (pL 0) = [] := List.filter_eq_nil_iff.mpr fun t ht => by
        have := (st1 h j t ht).1
        unfold pL
        simp
        omega
      rw [this]
      rfl
    rw [this]
    grind) (fun j g hj => by
    unfold stl
    rw [cp_le (st1 h j)]
    unfold tk
    grind) m
end
/-! the life of a kind -/
theorem rowS_split (k : List Tri) : ∃ n, rowS k = (lifeK k).row ++ List.replicate n 0 := by
  rw [lifeK_eqS]
  obtain ⟨n, e⟩ := tz_split (rowS k).reverse
  refine ⟨n, ?_⟩
  have := congrArg List.reverse e
  rw [List.reverse_reverse, List.reverse_append, List.reverse_replicate] at this
  exact this
theorem rowS_get {n W : Nat} {k : List Tri} (h : KdOk n W k) (j : Nat) : (rowS k).getD j 0 = cp k (pS (j + 1)) := by
  unfold rowS
  by_cases c : j < 6
  · rw [List.getD_eq_getElem?_getD, List.getElem?_map, List.getElem?_eq_getElem (by simpa using c), List.getElem_range]
    rfl
  · rw [List.getD_eq_getElem?_getD, List.getElem?_eq_none (by simp; omega)]
    have : k.filter (pS (j + 1)) = [] := List.filter_eq_nil_iff.mpr fun t ht => by
      have := (h.st t ht).2.1
      unfold pS
      simp
      omega
    unfold cp
    rw [this]
    rfl
theorem ch_lifeK {n W : Nat} {k : List Tri} (h : KdOk n W k) (j : Nat) : ch (lifeK k) (j + 1) = cp k (pS (j + 1)) := by
  obtain ⟨m, e⟩ := rowS_split k
  have e0 : (lifeK k).step = 0 := by rw [lifeK_eqS]
  rw [← rowS_get h, e]
  unfold ch
  by_cases c : j + 1 ≤ (lifeK k).row.length
  · rw [if_pos c, Nat.add_sub_cancel, List.getD_eq_getElem?_getD, List.getD_eq_getElem?_getD, List.getElem?_append_left (by omega)]
  · rw [if_neg c, if_pos e0, List.getD_eq_getElem?_getD, List.getElem?_append_right (by omega)]
    by_cases c2 : j - (lifeK k).row.length < m
    · rw [List.getElem?_eq_getElem (by simpa using c2), List.getElem_replicate]
      rfl
    · rw [List.getElem?_eq_none (by simpa using c2)]
      rfl
theorem cp_sum6 {k : List Tri} : (∀ t ∈ k, 1 ≤ t.st ∧ t.st ≤ 6) → rs 6 (fun j => cp k (pS (j + 1))) = (k.map (·.c)).sum := by
  induction k with
  | nil =>
    intro _
    rw [rs_congr (h := fun _ => 0) fun j _ => cp_nil, rs_0]
    rfl
  | cons t k ih =>
    intro h
    rw [List.map_cons, List.sum_cons, ← ih fun s hs => h s (List.mem_cons_of_mem _ hs)]
    have : rs 6 (fun j => cp (t :: k) (pS (j + 1))) = (rs 6 fun j => if j = t.st - 1 then t.c else 0) + rs 6 fun j => cp k (pS (j + 1)) := by
      rw [← rs_add]
      refine rs_congr fun j _ => ?_
      rw [cp_cons]
      congr 1
      have := (h t List.mem_cons_self).1
      unfold pS
      by_cases c : j = t.st - 1
      · rw [if_pos (by simp; omega), if_pos c]
      · rw [if_neg (by simp; omega), if_neg c]
    have h1 := h t List.mem_cons_self
    rw [this, rs_one (g := fun _ => t.c), if_pos (by omega)]
theorem sum_rep (m : Nat) : (List.replicate m (0 : Rat)).sum = 0 := by
  induction m with
  | zero => rfl
  | succ m ih => rw [List.replicate_succ, List.sum_cons, ih]; grind
theorem lifeK_ok {n V : Nat} {k : List Tri} (h : KdOk n V k) : LOk V 1 (lifeK k) := by
  obtain ⟨m, e⟩ := rowS_split k
  have e0 : (lifeK k).step = 0 := by rw [lifeK_eqS]
  refine ⟨h.W0, by decide, fun x hx => ?_, by rw [e0]; exact wh_0, by rw [e0]; exact Rat.le_refl, by rw [e0]; decide, fun _ => e0, ?_⟩
  · have : x ∈ rowS k := by rw [e]; exact List.mem_append_left _ hx
    obtain ⟨j, _, rfl⟩ := List.mem_map.mp this
    exact h.cp _
  · have s1 : (rowS k).sum = (lifeK k).row.sum := by
      rw [e, sum_app, sum_rep]
      grind
    have s2 : (rowS k).sum = (k.map (·.c)).sum := by
      rw [← cp_sum6 fun t ht => ⟨(h.st t ht).1, (h.st t ht).2.1⟩]
      rfl
    have h1 := h.sum
    unfold tot
    rw [e0, Rat.mul_zero, ← s1, s2]
    grind
theorem cp_leS {n W g : Nat} {k : List Tri} (h : KdOk n W k) : rs g (fun d => cp k (pS (d + 1))) = cp k (pL g) := by
  have hs : ∀ t ∈ k, 1 ≤ t.st := fun t ht => (h.st t ht).1
  clear h
  induction k with
  | nil =>
    rw [rs_congr (h := fun _ => 0) fun j _ => cp_nil, rs_0, cp_nil]
  | cons t k ih =>
    have h1 := hs t List.mem_cons_self
    rw [cp_cons, ← ih fun s h => hs s (List.mem_cons_of_mem _ h)]
    have : rs g (fun j => cp (t :: k) (pS (j + 1))) = (rs g fun j => if j = t.st - 1 then t.c else 0) + rs g fun j => cp k (pS (j + 1)) := by
      rw [← rs_add]
      refine rs_congr fun j _ => ?_
      rw [cp_cons]
      congr 1
      unfold pS
      by_cases c : j = t.st - 1
      · rw [if_pos (by simp; omega), if_pos c]
      · rw [if_neg (by simp; omega), if_neg c]
    rw [this, rs_one (g := fun _ => t.c)]
    congr 1
    unfold pL
    by_cases c : t.st ≤ g
    · rw [if_pos (by omega), if_pos (decide_eq_true c)]
    · rw [if_neg (by omega), if_neg (by simp; omega)]
theorem lasts_K {n W : Nat} {k : List Tri} (h : KdOk n W k) (g : Nat) : lasts (lifeK k) g = 1 - cp k (pL g) := by
  unfold lasts
  rw [← cp_leS h]
  congr 1
  exact rs_congr fun d _ => ch_lifeK h d
theorem lasting_K {W i g : Nat} {ks : List (List Tri)} {f : Feed} (h : KsOk W ks) (hi : i < ks.length) (hg : g ≤ 40) : F_lasting [.dat (lifeD (lifeK (kAt ks i))), .dat (.int g)] f = .ok (.dat (enc (stl ks i g))) f := by
  obtain ⟨V, hV, hk⟩ := h.own _ (getD_mem hi)
  have := lasting_q (f := f) (lifeK_ok hk) (by omega) (by decide) hg
  rw [lasts_K hk] at this
  exact this
end Fp

/-! k51: the law's own chain and lives -/
namespace Fp
open PySem PySem.Spec L2 Dn
theorem nice_tri {n W : Nat} {k : List Tri} (h : KdOk n W k) (hW : W ≤ 2 ^ 31) (hn : n ≤ 4) {t : Tri} (ht : t ∈ k) : Nice 5 2 (triD t) := by
  obtain ⟨h1, h2, h3⟩ := h.st t ht
  have e := nice_enc (h.cS hW ht) (by decide)
  have kk : (6 : Nat) < 10 ^ 560 := by decide
  exact nice_tuple (niceL_cons ((nice_int (i := (t.st : Int)) (by rw [Int.natAbs_natCast]; omega)).up (Nat.le_refl 0) (Nat.zero_le 1)) (niceL_cons ((nice_int (i := (t.nx : Int)) (by rw [Int.natAbs_natCast]; omega)).up (Nat.le_refl 0) (Nat.zero_le 1)) (niceL_cons e niceL_nil)))
theorem nice_kind {n W : Nat} {k : List Tri} (h : KdOk n W k) (hW : W ≤ 2 ^ 31) (hn : n ≤ 4) : Nice 144 3 (kindD k) := by
  have := niceL_of (b := 5) (k := 2) (ds := k.map triD) fun d hd => by
    obtain ⟨t, ht, rfl⟩ := List.mem_map.mp hd
    exact nice_tri h hW hn ht
  rw [List.length_map] at this
  have hl := h.len
  exact nice_tuple (this.up (by omega) (Nat.le_refl 2))
theorem nice_kinds {W : Nat} {ks : List (List Tri)} (h : KsOk W ks) (hW : W ≤ 2 ^ 31) : Nice 580 4 (kindsD ks) := by
  have := niceL_of (b := 144) (k := 3) (ds := ks.map kindD) fun d hd => by
    obtain ⟨t, ht, rfl⟩ := List.mem_map.mp hd
    exact nice_kind (h.ok t ht) hW h.n4
  rw [List.length_map] at this
  have hl := h.n4
  exact nice_tuple (this.up (by omega) (Nat.le_refl 3))
theorem nice_rowN {n W N : Nat} {k : List Tri} (h : KdOk n W k) (hW : W ≤ 2 ^ 31) : Nice (N * 3) 2 (.tuple (rowN N k)) :=
  nice_tuple (nicel_range fun j _ => (h.cpS hW _).up (by decide))
theorem nice_rows {W : Nat} {ks : List (List Tri)} (h : KsOk W ks) (hW : W ≤ 2 ^ 31) : Nice 52 3 (rowsD ks) := by
  have := niceL_of (b := 12) (k := 2) (ds := ks.map fun k => .tuple (rowN ks.length k)) fun d hd => by
    obtain ⟨k, hk, rfl⟩ := List.mem_map.mp hd
    have hl := h.n4
    exact (nice_rowN (h.ok k hk) hW).up (by omega) (Nat.le_refl 2)
  rw [List.length_map] at this
  have hl := h.n4
  exact nice_tuple (this.up (by omega) (Nat.le_refl 2))
theorem q_rows_q {W : Nat} {ks : List (List Tri)} {f : Feed} (h : KsOk W ks) (hW : W ≤ 2 ^ 31) : F_q_rows_v2 [.dat (kindsD ks)] f = .ok (.dat (rowsD ks)) f := by
  have hn4 := h.n4
  apply ev_is
  rw [u_q_rows_v2, ev_dEnd]
  unfold S_q_rows_v2 kindsD
  simp
  refine ev_forT (I := fun (rest : List (List Tri)) ρ g => g = f ∧ ∃ done s2, done ++ rest = ks ∧ ρ = [.dat (.tuple (ks.map kindD)), .own (done.map fun k => .tuple (rowN ks.length k)), s2, .emp, .emp]) ?_ ?_ ks _ f ⟨rfl, [], _, rfl, rfl⟩
  · rintro k rest ρ g ⟨rfl, done, s2, e, rfl⟩
    have hk : KdOk ks.length W k := h.ok k (by rw [← e]; simp)
    have hkl := hk.len
    have hdl : done.length < 100000 := by
      have := congrArg List.length e
      rw [List.length_append, List.length_cons] at this
      omega
    refine ⟨_, rfl, ?_⟩
    have lc2 : ∀ j : Nat, lcN (.one 4) (cT (cBin oEq (cBin oIx (cVar 4) (cC (.int 1))) (cVar 3))) (cBin oIx (cVar 4) (cC (.int 2))) [.dat (.tuple (ks.map kindD)), .own (done.map fun k => .tuple (rowN ks.length k)), .dat (.tuple (k.map triD)), .dat (.int j), .emp] (k.map triD) [] g = .ok ((k.filter (pN j)).map fun t => enc t.c) g := fun j => by
      refine lc_pure (by omega) fun t ht => ⟨_, rfl, ?_, fun _ => ?_⟩
      · have e0 : decide ((t.nx : Int) = (j : Int)) = pN j t := by
          unfold pN
          rw [decide_eq_decide]
          omega
        unfold triD
        simp [e0]
      · unfold triD
        simp
    have lc : lcN (.one 3) cYes (cCall F_q_all [cLc (iSeq (cVar 2)) (.one 4) (cT (cBin oEq (cBin oIx (cVar 4) (cC (.int 1))) (cVar 3))) (cBin oIx (cVar 4) (cC (.int 2))) [4]]) [.dat (.tuple (ks.map kindD)), .own (done.map fun k => .tuple (rowN ks.length k)), .dat (.tuple (k.map triD)), .emp, .emp] (rangeD 0 ks.length) [] g = .ok (rowN ks.length k) g := by
      rw [range0]
      refine lc_map (by rw [List.length_range]; omega) fun j hj => ⟨_, rfl, ?_⟩
      simp [lc2, q_all_cp hk hW]
    simp [kindD, smallI_ok (n := (ks.length : Int)) (by omega) (by omega)]
    rw [lc]
    simp [hdl]
    exact ⟨done ++ [k], by rw [← e]; simp, by simp⟩
  · rintro ρ g ⟨rfl, done, s2, e, rfl⟩
    simp at e
    subst e
    simp
    rfl
theorem lifeK_eq {k : List Tri} : lifeK k = ⟨(tz (rowS k).reverse).reverse, 0⟩ := by
  unfold lifeK shortL shortR
  rw [if_pos (.inr rfl)]
theorem lifeK_row {k : List Tri} : (lifeK k).row.length ≤ 6 ∧ ∀ x ∈ (lifeK k).row, x ∈ rowS k := by
  rw [lifeK_eq]
  obtain ⟨n, e⟩ := tz_split (rowS k).reverse
  have h1 : (rowS k).reverse.length = 6 := by
    rw [List.length_reverse]
    unfold rowS
    rw [List.length_map, List.length_range]
  constructor
  · show (tz (rowS k).reverse).reverse.length ≤ 6
    rw [List.length_reverse]
    rw [e, List.length_append] at h1
    omega
  · intro x hx
    have : x ∈ (rowS k).reverse := by
      rw [e]
      exact List.mem_append_right _ (List.mem_reverse.mp hx)
    exact List.mem_reverse.mp this
theorem nice_lifeK {n W : Nat} {k : List Tri} (h : KdOk n W k) (hW : W ≤ 2 ^ 31) : Nice 22 3 (lifeD (lifeK k)) := by
  obtain ⟨h1, h2⟩ := lifeK_row (k := k)
  have q1 := nicel_encs (xs := (lifeK k).row) fun x hx => by
    obtain ⟨j, _, rfl⟩ := List.mem_map.mp (h2 x hx)
    exact (h.cpS hW _).up (by decide)
  have e : (lifeK k).step = 0 := by rw [lifeK_eq]
  unfold lifeD
  rw [e]
  exact nice_tuple ((niceL_cons (nice_tuple q1) (niceL_cons ((nice_rat (p := 0) (q := 1) (by decide) (by decide)).up (Nat.le_refl _) (by decide)) niceL_nil)).up (by omega) (Nat.le_refl 2))
theorem shows_lives {W : Nat} {ks : List (List Tri)} (h : KsOk W ks) (hW : W ≤ 2 ^ 31) : Dn.shows (.list (ks.map fun k => lifeD (lifeK k))) = true := by
  have := niceL_of (b := 22) (k := 3) (ds := ks.map fun k => lifeD (lifeK k)) fun d hd => by
    obtain ⟨k, hk, rfl⟩ := List.mem_map.mp hd
    exact nice_lifeK (h.ok k hk) hW
  rw [List.length_map] at this
  have hl := h.n4
  exact (nice_list (this.up (show _ ≤ 92 by omega) (Nat.le_refl 3))).shows (by decide) (by decide)
theorem ne_enc0R {x : Rat} : oEq (enc x) (.tuple [.int 0, .int 1]) = some (.dat (.bool (decide (x = 0)))) := eq_enc0
/-- noughts at the end out, one by one -/
theorem tz_rev (r : List Rat) : tz r = if r.head? = some 0 then tz r.tail else r := by
  cases r with
  | nil => rfl
  | cons x r =>
    rw [tz]
    by_cases h : x = 0
    · subst h
      rfl
    · rw [if_neg h, if_neg (by simpa using h)]
theorem ne_rdl {r : List Rat} : oNe (.list (rd r)) (.list []) = some (.dat (.bool (!decide (r = [])))) := by
  cases r with
  | nil => exact ne_nil2
  | cons x r =>
    have hl : (rd (x :: r)).length = r.length + 1 := rd_len
    have hs : SeqAt.shaped (.list (rd (x :: r))) = true := shaped_list (canLay_encs _) (Nat.le_trans (depth_encs _) (by decide))
    rw [oNe_of hs rfl]
    generalize rd (x :: r) = l at hl
    cases l with
    | nil => cases hl
    | cons a l => simp [PyData.eqv, PyData.eqvAll]
theorem q_life_q {n W : Nat} {k : List Tri} {f : Feed} (h : KdOk n W k) (hW : W ≤ 2 ^ 31) : F_q_life_v3 [.dat (kindD k)] f = .ok (.dat (lifeD (lifeK k))) f := by
  have hkl := h.len
  apply ev_is
  rw [u_q_life_v3, ev_dEnd]
  unfold S_q_life_v3 kindD
  have lc2 : ∀ (j : Nat), lcN (.one 3) (cT (cBin oEq (cBin oIx (cVar 3) (cC (.int 0))) (cVar 2))) (cBin oIx (cVar 3) (cC (.int 2))) [.dat (.tuple (k.map triD)), .emp, .dat (.int (1 + (j : Int))), .emp] (k.map triD) [] f = .ok ((k.filter (pS (j + 1))).map fun t => enc t.c) f := fun j => by
    refine lc_pure (by omega) fun t ht => ⟨_, rfl, ?_, fun _ => ?_⟩
    · have e0 : decide ((t.st : Int) = 1 + (j : Int)) = pS (j + 1) t := by
        unfold pS
        rw [decide_eq_decide]
        omega
      unfold triD
      simp [e0]
    · unfold triD
      simp
  have lc : lcN (.one 2) cYes (cCall F_q_all [cLc (iSeq (cVar 0)) (.one 3) (cT (cBin oEq (cBin oIx (cVar 3) (cC (.int 0))) (cVar 2))) (cBin oIx (cVar 3) (cC (.int 2))) [3]]) [.dat (.tuple (k.map triD)), .emp, .emp, .emp] (rangeD 1 6) [] f = .ok (rowSD k) f := by
    have e : rangeD 1 6 = (List.range 6).map fun (j : Nat) => .int (1 + (j : Int)) := rfl
    rw [e]
    refine lc_map (by rw [List.length_range]; decide) fun j hj => ⟨_, rfl, ?_⟩
    simp [lc2, q_all_cp h hW]
  simp [smallI_ok (n := 1) (by decide) (by decide), smallI_ok (n := 7) (by decide) (by decide)]
  rw [lc, ev_ok]
  have e1 : rowSD k = rd (rowS k).reverse := by
    rw [rowSD_eq]
    unfold rd
    rw [List.reverse_reverse]
  rw [e1]
  refine ev_while (I := fun m ρ g => g = f ∧ ∃ r, m = r.length ∧ ρ = [.dat (.tuple (k.map triD)), .own (rd r), .emp, .emp] ∧ tz r = tz (rowS k).reverse) (n := (rowS k).reverse.length) ?_ ⟨rfl, _, rfl, rfl, rfl⟩
  rintro m ρ g ⟨rfl, r, rfl, rfl, e⟩
  have done : ∀ r, tz r = tz (rowS k).reverse → tz r = r → PyData.tuple [.tuple (rd r), .tuple [.int 0, .int 1]] = lifeD (lifeK k) := fun r e2 e3 => by
    unfold lifeK shortL shortR
    rw [if_pos (.inr rfl), ← e2, e3]
    rfl
  cases r with
  | nil =>
    simp [ne_rdl, done [] e rfl]
  | cons x r =>
    by_cases hx : x = 0
    · subst hx
      simp [ne_rdl, at_rd, eq_enc0]
      have pp : popped 1 [.dat (.tuple (k.map triD)), .own (rd (0 :: r)), .emp, .emp] = some (enc 0, [.dat (.tuple (k.map triD)), .own (rd r), .emp, .emp]) := by
        unfold popped rd
        simp
      rw [pp]
      simp
      refine ⟨r.length, by omega, r, rfl, rfl, ?_⟩
      rw [tz, if_pos rfl] at e
      exact e
    · simp [ne_rdl, at_rd, eq_enc0, hx]
      refine done (x :: r) e ?_
      rw [tz, if_neg hx]
end Fp

/-! k55: puts by the first stretch; what stands -/
namespace Fp
open PySem PySem.Spec L2 Dn
theorem q_by_q {n : Nat} {x y : Rat} {f : Feed} (hx : Sz n x) (hy : Sz n y) (hn : n ≤ 4000) : F_q_by [.dat (enc x), .dat (enc y)] f = .ok (.dat (enc (x * y))) f := by
  have m1 : oMul (.int x.num) (.int y.num) = some (.dat (.int (x.num * y.num))) := oMul_int (mulC_sz hx.num hy.num hn)
  have m3 : oMul (.int (x.den : Nat)) (.int (y.den : Nat)) = some (.dat (.int (x.den * y.den))) := oMul_int (mulC_sz (by rw [Int.natAbs_natCast]; exact hx.den) (by rw [Int.natAbs_natCast]; exact hy.den) hn)
  have b3 := prod_lt hx.den hy.den hn
  have kk : (2 : Nat) ^ 8000 ≤ 2 ^ 8500 := by decide
  have p := lowest_big (f := f) (p := x.num * y.num) (Nat.mul_pos x.den_pos y.den_pos) (by omega)
  rw [Int.natCast_mul, mul_eq] at p
  apply ev_is
  rw [u_q_by, ev_dEnd]
  unfold S_q_by
  simp [m1, m3, p]
theorem enc_sub1 (x : Rat) : enc (1 - x) = .tuple [.int (x.den - x.num), .int (x.den : Nat)] := by
  have e := sub_eq 1 x
  have e2 : (1 : Rat).num * (x.den : Int) - x.num * ((1 : Rat).den : Int) = x.den - x.num := by
    show 1 * (x.den : Int) - x.num * 1 = _
    omega
  have e3 : (1 : Rat).den * x.den = x.den := by
    show 1 * x.den = x.den
    omega
  rw [e2, e3] at e
  rw [← e, ← low_eq x.den_pos]
  have g : Nat.gcd ((x.den : Int) - x.num).natAbs x.den = 1 := by
    have h1 : Nat.gcd x.num.natAbs x.den = 1 := x.reduced
    rw [← h1]
    have : Int.gcd ((x.den : Int) - x.num) (x.den : Int) = Int.gcd x.num (x.den : Int) := by
      have h2 := Int.gcd_sub_left_left_of_dvd (m := (x.den : Int)) (n := x.num) (k := (x.den : Int)) (Int.dvd_refl _)
      exact h2
    exact this
  unfold low
  rw [g]
  simp
theorem q_still_q {n W g : Nat} {k : List Tri} {f : Feed} (h : KdOk n W k) (hW : W ≤ 2 ^ 31) : F_q_still [.dat (kindD k), .dat (.int g)] f = .ok (.dat (enc (1 - cp k (pL g)))) f := by
  have hl := h.len
  apply ev_is
  rw [u_q_still, ev_dEnd, enc_sub1]
  unfold S_q_still kindD
  have lc : lcN (.many [3, 4, 5]) (cT (cBin oLeA (cVar 3) (cVar 1))) (cVar 5) [.dat (.tuple (k.map triD)), .dat (.int g), .emp, .emp, .emp, .emp] (k.map triD) [] f = .ok ((k.filter (pL g)).map fun t => enc t.c) f := by
    refine lc_pure (by omega) fun t ht => ⟨_, rfl, ?_, fun _ => ?_⟩
    · have e0 : decide ((t.st : Int) ≤ (g : Int)) = pL g t := by
        unfold pL
        rw [decide_eq_decide]
        omega
      simp
      rfl
    · simp
  simp [lc, q_all_cp h hW]
/-- puts by the first stretch, partly -/
def qd (ks : List (List Tri)) (m a : Nat) (l : List Tri) (j : Nat) : Rat := (if m = 0 ∧ j = a then 1 else 0) + qs (qp ks j) m l
theorem qs_snoc {R : Nat → Nat → Rat} {m : Nat} {l : List Tri} {t : Tri} : qs R m (l ++ [t]) = qs R m l + if t.st ≤ m then t.c * R (m - t.st) t.nx else 0 := by
  unfold qs
  rw [List.map_append, sum_app]
  congr 1
  show _ + (0 : Rat) = _
  grind
section
variable {W : Nat} {ks : List (List Tri)} {f : Feed}
theorem qp_g (h : KsOk W ks) {a j : Nat} (ha : a < ks.length) (hj : j < ks.length) (m : Nat) : G W m (7 * m) (qp ks j m a) := by
  rw [← kp_qp h ha hj]
  exact kp_g h m j
theorem qd_g (h : KsOk W ks) {a j m : Nat} {l : List Tri} (ha : a < ks.length) (hj : j < ks.length) (hl : l.Sublist (kAt ks a)) : G W m (7 * m + 1) (qd ks m a l j) := by
  have hk := h.ok _ (getD_mem ha)
  have h1 : G W m (7 * m) (if m = 0 ∧ j = a then (1 : Rat) else 0) := by
    split
    · exact g_1
    · exact g_0
  have h2 : G W m (7 * m) (qs (qp ks j) m l) := by
    cases m with
    | zero =>
      have : qs (qp ks j) 0 l = 0 := sum_zero fun t ht => by
        have := (hk.st t (hl.subset ht)).1
        rw [if_neg (by omega)]
      rw [this]
      exact g_0
    | succ m =>
      have : G W (m + 1) (7 * m + 7) (qs (qp ks j) (m + 1) l) := G.sum (fun x hx => by
        obtain ⟨t, ht, rfl⟩ := List.mem_map.mp hx
        have hs := hk.st t (hl.subset ht)
        split
        · exact ((hk.g (hl.subset ht)).mul (qp_g h hs.2.2 hj (m + 1 - t.st))).up (by omega) (by omega)
        · exact g_0) (by
        rw [List.length_map]
        have := hl.length_le
        have := hk.len
        omega)
      exact this.up (Nat.le_refl _) (by omega)
  exact h1.add h2
def rowsQ (ks : List (List Tri)) (m : Nat) : PyData := .list ((List.range ks.length).map fun a => .tuple (rw' ks.length fun j => qp ks j m a))
theorem q_puts_all {N : Nat} (h : KsOk W ks) (hW : W ≤ 2 ^ 31) (hN : N ≤ 39) : F_q_puts_v2 [.dat (kindsD ks), .dat (.int N)] f = .ok (.own ((List.range ks.length).map fun a => .tuple (putsD ks.length (kp ks a) N))) f := by
  have hn4 := h.n4
  apply ev_is
  rw [u_q_puts_v2, ev_dEnd]
  unfold S_q_puts_v2
  have hkd : oLen (kindsD ks) = some (.dat (.int (ks.length : Nat))) := by
    unfold kindsD
    rw [oLen_tuple, List.length_map]
  have hka : ∀ a, a < ks.length → oIx (kindsD ks) (.int (a : Nat)) = some (.dat (kindD (kAt ks a))) := fun a ha => by
    unfold kindsD kAt
    rw [e_ix_tuple, Dn.atI_nat, List.getElem?_map, List.getD_eq_getElem?_getD, List.getElem?_eq_getElem ha]
    rfl
  generalize kindsD ks = kd at *
  simp [smallI_ok (n := (N : Int) + 1) (by omega) (by omega)]
  refine ev_for (I := fun i ρ g => g = f ∧ ∃ s3 s4 s5 s6 s7 s8 s9 s10 s11 s12 s13, ρ = [.dat kd, .dat (.int N), .own ((List.range i).map (rowsQ ks)), s3, s4, s5, s6, s7, s8, s9, s10, s11, s12, s13]) ⟨rfl, _, _, _, _, _, _, _, _, _, _, _, rfl⟩ ?_ ?_
  · rintro m d ρ g hd ⟨rfl, s3, s4, s5, s6, s7, s8, s9, s10, s11, s12, s13, rfl⟩
    obtain ⟨rfl, hm⟩ := range_at hd
    have hm2 : m ≤ N := by omega
    refine ⟨_, rfl, ?_⟩
    have hrow : ∀ q, q < m → atI ((List.range m).map (rowsQ ks)) (q : Int) = some (rowsQ ks q) := fun q hq => at_range hq
    generalize hRR : (List.range m).map (rowsQ ks) = RR at hrow
    have hRl : RR.length < 100000 := by rw [← hRR, List.length_map, List.length_range]; omega
    simp [hkd, smallI_ok (n := (ks.length : Int)) (by omega) (by omega)]
    refine ev_for (I := fun a ρ f2 => f2 = g ∧ ∃ s5 s6 s7 s8 s9 s10 s11 s12 s13, ρ = [.dat kd, .dat (.int N), .own RR, .dat (.int (m : Nat)), .own ((List.range a).map fun a => .tuple (rw' ks.length fun j => qp ks j m a)), s5, s6, s7, s8, s9, s10, s11, s12, s13]) ⟨rfl, _, _, _, _, _, _, _, _, _, rfl⟩ ?_ ?_
    · rintro a d ρ f2 hd2 ⟨rfl, s5, s6, s7, s8, s9, s10, s11, s12, s13, rfl⟩
      obtain ⟨rfl, ha⟩ := range_at hd2
      refine ⟨_, rfl, ?_⟩
      have hk := h.ok _ (getD_mem ha)
      have lc0 : ∀ s6 s7 s8 s9 s10 s12 s13 o, lcN (.one 11) cYes (cTup [cUn oInt (cAnd (cBin oEq (cVar 3) (cC (.int 0))) (cBin oEq (cVar 11) (cVar 5))), cC (.int 1)]) [.dat kd, .dat (.int N), .own RR, .dat (.int (m : Nat)), o, .dat (.int (a : Nat)), s6, s7, s8, s9, s10, .emp, s12, s13] (rangeD 0 ks.length) [] f2 = .ok (rw' ks.length (qd ks m a [])) f2 := fun s6 s7 s8 s9 s10 s12 s13 o => by
        rw [range0]
        refine lc_map (by rw [List.length_range]; omega) fun j hj => ⟨_, rfl, ?_⟩
        have e0 : enc (qd ks m a [] j) = .tuple [.int (if m = 0 ∧ j = a then 1 else 0), .int 1] := by
          unfold qd
          rw [show qs (qp ks j) m [] = 0 from rfl, Rat.add_zero]
          by_cases c : m = 0 ∧ j = a
          · rw [if_pos c, if_pos c]
            rfl
          · rw [if_neg c, if_neg c]
            rfl
        rw [e0]
        by_cases c1 : m = 0
        · by_cases c2 : j = a
          · simp [c1, c2]
          · simp [c1, c2, show ¬ (j : Int) = (a : Int) by omega]
        · simp [c1]
      have hka2 := hka a ha
      simp [-Dn.atI_nat, hkd, smallI_ok (n := (ks.length : Int)) (by omega) (by omega), lc0, hka2, kindD]
      have hk2 : kAt ks a ∈ ks := getD_mem ha
      generalize hkk : kAt ks a = k at hk
      refine ev_forT (I := fun (rest : List Tri) ρ f3 => f3 = f2 ∧ ∃ dn s7 s8 s9 s10 s11 s12 s13, dn ++ rest = k ∧ ρ = [.dat kd, .dat (.int N), .own RR, .dat (.int (m : Nat)), .own ((List.range a).map fun a => .tuple (rw' ks.length fun j => qp ks j m a)), .dat (.int (a : Nat)), .dat (.list (rw' ks.length (qd ks m a dn))), s7, s8, s9, s10, s11, s12, s13]) ?_ ?_ k _ f2 ⟨rfl, [], s7, s8, s9, s10, s11, s12, s13, rfl, rfl⟩
      · rintro t rest ρ f3 ⟨rfl, dn, s7, s8, s9, s10, s11, s12, s13, e2, rfl⟩
        have ht : t ∈ k := by rw [← e2]; simp
        obtain ⟨ht1, ht6, htn⟩ := hk.st t ht
        refine ⟨_, rfl, ?_⟩
        have hsn : ∀ j, qd ks m a (dn ++ [t]) j = qd ks m a dn j + if t.st ≤ m then t.c * qp ks j (m - t.st) t.nx else 0 := fun j => by
          unfold qd
          rw [qs_snoc]
          grind
        have hsub : dn.Sublist (kAt ks a) := by rw [hkk, ← e2]; exact List.sublist_append_left _ _
        have hsub2 : (dn ++ [t]).Sublist (kAt ks a) := by
          rw [hkk, ← e2, show dn ++ t :: rest = (dn ++ [t]) ++ rest by simp]
          exact List.sublist_append_left _ _
        by_cases hst : t.st ≤ m
        · have h0 : (t.st : Int) ≤ (m : Int) := by omega
          have ei : (m : Int) - (t.st : Int) = ((m - t.st : Nat) : Int) := by omega
          have a1 := hrow (m - t.st) (by omega)
          have a2 : atI ((List.range ks.length).map fun a => PyData.tuple (rw' ks.length fun j => qp ks j (m - t.st) a)) (t.nx : Int) = some (.tuple (rw' ks.length fun j => qp ks j (m - t.st) t.nx)) := at_range htn
          have zz : zipD (rw' ks.length (qd ks m a dn)) (rw' ks.length fun j => qp ks j (m - t.st) t.nx) = (List.range ks.length).map fun j => .tuple [enc (qd ks m a dn j), enc (qp ks j (m - t.st) t.nx)] := zipD_map _
          have lc : ∀ s10 s11 o, lcN (.many [12, 13]) cYes (cCall F_q_add [cVar 12, cCall F_q_by [cVar 9, cVar 13]]) [.dat kd, .dat (.int N), .own RR, .dat (.int (m : Nat)), o, .dat (.int (a : Nat)), .dat (.list (rw' ks.length (qd ks m a dn))), .dat (.int (t.st : Nat)), .dat (.int (t.nx : Nat)), .dat (enc t.c), s10, s11, .emp, .emp] ((List.range ks.length).map fun j => .tuple [enc (qd ks m a dn j), enc (qp ks j (m - t.st) t.nx)]) [] f3 = .ok (rw' ks.length (qd ks m a (dn ++ [t]))) f3 := fun s10 s11 o => by
            refine lc_map (by rw [List.length_range]; omega) fun j hj => ⟨_, rfl, ?_⟩
            have hj2 := List.mem_range.mp hj
            have z1 : Sz 4000 (qd ks m a dn j) := (qd_g h ha hj2 hsub).sz h.W0 hW (by omega)
            have z2 : Sz 4000 (qp ks j (m - t.st) t.nx) := (qp_g h htn hj2 (m - t.st)).sz h.W0 hW (by omega)
            have z3 : Sz 4000 t.c := (hk.cS hW ht).up (by decide)
            have z4 : Sz 4000 (t.c * qp ks j (m - t.st) t.nx) := (((hk.g ht).mul (qp_g h htn hj2 (m - t.st))).sz h.W0 hW (by omega))
            have p1 := q_by_q (f := f3) z3 z2 (Nat.le_refl _)
            have p2 := q_add_q (f := f3) z1 z4 (Nat.le_refl _)
            rw [hsn j, if_pos hst]
            simp [p1, p2]
          simp [-Dn.atI_nat, h0, ei, a1, rowsQ, a2, zz, lc]
          exact ⟨dn ++ [t], by rw [← e2]; simp, rfl⟩
        · have h0 : ¬ (t.st : Int) ≤ (m : Int) := by omega
          simp [h0]
          refine ⟨dn ++ [t], by rw [← e2]; simp, rw_congr fun j _ => ?_⟩
          rw [hsn, if_neg hst]
          grind
      · rintro ρ f3 ⟨rfl, dn, s7, s8, s9, s10, s11, s12, s13, e2, rfl⟩
        simp at e2
        subst e2
        have e9 : rw' ks.length (qd ks m a dn) = rw' ks.length fun j => qp ks j m a := rw_congr fun j _ => by
          rw [qp_eq h, hkk]
          rfl
        simp [show a < 100000 by omega]
        rw [List.range_succ, List.map_append, e9]
        rfl
    · rintro ρ f2 ⟨rfl, s5, s6, s7, s8, s9, s10, s11, s12, s13, rfl⟩
      rw [range_len]
      have e8 : (List.range m).map (rowsQ ks) ++ [rowsQ ks m] = (List.range (m + 1)).map (rowsQ ks) := by
        rw [List.range_succ, List.map_append]
        rfl
      rw [hRR] at e8
      rw [← e8]
      unfold rowsQ
      cases s6 <;> simp [hRl]
  · rintro ρ g ⟨rfl, s3, s4, s5, s6, s7, s8, s9, s10, s11, s12, s13, rfl⟩
    rw [range_len]
    have lc2 : ∀ (a : Nat) s2 s3 s6 s7 s8 s9 s10 s11 s12 s13, a < ks.length → lcN (.one 4) cYes (cBin oIx (cVar 4) (cVar 5)) [.dat kd, .dat (.int N), s2, s3, .emp, .dat (.int a), s6, s7, s8, s9, s10, s11, s12, s13] ((List.range (N + 1)).map (rowsQ ks)) [] g = .ok (putsD ks.length (kp ks a) N) g := fun a s2 s3 s6 s7 s8 s9 s10 s11 s12 s13 ha => by
      refine lc_map (by rw [List.length_range]; omega) fun q hq => ⟨_, rfl, ?_⟩
      have a2 : atI ((List.range ks.length).map fun a => PyData.tuple (rw' ks.length fun j => qp ks j q a)) (a : Int) = some (.tuple (rw' ks.length fun j => qp ks j q a)) := at_range ha
      have e7 : rw' ks.length (kp ks a q) = rw' ks.length fun j => qp ks j q a := rw_congr fun j hj => kp_qp h ha hj q
      rw [e7]
      unfold rowsQ
      simp [-Dn.atI_nat, a2]
    have lc1 : ∀ s3 s4 s6 s7 s8 s9 s10 s11 s12 s13, lcN (.one 5) cYes (cUn oTuple (cLc (iSeq (cVar 2)) (.one 4) cYes (cBin oIx (cVar 4) (cVar 5)) [4])) [.dat kd, .dat (.int N), .dat (.list ((List.range (N + 1)).map (rowsQ ks))), s3, s4, .emp, s6, s7, s8, s9, s10, s11, s12, s13] (rangeD 0 ks.length) [] g = .ok ((List.range ks.length).map fun a => .tuple (putsD ks.length (kp ks a) N)) g := fun s3 s4 s6 s7 s8 s9 s10 s11 s12 s13 => by
      rw [range0]
      refine lc_map (by rw [List.length_range]; omega) fun a ha => ⟨_, rfl, ?_⟩
      have := lc2 a (.dat (.list ((List.range (N + 1)).map (rowsQ ks)))) s3 s6 s7 s8 s9 s10 s11 s12 s13 (List.mem_range.mp ha)
      simp [this]
    cases s4 <;> simp [hkd, smallI_ok (n := (ks.length : Int)) (by omega) (by omega), lc1]
theorem stl_g (h : KsOk W ks) {j g : Nat} (hj : j < ks.length) : G W 1 1 (stl ks j g) := by
  have hk := h.ok _ (getD_mem hj)
  obtain ⟨w, h0, h1⟩ := hk.cp (pL g)
  exact (g_1 (K := W) (n := 1) (e := 0)).sub (G.of w (Nat.dvd_refl _) h0 h1)
theorem stl_min (h : KsOk W ks) {j g : Nat} (hj : j < ks.length) : stl ks j (min g 6) = stl ks j g := by
  have hk := h.ok _ (getD_mem hj)
  unfold stl cp
  congr 3
  refine List.filter_congr fun t ht => ?_
  have := (hk.st t ht).2.1
  unfold pL
  rw [decide_eq_decide]
  omega
def stP (ks : List (List Tri)) (a N j i : Nat) : Rat := rs i fun g => kp ks a (N - g) j * stl ks j g
theorem stP_g (h : KsOk W ks) {a N j i : Nat} (hj : j < ks.length) (hi : i ≤ 40) : G W (N + 1) (7 * N + 7) (stP ks a N j i) :=
  (G.rs (l := 6) (e := 7 * N + 1) (n := N + 1) (fun g hg => ((kp_g h (N - g) j).mul (stl_g h hj)).up (by omega) (by omega)) (by omega)).up (Nat.le_refl _) (by omega)
theorem puts_at {n N q : Nat} {R : Nat → Nat → Rat} (h : q ≤ N) : atI (putsD n R N) (q : Int) = some (.tuple (rw' n (R q))) := at_range (by omega)
theorem kind_stands_q {a N : Nat} (h : KsOk W ks) (hW : W ≤ 2 ^ 31) (hN : N ≤ 39) : F_kind_stands_v2 [.dat (kindsD ks), .dat (.int a), .dat (.int N)] f = .ok (.dat (.tuple (rw' ks.length (stands ks a N)))) f := by
  have hn4 := h.n4
  have kpq := kind_puts_all (a := a) (f := f) h hW hN
  have hkd : oLen (kindsD ks) = some (.dat (.int (ks.length : Nat))) := by
    unfold kindsD
    rw [oLen_tuple, List.length_map]
  have hkl : ∀ i f, i < ks.length → F_kind_life [.dat (kindsD ks), .dat (.int (i : Nat))] f = .ok (.dat (lifeD (lifeK (kAt ks i)))) f := fun i f hi => kind_life_q h hW (by
    unfold kAt
    rw [List.getD_eq_getElem?_getD, List.getElem?_eq_getElem hi]
    rfl)
  generalize kindsD ks = kd at *
  apply ev_is
  rw [u_kind_stands_v2, ev_dEnd]
  unfold S_kind_stands_v2
  simp [kpq, hkd, smallI_ok (n := (ks.length : Int)) (by omega) (by omega)]
  generalize hPP : putsD ks.length (kp ks a) N = PP
  refine ev_for (I := fun i ρ g => g = f ∧ ∃ s5 s6 s7 s8 s9, ρ = [.dat kd, .dat (.int a), .dat (.int N), .dat (.tuple PP), .own ((List.range i).map fun j => enc (stands ks a N j)), s5, s6, s7, s8, s9]) ⟨rfl, _, _, _, _, _, rfl⟩ ?_ ?_
  · rintro j d ρ g hd ⟨rfl, s5, s6, s7, s8, s9, rfl⟩
    obtain ⟨rfl, hj⟩ := range_at hd
    refine ⟨_, rfl, ?_⟩
    have hkl2 := hkl j g hj
    have lc : ∀ s4 s7 s8, lcN (.one 9) cYes (cCall F_lasting [cVar 6, cVar 9]) [.dat kd, .dat (.int a), .dat (.int N), .dat (.tuple PP), s4, .dat (.int j), .dat (lifeD (lifeK (kAt ks j))), s7, s8, .emp] (rangeD 0 7) [] g = .ok ((List.range 7).map fun g => enc (stl ks j g)) g := fun s4 s7 s8 => by
      rw [range0]
      refine lc_map (by rw [List.length_range]; decide) fun g2 hg => ⟨_, rfl, ?_⟩
      simp [lasting_K h hj (show g2 ≤ 40 by have := List.mem_range.mp hg; omega)]
    simp [hkl2, smallI_ok (n := 7) (by decide) (by decide), lc, smallI_ok (n := (N : Int) + 1) (by omega) (by omega)]
    refine ev_for (I := fun i ρ f2 => f2 = g ∧ ∃ s9, ρ = [.dat kd, .dat (.int a), .dat (.int N), .dat (.tuple PP), .own ((List.range j).map fun j => enc (stands ks a N j)), .dat (.int (j : Nat)), .dat (lifeD (lifeK (kAt ks j))), .dat (.list ((List.range 7).map fun g => enc (stl ks j g))), .dat (enc (stP ks a N j i)), s9]) ⟨rfl, s9, rfl⟩ ?_ ?_
    · rintro i d ρ f2 hd2 ⟨rfl, s9, rfl⟩
      obtain ⟨rfl, hi⟩ := range_at hd2
      refine ⟨_, rfl, ?_⟩
      have ei : (N : Int) - (i : Int) = ((N - i : Nat) : Int) := by omega
      have a1 : atI PP ((N - i : Nat) : Int) = some (.tuple (rw' ks.length (kp ks a (N - i)))) := by
        rw [← hPP]
        exact puts_at (by omega)
      have a2 := rw_at (g := kp ks a (N - i)) hj
      have e6 : min (i : Int) 6 = ((min i 6 : Nat) : Int) := by omega
      have a3 : atI ((List.range 7).map fun g => enc (stl ks j g)) ((min i 6 : Nat) : Int) = some (enc (stl ks j i)) := by
        rw [at_range (by omega), stl_min h hj]
      have z1 : Sz 4000 (kp ks a (N - i) j) := (kp_g h (N - i) j).sz h.W0 hW (by omega)
      have z2 : Sz 4000 (stl ks j i) := (stl_g h hj).sz h.W0 hW (by omega)
      have z3 : Sz 4000 (stP ks a N j i) := (stP_g h hj (by omega)).sz h.W0 hW (by omega)
      have z4 : Sz 4000 (kp ks a (N - i) j * stl ks j i) := ((kp_g h (N - i) j).mul (stl_g h hj)).sz h.W0 hW (by omega)
      have p1 := times_q (f := f2) z1 z2 (Nat.le_refl _)
      have p2 := plus_q (f := f2) z3 z4 (Nat.le_refl _)
      simp [-Dn.atI_nat, ei, a1, a2, e6, a3, p1, p2]
      unfold stP
      rw [rs_succ]
    · rintro ρ f2 ⟨rfl, s9, rfl⟩
      rw [range_len]
      simp [show j < 100000 by omega]
      rw [List.range_succ, List.map_append]
      rfl
  · rintro ρ g ⟨rfl, s5, s6, s7, s8, s9, rfl⟩
    rw [range_len]
    simp
    rfl
end
end Fp

/-! texts that repr tells are of right signs; lists of texts compared -/
namespace Fp
open PySem PySem.Spec L2 Dn
def sokk (x : Str) : Prop := ∀ c ∈ x.cps.toList, c < 0x110000
theorem sokk_str {x : Str} (h : sokk x) : PyData.strOk x = true := by
  unfold PyData.strOk
  rw [Array.all_eq_true_iff_forall_mem]
  intro c hc
  exact decide_eq_true (h c (Array.mem_toList_iff.mpr hc))
theorem sokk_app {x y : Str} (h : sokk x) (h2 : sokk y) : sokk (x ++ y) := fun c hc => (PyProof.Rows.mem_cps_append.mp hc).elim (h c) (h2 c)
theorem sokk_of (s : String) : sokk (Str.ofString s) := fun c hc => by
  rw [PyProof.Rows.signs_ofString] at hc
  obtain ⟨ch, _, rfl⟩ := List.mem_map.mp hc
  have := ch.valid
  rcases this with h | ⟨_, h⟩
  · have h2 : ch.val.toNat < 0xd800 := h
    show ch.val.toNat < _
    omega
  · exact h
theorem sokk_join : ∀ ts : List Str, (∀ t ∈ ts, sokk t) → sokk (Str.join ", " ts)
  | [], _ => sokk_of ""
  | [x], h => h x List.mem_cons_self
  | x :: y :: r, h => by
    have ih := sokk_join (y :: r) fun t ht => h t (List.mem_cons_of_mem _ ht)
    exact sokk_app (sokk_app (h x List.mem_cons_self) (sokk_of ", ")) ih
theorem sokk_from : ∀ (ts : List Str) (k : Nat) (acc : Str), sokk acc → (∀ t ∈ ts, sokk t) → sokk (PySem.textFrom k acc ts)
  | [], k, acc, h, _ => h
  | t :: r, k, acc, h, h2 => sokk_from r (k + 1) _ (sokk_app (sokk_app h (sokk_of _)) (h2 t List.mem_cons_self)) fun u hu => h2 u (List.mem_cons_of_mem _ hu)
mutual
def noStr : PyData → Bool
  | .str _ => false
  | .dict _ => false
  | .list xs => noStrs xs
  | .tuple xs => noStrs xs
  | _ => true
def noStrs : List PyData → Bool
  | [] => true
  | x :: r => noStr x && noStrs r
end
theorem noStrs_of : ∀ {ds : List PyData}, (∀ d ∈ ds, noStr d = true) → noStrs ds = true
  | [], _ => by simp [noStrs]
  | d :: r, h => by
    rw [noStrs, h d List.mem_cons_self, noStrs_of fun x hx => h x (List.mem_cons_of_mem _ hx)]
    rfl
mutual
theorem sokk_shown : ∀ d : PyData, noStr d = true → sokk d.shown
  | .none, _ => sokk_of _
  | .bool b, _ => by cases b <;> exact sokk_of _
  | .int i, _ => sokk_of _
  | .str x, h => by simp [noStr] at h
  | .dict x, h => by simp [noStr] at h
  | .list xs, h => by
    rw [noStr] at h
    exact sokk_app (sokk_from _ _ _ (sokk_of _) (sokk_all xs h)) (sokk_of _)
  | .tuple xs, h => by
    rw [noStr] at h
    exact sokk_app (sokk_app (sokk_of _) (sokk_join _ (sokk_all xs h))) (sokk_of _)
theorem sokk_all : ∀ ds : List PyData, noStrs ds = true → ∀ t ∈ PyData.shownAll ds, sokk t
  | [], _, t, ht => by cases ht
  | d :: r, h, t, ht => by
    rw [noStrs, Bool.and_eq_true] at h
    rcases List.mem_cons.mp ht with rfl | ht
    · exact sokk_shown d h.1
    · exact sokk_all r h.2 t ht
end
theorem can_strs : ∀ {ss : List Str}, (∀ s ∈ ss, sokk s) → PyData.canLayAll0 (ss.map .str) = true
  | [], _ => rfl
  | s :: r, h => by
    have := can_strs fun t ht => h t (List.mem_cons_of_mem _ ht)
    simp [PyData.canLayAll0, PyData.canLay0, sokk_str (h s List.mem_cons_self), this]
theorem depth_strs : ∀ {ss : List Str}, PyData.depthAll (ss.map .str) = 0
  | [] => rfl
  | s :: r => by
    have := depth_strs (ss := r)
    simp [PyData.depthAll, PyData.depth, this]
theorem eqv_strs : ∀ {ss ts : List Str}, PyData.eqvAll (ss.map .str) (ts.map .str) = decide (ss = ts)
  | [], [] => by simp [PyData.eqvAll]
  | [], _ :: _ => by simp [PyData.eqvAll]
  | _ :: _, [] => by simp [PyData.eqvAll]
  | s :: r, t :: u => by
    have := eqv_strs (ss := r) (ts := u)
    simp [PyData.eqvAll, this, eqv_str]
theorem shaped_strs {ss : List Str} (h : ∀ s ∈ ss, sokk s) : SeqAt.shaped (.list (ss.map .str)) = true := shaped_list (can_strs h) (by rw [depth_strs]; decide)
/-- lists of right texts -/
theorem ne_strs {ss ts : List Str} (h : ∀ s ∈ ss, sokk s) (h2 : ∀ s ∈ ts, sokk s) : oNe (.list (ss.map .str)) (.list (ts.map .str)) = some (.dat (.bool (!decide (ss = ts)))) := by
  rw [oNe_of (shaped_strs h) (shaped_strs h2)]
  simp [PyData.eqv, eqv_strs]
theorem eq_strs {ss ts : List Str} (h : ∀ s ∈ ss, sokk s) (h2 : ∀ s ∈ ts, sokk s) : oEq (.list (ss.map .str)) (.list (ts.map .str)) = some (.dat (.bool (decide (ss = ts)))) := by
  rw [oEq_of (shaped_strs h) (shaped_strs h2)]
  simp [PyData.eqv, eqv_strs]
theorem ne_2str {s : Str} (h : sokk s) : oNe (.list [.str s, .str s]) (.list [.str s, .str s]) = some (.dat (.bool false)) := by
  have := ne_strs (ss := [s, s]) (ts := [s, s]) (by simp [h]) (by simp [h])
  simpa using this
end Fp

/-! k55: what is asked -/
namespace Fp
open PySem PySem.Spec L2 Dn
/-- a list of lists, or of whatever may be told as a datum -/
theorem lc_mapV {τ : Type} {T : Tgt} {e : Ex} {ρ : Rho} {f : Feed} {xs : List τ} {enc g : τ → PyData} (hl : xs.length ≤ 100000)
    (h : ∀ x ∈ xs, ∃ ρ1 rv, T.put (enc x) ρ = some ρ1 ∧ e ρ1 f = .ok rv f ∧ rv.data = some (g x)) : lcN T cYes e ρ (xs.map enc) [] f = .ok (xs.map g) f := by
  refine ev_is (ev_lc (I := fun i acc f2 => f2 = f ∧ acc = (xs.take i).map g) (by rw [List.length_map]; exact hl) ?_ ?_ ⟨rfl, rfl⟩)
  · rintro i d acc f2 hd ⟨rfl, rfl⟩
    rw [List.getElem?_map] at hd
    obtain ⟨x, hx, rfl⟩ := Option.map_eq_some_iff.mp hd
    obtain ⟨ρ1, rv, h1, h2, h3⟩ := h x (List.mem_of_getElem? hx)
    refine ⟨ρ1, h1, true, f2, rfl, fun _ => ⟨rv, f2, h2, g x, h3, rfl, ?_⟩, fun z => by cases z⟩
    rw [List.take_add_one, hx, List.map_append]
    rfl
  · rintro acc f2 ⟨rfl, rfl⟩
    rw [List.length_map, List.take_length]
    exact ⟨rfl, rfl⟩
section
variable {W : Nat} {ks : List (List Tri)} {f : Feed}
theorem kinds_at {a : Nat} (ha : a < ks.length) : oIx (kindsD ks) (.int (a : Nat)) = some (.dat (kindD (kAt ks a))) := by
  unfold kindsD kAt
  rw [e_ix_tuple, Dn.atI_nat, List.getElem?_map, List.getD_eq_getElem?_getD, List.getElem?_eq_getElem ha]
  rfl
theorem kinds_list : ks.map kindD = (List.range ks.length).map fun i => kindD (kAt ks i) := by
  apply List.ext_getElem?
  intro i
  rw [List.getElem?_map, List.getElem?_map]
  by_cases h : i < ks.length
  · rw [List.getElem?_eq_getElem h, List.getElem?_eq_getElem (by simpa using h), List.getElem_range]
    unfold kAt
    simp [List.getD_eq_getElem?_getD, h]
  · rw [List.getElem?_eq_none (by omega), List.getElem?_eq_none (by simpa using h)]
    rfl
def stillD (ks : List (List Tri)) (N j : Nat) : PyData := .list ((List.range (N + 1)).map fun g => enc (stl ks j g))
theorem shows_rw {n : Nat} {g : Nat → Rat} (h : ∀ j, j < n → Sz 1850 (g j)) (hn : n ≤ 1000) : Dn.shows (.tuple (rw' n g)) = true := shows_range h (by omega)
theorem stands_g (h : KsOk W ks) {a N j : Nat} (hj : j < ks.length) (hN : N ≤ 39) : G W (N + 1) (7 * N + 7) (stands ks a N j) := stP_g h hj (by omega)
theorem q_right55 {N : Nat} (h : KsOk W ks) (hW : W ≤ 2 ^ 31) (hN : N ≤ 20) : F_q_right_v7 [.dat (kindsD ks), .dat (.int N)] f = .ok (.dat (.bool true)) f := by
  have hn4 := h.n4
  have hpu := q_puts_all (f := f) h hW (show N ≤ 39 by omega)
  have hkd : oLen (kindsD ks) = some (.dat (.int (ks.length : Nat))) := by
    unfold kindsD
    rw [oLen_tuple, List.length_map]
  have hsq : seqOf (kindsD ks) = some ((List.range ks.length).map fun i => kindD (kAt ks i)) := by
    rw [← kinds_list]
    rfl
  have hks : ∀ a f, F_kind_stands_v2 [.dat (kindsD ks), .dat (.int (a : Nat)), .dat (.int N)] f = .ok (.dat (.tuple (rw' ks.length (stands ks a N)))) f := fun a f => kind_stands_q h hW (by omega)
  have hre := oRepr_of ((nice_kinds h hW).shows (by decide) (by decide))
  generalize kindsD ks = kd at *
  apply ev_is
  rw [u_q_right_v7, ev_dEnd]
  unfold S_q_right_v7
  have lc1 : ∀ s2 s3 (j : Nat), j < ks.length → lcN (.one 10) cYes (cCall F_q_still [cVar 9, cVar 10]) [.dat kd, .dat (.int N), s2, s3, .emp, .emp, .emp, .emp, .emp, .dat (kindD (kAt ks j)), .emp, .emp, .emp] (rangeD 0 (N + 1)) [] f = .ok ((List.range (N + 1)).map fun g => enc (stl ks j g)) f := fun s2 s3 j hj => by
    rw [range0]
    refine lc_map (by rw [List.length_range]; omega) fun g hg => ⟨_, rfl, ?_⟩
    simp [q_still_q (h.ok _ (getD_mem hj)) hW]
    rfl
  have lc2 : ∀ s2 s3, lcN (.one 9) cYes (cLc (iRange1 (cBin oAdd (cVar 1) (cC (.int 1)))) (.one 10) cYes (cCall F_q_still [cVar 9, cVar 10]) [10]) [.dat kd, .dat (.int N), s2, s3, .emp, .emp, .emp, .emp, .emp, .emp, .emp, .emp, .emp] ((List.range ks.length).map fun i => kindD (kAt ks i)) [] f = .ok ((List.range ks.length).map (stillD ks N)) f := fun s2 s3 => by
    refine lc_mapV (by rw [List.length_range]; omega) fun j hj => ?_
    refine ⟨_, .own ((List.range (N + 1)).map fun g => enc (stl ks j g)), rfl, ?_, rfl⟩
    simp [smallI_ok (n := (N : Int) + 1) (by omega) (by omega), lc1 _ _ j (List.mem_range.mp hj)]
  have parts : ∀ (a j : Nat) s2 s5 s8 s9 s10 s12 g, a < ks.length → j < ks.length → lcN (.one 11) cYes (cCall F_q_by [cBin oIx (cBin oIx (cBin oIx (cVar 3) (cVar 5)) (cVar 11)) (cVar 7), cBin oIx (cBin oIx (cVar 4) (cVar 7)) (cBin oSub (cVar 1) (cVar 11))]) [.dat kd, .dat (.int N), s2, .dat (.list ((List.range ks.length).map fun a => .tuple (putsD ks.length (kp ks a) N))), .dat (.list ((List.range ks.length).map (stillD ks N))), .dat (.int a), s5, .dat (.int j), s8, s9, s10, .emp, s12] (rangeD 0 (N + 1)) [] g = .ok (((List.range (N + 1)).map fun q => kp ks a q j * stl ks j (N - q)).map enc) g := fun a j s2 s5 s8 s9 s10 s12 g ha hj => by
    rw [range0, List.map_map]
    refine lc_map (by rw [List.length_range]; omega) fun q hq => ⟨_, rfl, ?_⟩
    have hq2 : q ≤ N := by have := List.mem_range.mp hq; omega
    have a1 : atI ((List.range ks.length).map fun a => PyData.tuple (putsD ks.length (kp ks a) N)) (a : Int) = some (.tuple (putsD ks.length (kp ks a) N)) := at_range ha
    have a2 := puts_at (n := ks.length) (R := kp ks a) hq2
    have a3 := rw_at (g := kp ks a q) hj
    have a4 : atI ((List.range ks.length).map (stillD ks N)) (j : Int) = some (stillD ks N j) := at_range hj
    have ei : (N : Int) - (q : Int) = ((N - q : Nat) : Int) := by omega
    have a5 : atI ((List.range (N + 1)).map fun g => enc (stl ks j g)) ((N - q : Nat) : Int) = some (enc (stl ks j (N - q))) := at_range (by omega)
    have z1 : Sz 4000 (kp ks a q j) := (kp_g h q j).sz h.W0 hW (by omega)
    have z2 : Sz 4000 (stl ks j (N - q)) := (stl_g h hj).sz h.W0 hW (by omega)
    have p1 := q_by_q (f := g) z1 z2 (Nat.le_refl _)
    simp [-Dn.atI_nat, a1, a2, a3, a4, ei, stillD, a5, p1]
  (rw [e_seq, ev_bind]; simp [-e_seq, -Int.natCast_add, -Int.natCast_mul, hre])
  (rw [e_seq, ev_bind]; simp [-e_seq, -Int.natCast_add, -Int.natCast_mul, hpu])
  (rw [e_seq, ev_bind]; simp [-e_seq, -Int.natCast_add, -Int.natCast_mul])
  (rw [e_seq, ev_bind]; simp [-e_seq, -Int.natCast_add, -Int.natCast_mul, hsq, lc2])
  (rw [e_seq, ev_bind]; simp [-e_seq, -Int.natCast_add, -Int.natCast_mul])
  refine ev_step (fun ρ g => g = f ∧ ∃ s5 s6 s7 s8 s9 s10 s11 s12, ρ = [.dat kd, .dat (.int N), .dat (.str kd.shown), .dat (.list ((List.range ks.length).map fun a => .tuple (putsD ks.length (kp ks a) N))), .dat (.list ((List.range ks.length).map (stillD ks N))), s5, s6, s7, s8, s9, s10, s11, s12]) ?_ ?_
  · simp [hkd, smallI_ok (n := (ks.length : Int)) (by omega) (by omega)]
    refine ev_for (I := fun i ρ g => g = f ∧ ∃ s5 s6 s7 s8 s9 s10 s11 s12, ρ = [.dat kd, .dat (.int N), .dat (.str kd.shown), .dat (.list ((List.range ks.length).map fun a => .tuple (putsD ks.length (kp ks a) N))), .dat (.list ((List.range ks.length).map (stillD ks N))), s5, s6, s7, s8, s9, s10, s11, s12]) ⟨rfl, _, _, _, _, _, _, _, _, rfl⟩ ?_ ?_
    · rintro a d ρ g hd ⟨rfl, s5, s6, s7, s8, s9, s10, s11, s12, rfl⟩
      obtain ⟨rfl, ha⟩ := range_at hd
      refine ⟨_, rfl, ?_⟩
      have due := fun j (hj : j < ks.length) => stands_g (a := a) h hj (show N ≤ 39 by omega)
      have szd : ∀ j, j < ks.length → Sz 1850 (stands ks a N j) := fun j hj => (due j hj).szN h.W0 hW (by omega)
      have shd := oRepr_of (shows_rw szd (by omega))
      have sk : sokk (PyData.tuple (rw' ks.length (stands ks a N))).shown := sokk_shown _ (by
        rw [noStr]
        exact noStrs_of fun d hd => by
          obtain ⟨j, _, rfl⟩ := List.mem_map.mp hd
          rfl)
      have one : ((List.range ks.length).map (stands ks a N)).sum = 1 := stands_one h ha N
      (rw [e_seq, ev_bind]; simp [-e_seq, -Int.natCast_add, -Int.natCast_mul])
      refine ev_step (fun ρ f2 => f2 = g ∧ ∃ s7 s8 s9 s10 s11 s12, ρ = [.dat kd, .dat (.int N), .dat (.str kd.shown), .dat (.list ((List.range ks.length).map fun a => .tuple (putsD ks.length (kp ks a) N))), .dat (.list ((List.range ks.length).map (stillD ks N))), .dat (.int (a : Nat)), .own (rw' ks.length (stands ks a N)), s7, s8, s9, s10, s11, s12]) ?_ ?_
      · simp [hkd, smallI_ok (n := (ks.length : Int)) (by omega) (by omega)]
        refine ev_for (I := fun i ρ f2 => f2 = g ∧ ∃ s7 s8 s9 s10 s11 s12, ρ = [.dat kd, .dat (.int N), .dat (.str kd.shown), .dat (.list ((List.range ks.length).map fun a => .tuple (putsD ks.length (kp ks a) N))), .dat (.list ((List.range ks.length).map (stillD ks N))), .dat (.int (a : Nat)), .own ((List.range i).map fun j => enc (stands ks a N j)), s7, s8, s9, s10, s11, s12]) ⟨rfl, s7, s8, s9, s10, s11, s12, rfl⟩ ?_ ?_
        · rintro j d ρ f2 hd2 ⟨rfl, s7, s8, s9, s10, s11, s12, rfl⟩
          obtain ⟨rfl, hj⟩ := range_at hd2
          refine ⟨_, rfl, ?_⟩
          have pt := fun s2 s5 s8 s9 s10 s12 => parts a j s2 s5 s8 s9 s10 s12 f2 ha hj
          have al := q_all_gd (f := f2) (d0 := .list (((List.range (N + 1)).map fun q => kp ks a q j * stl ks j (N - q)).map enc)) (K := W) (n := N + 1) (e := 7 * N + 1) (b := 31) rfl (fun x hx => by
            obtain ⟨q, hq, rfl⟩ := List.mem_map.mp hx
            have hq2 := List.mem_range.mp hq
            exact ((kp_g h q j).mul (stl_g h hj)).up (by omega) (by omega)) h.W0 hW (by rw [List.length_map, List.length_range]; omega) (by omega)
          have es : ((List.range (N + 1)).map fun q => kp ks a q j * stl ks j (N - q)).sum = stands ks a N j := by
            rw [rs_list, ← rs_rev]
            unfold stands
            refine rs_congr fun g hg => ?_
            rw [show N + 1 - 1 - g = N - g by omega, show N - (N - g) = g by omega]
          rw [es] at al
          generalize ((List.range (N + 1)).map fun q => kp ks a q j * stl ks j (N - q)).map enc = LL at *
          simp [smallI_ok (n := (N : Int) + 1) (by omega) (by omega)]
          rw [pt]
          simp [al, show j < 100000 by omega]
          rw [List.range_succ, List.map_append]
          rfl
        · rintro ρ f2 ⟨rfl, s7, s8, s9, s10, s11, s12, rfl⟩
          rw [range_len]
          exact ⟨_, rfl, rfl, s7, s8, s9, s10, s11, s12, rfl⟩
      · rintro ρ f2 ⟨rfl, s7, s8, s9, s10, s11, s12, rfl⟩
        have al := q_all_gd (f := f2) (d0 := .list (rw' ks.length (stands ks a N))) (xs := (List.range ks.length).map (stands ks a N)) (K := W) (n := N + 1) (e := 7 * N + 7) (b := 31) (by unfold rw'; rw [List.map_map]; rfl) (fun x hx => by
          obtain ⟨j, hj, rfl⟩ := List.mem_map.mp hx
          exact due j (List.mem_range.mp hj)) h.W0 hW (by rw [List.length_map, List.length_range]; omega) (by omega)
        rw [one] at al
        have r2 : rangeD 0 2 = [.int 0, .int 1] := rfl
        have lcr : ∀ s8 s9 s10 s11, lcN (.one 12) cYes (cUn oRepr (cCall F_kind_stands_v2 [cVar 0, cVar 5, cVar 1])) [.dat kd, .dat (.int N), .dat (.str kd.shown), .dat (.list ((List.range ks.length).map fun a => .tuple (putsD ks.length (kp ks a) N))), .dat (.list ((List.range ks.length).map (stillD ks N))), .dat (.int (a : Nat)), .dat (.list (rw' ks.length (stands ks a N))), s7, s8, s9, s10, s11, .emp] (rangeD 0 2) [] f2 = .ok [.str (PyData.tuple (rw' ks.length (stands ks a N))).shown, .str (PyData.tuple (rw' ks.length (stands ks a N))).shown] f2 := fun s8 s9 s10 s11 => by
          rw [range0]
          rw [lc_map (g := fun _ => .str (PyData.tuple (rw' ks.length (stands ks a N))).shown) (by decide) fun i hi => ⟨_, rfl, by simp [hks, shd]⟩]
          rfl
        generalize rw' ks.length (stands ks a N) = RW at *
        generalize (PyData.tuple RW).shown = ST at *
        have e2 : (List.replicate (2 : Int).toNat [PyData.str ST]).flatten = [.str ST, .str ST] := rfl
        have n1 : oNe (enc 1) (.tuple [.int 1, .int 1]) = some (.dat (.bool false)) := by
          have := ne_enc (x := 1) (y := 1)
          simpa [enc1] using this
        cases s8 <;> simp [smallI_ok (n := 2) (by decide) (by decide), lcr, shd, ne_2str sk, al, n1]
    · rintro ρ g ⟨rfl, s5, s6, s7, s8, s9, s10, s11, s12, rfl⟩
      simp
  · rintro ρ g ⟨rfl, s5, s6, s7, s8, s9, s10, s11, s12, rfl⟩
    simp [hre]
end
end Fp

namespace Lfreshparts_k55_which_kind_stands
open PySem PySem.Spec L2 Dn Fp
/-- law, behind its first row; slots: 0 _law_script, 1 _law_feed_here, 2 _law_k, 3 _law_size, 4 _law_kinds_here -/
noncomputable def S_law : Sm := sSeq (sFor (iRange1 (cC (.int 3))) (.one 2) (sSeq (sSet 3 (cBin oAdd (cC (.int 1)) (cCall F_q_draw_v3 [cVar 1, cC (.int 4)]))) (sSeq (sSet 4 (cCall F_q_kinds [cVar 1, cVar 3, cBin oEq (cCall F_q_draw_v3 [cVar 1, cC (.int 2)]) (cC (.int 0))])) (sIf (tNotX (cT (cCall F_q_right_v7 [cVar 4, cBin oMin (cBin oIx (cLst [cC (.int 0), cC (.int 1), cC (.int 3), cC (.int 6), cC (.int 8), cC (.int 11), cC (.int 20)]) (cCall F_q_draw_v3 [cVar 1, cC (.int 7)])) (cIf (cT (cBin oEq (cVar 3) (cC (.int 4)))) (cC (.int 11)) (cC (.int 20)))]))) (sRet (cC (.bool false))) (sNext))))) (sRet (cCall F_q_right_v7 [cCall F_q_wide_kinds [cVar 1], cCall F_q_draw_v3 [cVar 1, cC (.int 8)]]))
theorem fin : ∀ ns : List Int, ns.length ≤ 63 → ∃ f, S_law (.emp :: .feed :: List.replicate 3 .emp) (feed0 ns) = .ok (.rt (.dat (.bool true))) f := by
  intro ns hns
  suffices h : Ev (S_law (.emp :: .feed :: List.replicate 3 .emp) (feed0 ns)) (fun c _ => c = .rt (.dat (.bool true))) by
    obtain ⟨c, f, e, rfl⟩ := h
    exact ⟨f, e⟩
  unfold S_law
  simp [smallI_ok (n := 3) (by decide) (by decide)]
  refine ev_for (I := fun i ρ g => Fd (80 * i) g ∧ ∃ s2 s3 s4, ρ = [.emp, .feed, s2, s3, s4]) ⟨by simpa using fd0 ns, _, _, _, rfl⟩ ?_ ?_
  · rintro i d ρ g hd ⟨hF, s2, s3, s4, rfl⟩
    obtain ⟨rfl, hi⟩ := range_at hd
    refine ⟨_, rfl, ?_⟩
    have hi4 : i < 3 := by simpa using hi
    simp
    refine Ev.drawn (draw_v3_ok (by decide) (by decide) hF (by omega)) fun a g1 a0 a4 hF1 => ?_
    obtain ⟨n, hn⟩ : ∃ n : Nat, 1 + a = n := ⟨(1 + a).toNat, by omega⟩
    simp [hn]
    refine Ev.drawn (draw_v3_ok (by decide) (by decide) hF1 (by omega)) fun b g2 b0 b2 hF2 => ?_
    simp
    refine Ev.mono (kinds_ok hF2 (by omega) (by omega) (by omega) (by omega)) ?_
    rintro _ g3 ⟨ks, W, rfl, h1, h2, _, _, hF3⟩
    simp
    refine Ev.drawn (draw_v3_ok (by decide) (by decide) hF3 (by omega)) fun c g4 c0 c7 hF4 => ?_
    obtain ⟨l0, hl0, el0⟩ : ∃ l : Nat, l ≤ 20 ∧ atI [PyData.int 0, PyData.int 1, PyData.int 3, PyData.int 6, PyData.int 8, PyData.int 11, PyData.int 20] c = some (.int l) := by
      obtain rfl | rfl | rfl | rfl | rfl | rfl | rfl : c = 0 ∨ c = 1 ∨ c = 2 ∨ c = 3 ∨ c = 4 ∨ c = 5 ∨ c = 6 := by omega
      · exact ⟨0, by decide, rfl⟩
      · exact ⟨1, by decide, rfl⟩
      · exact ⟨3, by decide, rfl⟩
      · exact ⟨6, by decide, rfl⟩
      · exact ⟨8, by decide, rfl⟩
      · exact ⟨11, by decide, rfl⟩
      · exact ⟨20, by decide, rfl⟩
    have r1 : ∀ (m : Nat), F_q_right_v7 [.dat (kindsD ks), .dat (.int (min (l0 : Int) (m : Int)))] g4 = .ok (.dat (.bool true)) g4 := fun m => by
      have e : min (l0 : Int) (m : Int) = ((min l0 m : Nat) : Int) := by omega
      rw [e]
      exact q_right55 h1 h2 (by omega)
    have r11 := r1 11
    have r20 := r1 20
    by_cases c4 : (n : Int) = 4
    · simp [el0, c4]
      erw [r11]
      simp
      exact hF4.up (by omega)
    · simp [el0, c4]
      erw [r20]
      simp
      exact hF4.up (by omega)
  · rintro ρ g ⟨hF, s2, s3, s4, rfl⟩
    rw [range_len] at hF
    simp
    refine Ev.mono (wide_ok (t := 240) hF (by decide) (by decide)) ?_
    rintro _ g3 ⟨ks, W, rfl, h1, h2, hF3⟩
    simp
    refine Ev.drawnE (draw_v3_ok (by decide) (by decide) hF3 (by omega)) fun c g4 c0 c7 hF4 => ?_
    obtain ⟨m, rfl⟩ := Int.eq_ofNat_of_zero_le c0
    have := q_right55 (f := g4) h1 h2 (show m ≤ 20 by omega)
    simp [this]
section
set_option maxHeartbeats 4000000
def topS (i : Nat) : Stmt := PySem.Challenge.pw_freshparts_k55_which_kind_stands.main.body.getD i (.Pass ⟨0, 0, 0, 0⟩)
abbrev st_q_feed : Stmt := topS 28
abbrev N_q_feed : List Str := ["_law_script"]
theorem sc_q_feed : FnScope N_q_feed ["_law_script"] (defScope st_q_feed) := ⟨rfl, rfl, rfl, by decide +kernel, rfl, by decide +kernel, by decide +kernel⟩
abbrev st_q_draw : Stmt := topS 29
abbrev N_q_draw : List Str := ["_law_feed_here", "_law_size", "_law_turn", "_law_digit", "_law_at", "_law_cell", "_law_mixed"]
theorem sc_q_draw : FnScope N_q_draw ["_law_feed_here", "_law_size"] (defScope st_q_draw) := ⟨rfl, rfl, rfl, by decide +kernel, rfl, by decide +kernel, by decide +kernel⟩
abbrev st_q_lowest : Stmt := topS 30
abbrev N_q_lowest : List Str := ["_law_top", "_law_bottom", "_law_one", "_law_other"]
theorem sc_q_lowest : FnScope N_q_lowest ["_law_top", "_law_bottom"] (defScope st_q_lowest) := ⟨rfl, rfl, rfl, by decide +kernel, rfl, by decide +kernel, by decide +kernel⟩
abbrev st_q_following : Stmt := topS 34
abbrev N_q_following : List Str := ["_law_feed_here", "_law_way", "_law_k", "_law_size"]
theorem sc_q_following : FnScope N_q_following ["_law_feed_here", "_law_way", "_law_k", "_law_size"] (defScope st_q_following) := ⟨rfl, rfl, rfl, by decide +kernel, rfl, by decide +kernel, by decide +kernel⟩
abbrev st_q_kinds : Stmt := topS 35
abbrev N_q_kinds : List Str := ["_law_feed_here", "_law_size", "_law_is_full", "_law_way", "_law_kinds_here", "_law_k", "_law_marks", "_law_lack", "_law_turn", "_law_pair", "_law_total"]
theorem sc_q_kinds : FnScope N_q_kinds ["_law_feed_here", "_law_size", "_law_is_full"] (defScope st_q_kinds) := ⟨rfl, rfl, rfl, by decide +kernel, rfl, by decide +kernel, by decide +kernel⟩
abbrev st_q_wide_kinds : Stmt := topS 38
abbrev N_q_wide_kinds : List Str := ["_law_feed_here", "_law_size", "_law_kinds_here", "_law_k", "_law_weights", "_law_total", "_law_some", "_law_at"]
theorem sc_q_wide_kinds : FnScope N_q_wide_kinds ["_law_feed_here"] (defScope st_q_wide_kinds) := ⟨rfl, rfl, rfl, by decide +kernel, rfl, by decide +kernel, by decide +kernel⟩
abbrev st_common : Stmt := topS 6
abbrev N_common : List Str := ["one", "other"]
theorem sc_common : FnScope N_common ["one", "other"] (defScope st_common) := ⟨rfl, rfl, rfl, by decide +kernel, rfl, by decide +kernel, by decide +kernel⟩
abbrev st_ratio : Stmt := topS 7
abbrev N_ratio : List Str := ["top", "bottom", "sign", "part"]
theorem sc_ratio : FnScope N_ratio ["top", "bottom"] (defScope st_ratio) := ⟨rfl, rfl, rfl, by decide +kernel, rfl, by decide +kernel, by decide +kernel⟩
abbrev st_plus : Stmt := topS 8
abbrev N_plus : List Str := ["one", "other"]
theorem sc_plus : FnScope N_plus ["one", "other"] (defScope st_plus) := ⟨rfl, rfl, rfl, by decide +kernel, rfl, by decide +kernel, by decide +kernel⟩
abbrev st_times : Stmt := topS 10
abbrev N_times : List Str := ["one", "other"]
theorem sc_times : FnScope N_times ["one", "other"] (defScope st_times) := ⟨rfl, rfl, rfl, by decide +kernel, rfl, by decide +kernel, by decide +kernel⟩
abbrev st_minus : Stmt := topS 9
abbrev N_minus : List Str := ["one", "other"]
theorem sc_minus : FnScope N_minus ["one", "other"] (defScope st_minus) := ⟨rfl, rfl, rfl, by decide +kernel, rfl, by decide +kernel, by decide +kernel⟩
abbrev st_summed : Stmt := topS 11
abbrev N_summed : List Str := ["some", "found", "one"]
theorem sc_summed : FnScope N_summed ["some"] (defScope st_summed) := ⟨rfl, rfl, rfl, by decide +kernel, rfl, by decide +kernel, by decide +kernel⟩
abbrev st_chance_at : Stmt := topS 13
abbrev N_chance_at : List Str := ["life", "k", "row", "step", "found", "turn"]
theorem sc_chance_at : FnScope N_chance_at ["life", "k"] (defScope st_chance_at) := ⟨rfl, rfl, rfl, by decide +kernel, rfl, by decide +kernel, by decide +kernel⟩
abbrev st_chances_to : Stmt := topS 14
abbrev N_chances_to : List Str := ["life", "most", "k"]
theorem sc_chances_to : FnScope N_chances_to ["life", "most"] (defScope st_chances_to) := ⟨rfl, rfl, rfl, by decide +kernel, rfl, by decide +kernel, by decide +kernel⟩
abbrev st_lasting : Stmt := topS 15
abbrev N_lasting : List Str := ["life", "k"]
theorem sc_lasting : FnScope N_lasting ["life", "k"] (defScope st_lasting) := ⟨rfl, rfl, rfl, by decide +kernel, rfl, by decide +kernel, by decide +kernel⟩
abbrev st_short : Stmt := topS 16
abbrev N_short : List Str := ["life", "row", "step"]
theorem sc_short : FnScope N_short ["life"] (defScope st_short) := ⟨rfl, rfl, rfl, by decide +kernel, rfl, by decide +kernel, by decide +kernel⟩
abbrev st_kind_life : Stmt := topS 20
abbrev N_kind_life : List Str := ["kinds", "kind", "row", "stretch", "following", "chance", "k"]
theorem sc_kind_life : FnScope N_kind_life ["kinds", "kind"] (defScope st_kind_life) := ⟨rfl, rfl, rfl, by decide +kernel, rfl, by decide +kernel, by decide +kernel⟩
abbrev st_begun_by : Stmt := topS 23
abbrev N_begun_by : List Str := ["kinds", "first", "kind"]
theorem sc_begun_by : FnScope N_begun_by ["kinds", "first"] (defScope st_begun_by) := ⟨rfl, rfl, rfl, by decide +kernel, rfl, by decide +kernel, by decide +kernel⟩
abbrev st_row_behind : Stmt := topS 24
abbrev N_row_behind : List Str := ["kinds", "rows", "row", "kind", "triples", "stretch", "following", "chance"]
theorem sc_row_behind : FnScope N_row_behind ["kinds", "rows"] (defScope st_row_behind) := ⟨rfl, rfl, rfl, by decide +kernel, rfl, by decide +kernel, by decide +kernel⟩
abbrev st_kind_puts : Stmt := topS 25
abbrev N_kind_puts : List Str := ["kinds", "first", "most", "rows", "beat", "row"]
theorem sc_kind_puts : FnScope N_kind_puts ["kinds", "first", "most"] (defScope st_kind_puts) := ⟨rfl, rfl, rfl, by decide +kernel, rfl, by decide +kernel, by decide +kernel⟩
abbrev st_kind_stands : Stmt := topS 26
abbrev N_kind_stands : List Str := ["kinds", "first", "beat", "rows", "found", "kind", "life", "still", "total", "age"]
theorem sc_kind_stands : FnScope N_kind_stands ["kinds", "first", "beat"] (defScope st_kind_stands) := ⟨rfl, rfl, rfl, by decide +kernel, rfl, by decide +kernel, by decide +kernel⟩
abbrev st_q_by : Stmt := topS 32
abbrev N_q_by : List Str := ["_law_one", "_law_other"]
theorem sc_q_by : FnScope N_q_by ["_law_one", "_law_other"] (defScope st_q_by) := ⟨rfl, rfl, rfl, by decide +kernel, rfl, by decide +kernel, by decide +kernel⟩
abbrev st_q_add : Stmt := topS 31
abbrev N_q_add : List Str := ["_law_one", "_law_other"]
theorem sc_q_add : FnScope N_q_add ["_law_one", "_law_other"] (defScope st_q_add) := ⟨rfl, rfl, rfl, by decide +kernel, rfl, by decide +kernel, by decide +kernel⟩
abbrev st_q_all : Stmt := topS 33
abbrev N_q_all : List Str := ["_law_numbers", "_law_found", "_law_number"]
theorem sc_q_all : FnScope N_q_all ["_law_numbers"] (defScope st_q_all) := ⟨rfl, rfl, rfl, by decide +kernel, rfl, by decide +kernel, by decide +kernel⟩
abbrev st_q_puts : Stmt := topS 36
abbrev N_q_puts : List Str := ["_law_kinds_here", "_law_beats", "_law_rows", "_law_beat", "_law_row", "_law_first", "_law_here", "_law_stretch", "_law_following_here", "_law_own", "_law_before", "_law_kind", "_law_one", "_law_other"]
theorem sc_q_puts : FnScope N_q_puts ["_law_kinds_here", "_law_beats"] (defScope st_q_puts) := ⟨rfl, rfl, rfl, by decide +kernel, rfl, by decide +kernel, by decide +kernel⟩
abbrev st_q_still : Stmt := topS 37
abbrev N_q_still : List Str := ["_law_triples", "_law_age", "_law_gone", "_law_stretch", "_law_following_here", "_law_own"]
theorem sc_q_still : FnScope N_q_still ["_law_triples", "_law_age"] (defScope st_q_still) := ⟨rfl, rfl, rfl, by decide +kernel, rfl, by decide +kernel, by decide +kernel⟩
abbrev st_q_right : Stmt := topS 39
abbrev N_q_right : List Str := ["_law_kinds_here", "_law_beat", "_law_text", "_law_rows", "_law_still_here", "_law_first", "_law_due", "_law_kind", "_law_parts", "_law_triples", "_law_age", "_law_n", "_law_turn"]
theorem sc_q_right : FnScope N_q_right ["_law_kinds_here", "_law_beat"] (defScope st_q_right) := ⟨rfl, rfl, rfl, by decide +kernel, rfl, by decide +kernel, by decide +kernel⟩
abbrev st_law : Stmt := topS 40
abbrev N_law : List Str := ["_law_script", "_law_feed_here", "_law_k", "_law_size", "_law_kinds_here"]
theorem sc_law : FnScope N_law ["_law_script"] (defScope st_law) := ⟨rfl, rfl, rfl, by decide +kernel, rfl, by decide +kernel, by decide +kernel⟩
/-- what the top has written: the facts -/
structure Txt (K : PySem.W.Frag) (mg : Str → Option Value) : Prop where
  n_abs : mg "abs" = none
  n_enumerate : mg "enumerate" = none
  n_int : mg "int" = none
  n_len : mg "len" = none
  n_list : mg "list" = none
  n_max : mg "max" = none
  n_min : mg "min" = none
  n_range : mg "range" = none
  n_repr : mg "repr" = none
  n_sorted : mg "sorted" = none
  n_sum : mg "sum" = none
  n_tuple : mg "tuple" = none
  n_zip : mg "zip" = none
  s_q_feed : Src K mg "_law_feed" "_law_feed" st_q_feed ["_law_script"]
  s_q_draw : Src K mg "_law_draw" "_law_draw" st_q_draw ["_law_feed_here", "_law_size"]
  s_q_lowest : Src K mg "_law_lowest" "_law_lowest" st_q_lowest ["_law_top", "_law_bottom"]
  s_q_following : Src K mg "_law_following" "_law_following" st_q_following ["_law_feed_here", "_law_way", "_law_k", "_law_size"]
  s_q_kinds : Src K mg "_law_kinds" "_law_kinds" st_q_kinds ["_law_feed_here", "_law_size", "_law_is_full"]
  s_q_wide_kinds : Src K mg "_law_wide_kinds" "_law_wide_kinds" st_q_wide_kinds ["_law_feed_here"]
  s_common : Src K mg "common" "common" st_common ["one", "other"]
  s_ratio : Src K mg "ratio" "ratio" st_ratio ["top", "bottom"]
  s_plus : Src K mg "plus" "plus" st_plus ["one", "other"]
  s_times : Src K mg "times" "times" st_times ["one", "other"]
  s_minus : Src K mg "minus" "minus" st_minus ["one", "other"]
  s_summed : Src K mg "summed" "summed" st_summed ["some"]
  s_chance_at : Src K mg "chance_at" "chance_at" st_chance_at ["life", "k"]
  s_chances_to : Src K mg "chances_to" "chances_to" st_chances_to ["life", "most"]
  s_lasting : Src K mg "lasting" "lasting" st_lasting ["life", "k"]
  s_short : Src K mg "short" "short" st_short ["life"]
  s_kind_life : Src K mg "kind_life" "kind_life" st_kind_life ["kinds", "kind"]
  s_begun_by : Src K mg "begun_by" "begun_by" st_begun_by ["kinds", "first"]
  s_row_behind : Src K mg "row_behind" "row_behind" st_row_behind ["kinds", "rows"]
  s_kind_puts : Src K mg "kind_puts" "kind_puts" st_kind_puts ["kinds", "first", "most"]
  s_kind_stands : Src K mg "kind_stands" "kind_stands" st_kind_stands ["kinds", "first", "beat"]
  s_q_by : Src K mg "_law_by" "_law_by" st_q_by ["_law_one", "_law_other"]
  s_q_add : Src K mg "_law_add" "_law_add" st_q_add ["_law_one", "_law_other"]
  s_q_all : Src K mg "_law_all" "_law_all" st_q_all ["_law_numbers"]
  s_q_puts : Src K mg "_law_puts" "_law_puts" st_q_puts ["_law_kinds_here", "_law_beats"]
  s_q_still : Src K mg "_law_still" "_law_still" st_q_still ["_law_triples", "_law_age"]
  s_q_right : Src K mg "_law_right" "_law_right" st_q_right ["_law_kinds_here", "_law_beat"]
  s_law : Src K mg "law" "law" st_law ["_law_script"]
  k_NOUGHT_ratios : ∃ a, mg "NOUGHT_ratios" = some (.ref a) ∧ ∀ HF, DR K HF (.ref a) d_NOUGHT
  k_ONE : ∃ a, mg "ONE" = some (.ref a) ∧ ∀ HF, DR K HF (.ref a) d_ONE
  k_LONGEST : ∃ t, mg "LONGEST" = some (.int 6 t)
  k_NOUGHT_kinds : ∃ a, mg "NOUGHT_kinds" = some (.ref a) ∧ ∀ HF, DR K HF (.ref a) d_NOUGHT
  k_NOUGHT_kindputs : ∃ a, mg "NOUGHT_kindputs" = some (.ref a) ∧ ∀ HF, DR K HF (.ref a) d_NOUGHT
theorem c_NOUGHT_ratios {K : PySem.W.Frag} {mg : Str → Option Value} (T : Txt K mg) {X : Cx} {W : Wish} {p : Pos} (hK : X.K = K) (hm : X.mg = mg) (hg : Gl X "NOUGHT_ratios") : DE X W (.Name "NOUGHT_ratios" p) (cC d_NOUGHT) := by
  subst hK
  subst hm
  obtain ⟨a, h1, h2⟩ := T.k_NOUGHT_ratios
  exact de_glob hg h1 (v := .ref a) rfl h2 (by decide)
theorem c_ONE {K : PySem.W.Frag} {mg : Str → Option Value} (T : Txt K mg) {X : Cx} {W : Wish} {p : Pos} (hK : X.K = K) (hm : X.mg = mg) (hg : Gl X "ONE") : DE X W (.Name "ONE" p) (cC d_ONE) := by
  subst hK
  subst hm
  obtain ⟨a, h1, h2⟩ := T.k_ONE
  exact de_glob hg h1 (v := .ref a) rfl h2 (by decide)
theorem c_LONGEST {K : PySem.W.Frag} {mg : Str → Option Value} (T : Txt K mg) {X : Cx} {W : Wish} {p : Pos} (hK : X.K = K) (hm : X.mg = mg) (hg : Gl X "LONGEST") : DE X W (.Name "LONGEST" p) (cC d_LONGEST) := by
  subst hK
  subst hm
  obtain ⟨t, h1⟩ := T.k_LONGEST
  exact de_glob hg h1 (v := .int 6) ⟨t, rfl⟩ (fun _ => .int _) (by decide)
theorem c_NOUGHT_kinds {K : PySem.W.Frag} {mg : Str → Option Value} (T : Txt K mg) {X : Cx} {W : Wish} {p : Pos} (hK : X.K = K) (hm : X.mg = mg) (hg : Gl X "NOUGHT_kinds") : DE X W (.Name "NOUGHT_kinds" p) (cC d_NOUGHT) := by
  subst hK
  subst hm
  obtain ⟨a, h1, h2⟩ := T.k_NOUGHT_kinds
  exact de_glob hg h1 (v := .ref a) rfl h2 (by decide)
theorem c_NOUGHT_kindputs {K : PySem.W.Frag} {mg : Str → Option Value} (T : Txt K mg) {X : Cx} {W : Wish} {p : Pos} (hK : X.K = K) (hm : X.mg = mg) (hg : Gl X "NOUGHT_kindputs") : DE X W (.Name "NOUGHT_kindputs" p) (cC d_NOUGHT) := by
  subst hK
  subst hm
  obtain ⟨a, h1, h2⟩ := T.k_NOUGHT_kindputs
  exact de_glob hg h1 (v := .ref a) rfl h2 (by decide)
section
variable {P : Program} {w : World} {K : PySem.W.Frag} {mg : Str → Option Value} {base : Heap}
theorem h_q_draw (T : Txt K mg)  : Has P w K mg base 1 "_law_draw" ["_law_feed_here", "_law_size"] F_q_draw_v3 :=
  has_mk (k := 0) T.s_q_draw sc_q_draw fun ff cdv A outer s0 H E gd hr => by
    have hu := hr.units
    exact (dss_cons (ds_set (i := 2) sc_q_draw.nd rfl (.inl rfl) (de_add (de_feed (hu1 hu) (de_var (pv 0)) (fun _ _ => rfl)) de_int)) (dss_cons (ds_feed (hu1 hu) (de_var (pv 0)) (de_var (pv 2))) (dss_cons (ds_if (dt_gt (de_feed (hu1 hu) (de_var (pv 0)) (fun _ _ => rfl)) de_int) (dss_cons (ds_set (i := 3) sc_q_draw.nd rfl (.inl rfl) (de_mod (de_feed (hu1 hu) (de_var (pv 0)) (fun _ _ => rfl)) (de_var (pv 1)))) (dss_cons (ds_feed (hu1 hu) (de_var (pv 0)) (de_fdiv (de_feed (hu1 hu) (de_var (pv 0)) (fun _ _ => rfl)) (de_var (pv 1)))) (dss_one (ds_ret (de_var (pv 3)))))) dss_nil) (dss_cons (ds_set (i := 4) sc_q_draw.nd rfl (.inl rfl) (de_feed (hu1 hu) (de_var (pv 0)) (fun _ _ => rfl))) (dss_cons (ds_feed (hu1 hu) (de_var (pv 0)) (de_add (de_var (pv 4)) de_int)) (dss_cons (ds_set (i := 5) sc_q_draw.nd rfl (.inl rfl) (de_if (dt_ne hu (de_feed (hu1 hu) (de_var (pv 0)) (fun _ _ => rfl)) (de_lst da_nil)) (de_ix (de_feed (hu1 hu) (de_var (pv 0)) (fun _ _ => rfl)) (de_mod (de_var (pv 4)) (de_len (by rfl) T.n_len (de_feed (hu1 hu) (de_var (pv 0)) (fun _ _ => rfl)))) (fun _ _ => rfl)) de_int)) (dss_cons (ds_if (dt_w (dw_and (dt_ge (de_var (pv 5)) (de_pow de_int de_int)) (dw_and1 (dt_lt (de_var (pv 4)) (de_len (by rfl) T.n_len (de_feed (hu1 hu) (de_var (pv 0)) (fun _ _ => rfl))))))) (dss_cons (ds_feed (hu1 hu) (de_var (pv 0)) (de_fdiv (de_var (pv 5)) (de_var (pv 1)))) (dss_one (ds_ret (de_mod (de_var (pv 5)) (de_var (pv 1)))))) dss_nil) (dss_cons (ds_set (i := 6) sc_q_draw.nd rfl (.inl rfl) (de_mod (de_pow (de_add (de_add (de_mod (de_var (pv 5)) de_int) (de_mul de_int (de_var (pv 2)))) de_int) de_int) de_int)) (dss_cons (ds_set (i := 6) sc_q_draw.nd rfl (.inl rfl) (de_mod (de_pow (de_add (de_var (pv 6)) (de_mul de_int (de_var (pv 2)))) de_int) de_int)) (dss_one (ds_ret (de_mod (de_fdiv (de_var (pv 6)) de_int) (de_var (pv 1))))))))))))))
theorem h_q_lowest (T : Txt K mg)  : Has P w K mg base 1 "_law_lowest" ["_law_top", "_law_bottom"] F_q_lowest :=
  has_mk (k := 0) T.s_q_lowest sc_q_lowest fun ff cdv A outer s0 H E gd hr => by
    have hu := hr.units
    exact (dss_cons (ds_par (i := 2) (j := 3) rfl sc_q_lowest.nd rfl rfl (by decide) rfl rfl (da_cons (de_abs (by rfl) T.n_abs (de_var (pv 0))) (da_cons (de_var (pv 1)) da_nil)) (by rfl)) (dss_cons (ds_while PassesOwn.never (dt_gt (de_var (pv 3)) de_int) (dss_one (ds_par (i := 2) (j := 3) rfl sc_q_lowest.nd rfl rfl (by decide) rfl rfl (da_cons (de_var (pv 3)) (da_cons (de_mod (de_var (pv 2)) (de_var (pv 3))) da_nil)) (by rfl)))) (dss_one (ds_ret (de_tup (da_cons (de_fdiv (de_var (pv 0)) (de_var (pv 2))) (da_cons (de_fdiv (de_var (pv 1)) (de_var (pv 2))) da_nil)))))))
theorem h_q_following (T : Txt K mg) (H_q_draw : Has P w K mg base 1 "_law_draw" ["_law_feed_here", "_law_size"] F_q_draw_v3) : Has P w K mg base 2 "_law_following" ["_law_feed_here", "_law_way", "_law_k", "_law_size"] F_q_following :=
  has_mk (k := 1) T.s_q_following sc_q_following fun ff cdv A outer s0 H E gd hr => by
    have hu := hr.units
    exact (dss_cons (ds_if (dt_eq hu (de_var (pv 1)) de_int) (dss_one (ds_ret (de_mod (de_add (de_var (pv 2)) de_int) (de_var (pv 3))))) dss_nil) (dss_cons (ds_if (dt_eq hu (de_var (pv 1)) de_int) (dss_one (ds_ret (de_var (pv 2)))) dss_nil) (dss_cons (ds_if (dt_eq hu (de_var (pv 1)) de_int) (dss_one (ds_ret (de_min2 rfl (by rfl) T.n_min (de_sub (de_var (pv 3)) de_int) (de_add (de_mul (de_fdiv (de_var (pv 2)) de_int) de_int) (de_has H_q_draw gd (hr.mono (by decide)) (by rfl) (da_cons (de_var (pv 0)) (da_cons de_int da_nil))))))) dss_nil) (dss_one (ds_ret (de_if (dt_eq hu (de_var (pv 1)) de_int) (de_has H_q_draw gd (hr.mono (by decide)) (by rfl) (da_cons (de_var (pv 0)) (da_cons (de_add (de_var (pv 2)) de_int) da_nil))) (de_has H_q_draw gd (hr.mono (by decide)) (by rfl) (da_cons (de_var (pv 0)) (da_cons (de_var (pv 3)) da_nil)))))))))
theorem h_q_kinds (T : Txt K mg) (H_q_draw : Has P w K mg base 1 "_law_draw" ["_law_feed_here", "_law_size"] F_q_draw_v3) (H_q_lowest : Has P w K mg base 1 "_law_lowest" ["_law_top", "_law_bottom"] F_q_lowest) (H_q_following : Has P w K mg base 2 "_law_following" ["_law_feed_here", "_law_way", "_law_k", "_law_size"] F_q_following) : Has P w K mg base 3 "_law_kinds" ["_law_feed_here", "_law_size", "_law_is_full"] F_q_kinds :=
  has_mk (k := 2) T.s_q_kinds sc_q_kinds fun ff cdv A outer s0 H E gd hr => by
    have hu := hr.units
    exact (dss_cons (ds_set (i := 3) sc_q_kinds.nd rfl (.inl rfl) (de_has H_q_draw gd (hr.mono (by decide)) (by rfl) (da_cons (de_var (pv 0)) (da_cons de_int da_nil)))) (dss_cons (ds_set (i := 4) sc_q_kinds.nd rfl (.inl rfl) (de_lst da_nil)) (dss_cons (ds_for (T := (.one 5)) PassesOwn.never rfl (di_range1 (by rfl) T.n_range (de_var (pv 1))) (dg_one sc_q_kinds.nd rfl (.inl rfl)) (dss_cons (ds_dctT (i := 6) sc_q_kinds.nd rfl (.inr rfl)) (dss_cons (ds_set (i := 7) sc_q_kinds.nd rfl (.inl rfl) (de_mul (de_ix (de_lst (da_cons de_int (da_cons de_int (da_cons de_int (da_cons de_int (da_cons de_int da_nil)))))) (de_has H_q_draw gd (hr.mono (by decide)) (by rfl) (da_cons (de_var (pv 0)) (da_cons de_int da_nil))) (fun _ _ => rfl)) (de_int1 (by rfl) T.n_int (de_not (de_var (pv 2)))))) (dss_cons (ds_for (T := (.one 8)) PassesOwn.never rfl (di_range1 (by rfl) T.n_range (de_add de_int (de_has H_q_draw gd (hr.mono (by decide)) (by rfl) (da_cons (de_var (pv 0)) (da_cons de_int da_nil))))) (dg_one sc_q_kinds.nd rfl (.inl rfl)) (dss_cons (ds_key (i := 9) sc_q_kinds.nd rfl (.inl rfl) (dk_tup (da_cons (de_add de_int (de_has H_q_draw gd (hr.mono (by decide)) (by rfl) (da_cons (de_var (pv 0)) (da_cons de_int da_nil)))) (da_cons (de_has H_q_following gd (hr.mono (by decide)) (by rfl) (da_cons (de_var (pv 0)) (da_cons (de_var (pv 3)) (da_cons (de_var (pv 5)) (da_cons (de_var (pv 1)) da_nil))))) da_nil)))) (dss_one (ds_dputT hu (pv 6) (dk_var (pv 9)) (de_add de_int (de_has H_q_draw gd (hr.mono (by decide)) (by rfl) (da_cons (de_var (pv 0)) (da_cons de_int da_nil)))))))) (dss_cons (ds_if (dt_w (dw_and (dt_eq hu (de_var (pv 7)) de_int) (dw_and1 (dt_eq hu (de_has H_q_draw gd (hr.mono (by decide)) (by rfl) (da_cons (de_var (pv 0)) (da_cons de_int da_nil))) de_int)))) (dss_one (ds_dctT (i := 6) sc_q_kinds.nd rfl (.inr rfl))) dss_nil) (dss_cons (ds_set (i := 10) sc_q_kinds.nd rfl (.inr rfl) (de_add (de_sum rfl (by rfl) T.n_sum (de_dvals rfl (by rfl) T.n_list (pv 6))) (de_var (pv 7)))) (dss_one (ds_app (pv 4) (de_tuple (by rfl) T.n_tuple (de_lc (own := [("_law_pair", 9)]) (T := (.one 9)) rfl sc_q_kinds.nd (di_seq (de_dsort rfl hu (by rfl) T.n_sorted (pv 6))) (blkOk_by (own := [("_law_pair", 9)]) (N := N_q_kinds) (sc := defScope st_q_kinds) (by decide +kernel)) (by decide) (fun _ _ _ _ _ => (dg_one sc_q_kinds.nd rfl (.inl rfl))) (fun _ _ _ _ _ => ts_nil) (fun _ _ _ _ _ => (de_tup (da_cons (de_ix (de_var (pv 9)) de_int (fun _ _ => rfl)) (da_cons (de_ix (de_var (pv 9)) de_int (fun _ _ => rfl)) (da_cons (de_has H_q_lowest gd (hr.mono (by decide)) (by rfl) (da_cons (de_dget hu (pv 6) (de_var (pv 9)) (fun _ _ => rfl)) (da_cons (de_var (pv 10)) da_nil))) da_nil))))))))))))))) (dss_frz 4 (dss_one (ds_ret (de_tuple (by rfl) T.n_tuple (de_var (pv 4)))))))))
theorem h_q_wide_kinds (T : Txt K mg) (H_q_draw : Has P w K mg base 1 "_law_draw" ["_law_feed_here", "_law_size"] F_q_draw_v3) (H_q_lowest : Has P w K mg base 1 "_law_lowest" ["_law_top", "_law_bottom"] F_q_lowest) : Has P w K mg base 2 "_law_wide_kinds" ["_law_feed_here"] F_q_wide_kinds :=
  has_mk (k := 1) T.s_q_wide_kinds sc_q_wide_kinds fun ff cdv A outer s0 H E gd hr => by
    have hu := hr.units
    exact (dss_cons (ds_set (i := 1) sc_q_wide_kinds.nd rfl (.inr rfl) (de_add de_int (de_has H_q_draw gd (hr.mono (by decide)) (by rfl) (da_cons (de_var (pv 0)) (da_cons de_int da_nil))))) (dss_cons (ds_set (i := 2) sc_q_wide_kinds.nd rfl (.inl rfl) (de_lst da_nil)) (dss_cons (ds_for (T := (.one 3)) PassesOwn.never rfl (di_range1 (by rfl) T.n_range (de_var (pv 1))) (dg_one sc_q_wide_kinds.nd rfl (.inl rfl)) (dss_cons (ds_set (i := 4) sc_q_wide_kinds.nd rfl (.inr rfl) (de_lc (own := [("_law_at", 7)]) (T := (.one 7)) rfl sc_q_wide_kinds.nd (di_range1 (by rfl) T.n_range (de_mul de_int (de_var (pv 1)))) (blkOk_by (own := [("_law_at", 7)]) (N := N_q_wide_kinds) (sc := defScope st_q_wide_kinds) (by decide +kernel)) (by decide) (fun _ _ _ _ _ => (dg_one sc_q_wide_kinds.nd rfl (.inl rfl))) (fun _ _ _ _ _ => ts_nil) (fun _ _ _ _ _ => (de_has H_q_draw gd (hr.mono (by decide)) (by rfl) (da_cons (de_var (pv 0)) (da_cons de_int da_nil)))))) (dss_frz 4 (dss_cons (ds_set (i := 5) sc_q_wide_kinds.nd rfl (.inr rfl) (de_max2 rfl (by rfl) T.n_max de_int (de_add (de_sum rfl (by rfl) T.n_sum (de_var (pv 4))) (de_has H_q_draw gd (hr.mono (by decide)) (by rfl) (da_cons (de_var (pv 0)) (da_cons de_int da_nil)))))) (dss_cons (ds_setLc (i := 6) (own := [("_law_at", 7)]) (T := (.one 7)) rfl sc_q_wide_kinds.nd rfl rfl (sw_true rfl rfl rfl (by decide +kernel)) (di_range1 (by rfl) T.n_range (de_mul de_int (de_var (pv 1)))) (blkOk_by (own := [("_law_at", 7)]) (N := N_q_wide_kinds) (sc := defScope st_q_wide_kinds) (by decide +kernel)) (by decide) (fun _ _ _ _ _ => (dg_one sc_q_wide_kinds.nd rfl (.inl rfl))) (fun _ _ _ _ _ => (ts_one (dt_gt (de_ix (de_var (pv 4)) (de_var (pv 7)) (fun _ _ => rfl)) de_int))) (fun _ _ _ _ _ => (de_var (pv 7)))) (dss_frz 6 (dss_one (ds_app (pv 2) (de_tuple (by rfl) T.n_tuple (de_lc (own := [("_law_at", 7)]) (T := (.one 7)) rfl sc_q_wide_kinds.nd (di_seq (de_var (pv 6))) (blkOk_by (own := [("_law_at", 7)]) (N := N_q_wide_kinds) (sc := defScope st_q_wide_kinds) (by decide +kernel)) (by decide) (fun _ _ _ _ _ => (dg_one sc_q_wide_kinds.nd rfl (.inl rfl))) (fun _ _ _ _ _ => ts_nil) (fun _ _ _ _ _ => (de_tup (da_cons (de_add de_int (de_fdiv (de_var (pv 7)) (de_var (pv 1)))) (da_cons (de_mod (de_var (pv 7)) (de_var (pv 1))) (da_cons (de_has H_q_lowest gd (hr.mono (by decide)) (by rfl) (da_cons (de_ix (de_var (pv 4)) (de_var (pv 7)) (fun _ _ => rfl)) (da_cons (de_var (pv 5)) da_nil))) da_nil))))))))))))))) (dss_frz 2 (dss_one (ds_ret (de_tuple (by rfl) T.n_tuple (de_var (pv 2)))))))))
theorem h_common (T : Txt K mg)  : Has P w K mg base 1 "common" ["one", "other"] F_common :=
  has_mk (k := 0) T.s_common sc_common fun ff cdv A outer s0 H E gd hr => by
    have hu := hr.units
    exact (dss_cons (ds_while PassesOwn.never (dt_ne hu (de_var (pv 1)) de_int) (dss_one (ds_par (i := 0) (j := 1) rfl sc_common.nd rfl rfl (by decide) rfl rfl (da_cons (de_var (pv 1)) (da_cons (de_mod (de_var (pv 0)) (de_var (pv 1))) da_nil)) (by rfl)))) (dss_one (ds_ret (de_var (pv 0)))))
theorem h_ratio (T : Txt K mg) (H_common : Has P w K mg base 1 "common" ["one", "other"] F_common) : Has P w K mg base 2 "ratio" ["top", "bottom"] F_ratio :=
  has_mk (k := 1) T.s_ratio sc_ratio fun ff cdv A outer s0 H E gd hr => by
    have hu := hr.units
    exact (dss_cons (ds_if (dt_eq hu (de_var (pv 1)) de_int) (dss_one ds_no) dss_nil) (dss_cons (ds_set (i := 2) sc_ratio.nd rfl (.inl rfl) (de_if (dt_lt (de_var (pv 1)) de_int) (de_neg de_int) de_int)) (dss_cons (ds_set (i := 3) sc_ratio.nd rfl (.inl rfl) (de_has H_common gd (hr.mono (by decide)) (by rfl) (da_cons (de_abs (by rfl) T.n_abs (de_var (pv 0))) (da_cons (de_abs (by rfl) T.n_abs (de_var (pv 1))) da_nil)))) (dss_one (ds_ret (de_tup (da_cons (de_fdiv (de_mul (de_var (pv 2)) (de_var (pv 0))) (de_var (pv 3))) (da_cons (de_fdiv (de_mul (de_var (pv 2)) (de_var (pv 1))) (de_var (pv 3))) da_nil))))))))
theorem h_plus (T : Txt K mg) (H_ratio : Has P w K mg base 2 "ratio" ["top", "bottom"] F_ratio) : Has P w K mg base 3 "plus" ["one", "other"] F_plus :=
  has_mk (k := 2) T.s_plus sc_plus fun ff cdv A outer s0 H E gd hr => by
    have hu := hr.units
    exact (dss_one (ds_ret (de_has H_ratio gd (hr.mono (by decide)) (by rfl) (da_cons (de_add (de_mul (de_ix (de_var (pv 0)) de_int (fun _ _ => rfl)) (de_ix (de_var (pv 1)) de_int (fun _ _ => rfl))) (de_mul (de_ix (de_var (pv 1)) de_int (fun _ _ => rfl)) (de_ix (de_var (pv 0)) de_int (fun _ _ => rfl)))) (da_cons (de_mul (de_ix (de_var (pv 0)) de_int (fun _ _ => rfl)) (de_ix (de_var (pv 1)) de_int (fun _ _ => rfl))) da_nil)))))
theorem h_times (T : Txt K mg) (H_ratio : Has P w K mg base 2 "ratio" ["top", "bottom"] F_ratio) : Has P w K mg base 3 "times" ["one", "other"] F_times :=
  has_mk (k := 2) T.s_times sc_times fun ff cdv A outer s0 H E gd hr => by
    have hu := hr.units
    exact (dss_one (ds_ret (de_has H_ratio gd (hr.mono (by decide)) (by rfl) (da_cons (de_mul (de_ix (de_var (pv 0)) de_int (fun _ _ => rfl)) (de_ix (de_var (pv 1)) de_int (fun _ _ => rfl))) (da_cons (de_mul (de_ix (de_var (pv 0)) de_int (fun _ _ => rfl)) (de_ix (de_var (pv 1)) de_int (fun _ _ => rfl))) da_nil)))))
theorem h_minus (T : Txt K mg) (H_ratio : Has P w K mg base 2 "ratio" ["top", "bottom"] F_ratio) : Has P w K mg base 3 "minus" ["one", "other"] F_minus :=
  has_mk (k := 2) T.s_minus sc_minus fun ff cdv A outer s0 H E gd hr => by
    have hu := hr.units
    exact (dss_one (ds_ret (de_has H_ratio gd (hr.mono (by decide)) (by rfl) (da_cons (de_sub (de_mul (de_ix (de_var (pv 0)) de_int (fun _ _ => rfl)) (de_ix (de_var (pv 1)) de_int (fun _ _ => rfl))) (de_mul (de_ix (de_var (pv 1)) de_int (fun _ _ => rfl)) (de_ix (de_var (pv 0)) de_int (fun _ _ => rfl)))) (da_cons (de_mul (de_ix (de_var (pv 0)) de_int (fun _ _ => rfl)) (de_ix (de_var (pv 1)) de_int (fun _ _ => rfl))) da_nil)))))
theorem h_summed (T : Txt K mg) (H_plus : Has P w K mg base 3 "plus" ["one", "other"] F_plus) : Has P w K mg base 4 "summed" ["some"] F_summed :=
  has_mk (k := 3) T.s_summed sc_summed fun ff cdv A outer s0 H E gd hr => by
    have hu := hr.units
    exact (dss_cons (ds_set (i := 1) sc_summed.nd rfl (.inl rfl) (c_NOUGHT_ratios T rfl rfl (by rfl))) (dss_cons (ds_for (T := (.one 2)) PassesOwn.never rfl (di_seq (de_var (pv 0))) (dg_one sc_summed.nd rfl (.inl rfl)) (dss_one (ds_set (i := 1) sc_summed.nd rfl (.inl rfl) (de_has H_plus gd (hr.mono (by decide)) (by rfl) (da_cons (de_var (pv 1)) (da_cons (de_var (pv 2)) da_nil)))))) (dss_one (ds_ret (de_var (pv 1))))))
theorem h_chance_at (T : Txt K mg) (H_times : Has P w K mg base 3 "times" ["one", "other"] F_times) : Has P w K mg base 4 "chance_at" ["life", "k"] F_chance_at :=
  has_mk (k := 3) T.s_chance_at sc_chance_at fun ff cdv A outer s0 H E gd hr => by
    have hu := hr.units
    exact (dss_cons (ds_asg (T := (.many [2, 3])) (de_var (pv 0)) (dg_many rfl (dga_cons (pg_name (i := 2) sc_chance_at.nd rfl (.inl rfl)) (dga_cons (pg_name (i := 3) sc_chance_at.nd rfl (.inl rfl)) dga_nil)))) (dss_cons (ds_if (dt_le hu (de_var (pv 1)) (de_len (by rfl) T.n_len (de_var (pv 2)))) (dss_one (ds_ret (de_ix (de_var (pv 2)) (de_sub (de_var (pv 1)) de_int) (fun _ _ => rfl)))) dss_nil) (dss_cons (ds_if (dt_eq hu (de_var (pv 3)) (c_NOUGHT_ratios T rfl rfl (by rfl))) (dss_one (ds_ret (c_NOUGHT_ratios T rfl rfl (by rfl)))) dss_nil) (dss_cons (ds_set (i := 4) sc_chance_at.nd rfl (.inl rfl) (de_ix (de_var (pv 2)) (de_neg de_int) (fun _ _ => rfl))) (dss_cons (ds_for (T := (.one 5)) PassesOwn.never rfl (di_range1 (by rfl) T.n_range (de_sub (de_var (pv 1)) (de_len (by rfl) T.n_len (de_var (pv 2))))) (dg_one sc_chance_at.nd rfl (.inl rfl)) (dss_one (ds_set (i := 4) sc_chance_at.nd rfl (.inl rfl) (de_has H_times gd (hr.mono (by decide)) (by rfl) (da_cons (de_var (pv 4)) (da_cons (de_var (pv 3)) da_nil)))))) (dss_one (ds_ret (de_var (pv 4)))))))))
theorem h_chances_to (T : Txt K mg) (H_chance_at : Has P w K mg base 4 "chance_at" ["life", "k"] F_chance_at) : Has P w K mg base 5 "chances_to" ["life", "most"] F_chances_to :=
  has_mk (k := 4) T.s_chances_to sc_chances_to fun ff cdv A outer s0 H E gd hr => by
    have hu := hr.units
    exact (dss_one (ds_ret (de_lc (own := [("k", 2)]) (T := (.one 2)) rfl sc_chances_to.nd (di_range2 (by rfl) T.n_range de_int (de_add (de_var (pv 1)) de_int)) (blkOk_by (own := [("k", 2)]) (N := N_chances_to) (sc := defScope st_chances_to) (by decide +kernel)) (by decide) (fun _ _ _ _ _ => (dg_one sc_chances_to.nd rfl (.inl rfl))) (fun _ _ _ _ _ => ts_nil) (fun _ _ _ _ _ => (de_has H_chance_at gd (hr.mono (by decide)) (by rfl) (da_cons (de_var (pv 0)) (da_cons (de_var (pv 2)) da_nil)))))))
theorem h_lasting (T : Txt K mg) (H_minus : Has P w K mg base 3 "minus" ["one", "other"] F_minus) (H_summed : Has P w K mg base 4 "summed" ["some"] F_summed) (H_chances_to : Has P w K mg base 5 "chances_to" ["life", "most"] F_chances_to) : Has P w K mg base 6 "lasting" ["life", "k"] F_lasting :=
  has_mk (k := 5) T.s_lasting sc_lasting fun ff cdv A outer s0 H E gd hr => by
    have hu := hr.units
    exact (dss_one (ds_ret (de_has H_minus gd (hr.mono (by decide)) (by rfl) (da_cons (c_ONE T rfl rfl (by rfl)) (da_cons (de_has H_summed gd (hr.mono (by decide)) (by rfl) (da_cons (de_has H_chances_to gd (hr.mono (by decide)) (by rfl) (da_cons (de_var (pv 0)) (da_cons (de_var (pv 1)) da_nil))) da_nil)) da_nil)))))
theorem h_short (T : Txt K mg) (H_times : Has P w K mg base 3 "times" ["one", "other"] F_times) : Has P w K mg base 4 "short" ["life"] F_short :=
  has_mk (k := 3) T.s_short sc_short fun ff cdv A outer s0 H E gd hr => by
    have hu := hr.units
    exact (dss_cons (ds_asg (T := (.many [1, 2])) (de_var (pv 0)) (dg_many rfl (dga_cons (pg_name (i := 1) sc_short.nd rfl (.inl rfl)) (dga_cons (pg_name (i := 2) sc_short.nd rfl (.inl rfl)) dga_nil)))) (dss_cons (ds_while PassesOwn.never (dt_w (dw_and (dt_gt (de_len (by rfl) T.n_len (de_var (pv 1))) de_int) (dw_and1 (dt_eq hu (de_ix (de_var (pv 1)) (de_neg de_int) (fun _ _ => rfl)) (c_NOUGHT_ratios T rfl rfl (by rfl)))))) (dss_one (ds_par (i := 1) (j := 2) rfl sc_short.nd rfl rfl (by decide) rfl rfl (da_cons (de_slice (de_var (pv 1)) do_none (do_some (de_neg de_int))) (da_cons (c_NOUGHT_ratios T rfl rfl (by rfl)) da_nil)) (by rfl)))) (dss_cons (ds_if (dt_eq hu (de_var (pv 2)) (c_NOUGHT_ratios T rfl rfl (by rfl))) (dss_one (ds_ret (de_tup (da_cons (de_var (pv 1)) (da_cons (de_var (pv 2)) da_nil))))) dss_nil) (dss_cons (ds_while PassesOwn.never (dt_w (dw_and (dt_gt (de_len (by rfl) T.n_len (de_var (pv 1))) de_int) (dw_and1 (dt_eq hu (de_has H_times gd (hr.mono (by decide)) (by rfl) (da_cons (de_ix (de_var (pv 1)) (de_neg de_int) (fun _ _ => rfl)) (da_cons (de_var (pv 2)) da_nil))) (de_ix (de_var (pv 1)) (de_neg de_int) (fun _ _ => rfl)))))) (dss_one (ds_set (i := 1) sc_short.nd rfl (.inl rfl) (de_slice (de_var (pv 1)) do_none (do_some (de_neg de_int)))))) (dss_one (ds_ret (de_tup (da_cons (de_var (pv 1)) (da_cons (de_var (pv 2)) da_nil)))))))))
theorem h_kind_life (T : Txt K mg) (H_plus : Has P w K mg base 3 "plus" ["one", "other"] F_plus) (H_short : Has P w K mg base 4 "short" ["life"] F_short) : Has P w K mg base 5 "kind_life" ["kinds", "kind"] F_kind_life :=
  has_mk (k := 4) T.s_kind_life sc_kind_life fun ff cdv A outer s0 H E gd hr => by
    have hu := hr.units
    exact (dss_cons (ds_setLc (i := 2) (own := [("k", 6)]) (T := (.one 6)) rfl sc_kind_life.nd rfl rfl (sw_true rfl rfl rfl (by decide +kernel)) (di_range1 (by rfl) T.n_range (c_LONGEST T rfl rfl (by rfl))) (blkOk_by (own := [("k", 6)]) (N := N_kind_life) (sc := defScope st_kind_life) (by decide +kernel)) (by decide) (fun _ _ _ _ _ => (dg_one sc_kind_life.nd rfl (.inl rfl))) (fun _ _ _ _ _ => ts_nil) (fun _ _ _ _ _ => (c_NOUGHT_kinds T rfl rfl (by rfl)))) (dss_cons (ds_for (T := (.many [3, 4, 5])) PassesOwn.never rfl (di_seq (de_ix (de_var (pv 0)) (de_var (pv 1)) (fun _ _ => rfl))) (dg_many rfl (dga_cons (pg_name (i := 3) sc_kind_life.nd rfl (.inl rfl)) (dga_cons (pg_name (i := 4) sc_kind_life.nd rfl (.inl rfl)) (dga_cons (pg_name (i := 5) sc_kind_life.nd rfl (.inl rfl)) dga_nil)))) (dss_one (ds_put (i := 2) (pv 2) (de_sub (de_var (pv 3)) de_int) (de_has H_plus gd (hr.mono (by decide)) (by rfl) (da_cons (de_ix (de_var (pv 2)) (de_sub (de_var (pv 3)) de_int) (fun _ _ => rfl)) (da_cons (de_var (pv 5)) da_nil)))))) (dss_frz 2 (dss_one (ds_ret (de_has H_short gd (hr.mono (by decide)) (by rfl) (da_cons (de_tup (da_cons (de_tuple (by rfl) T.n_tuple (de_var (pv 2))) (da_cons (c_NOUGHT_kinds T rfl rfl (by rfl)) da_nil))) da_nil)))))))
theorem h_begun_by (T : Txt K mg)  : Has P w K mg base 1 "begun_by" ["kinds", "first"] F_begun_by :=
  has_mk (k := 0) T.s_begun_by sc_begun_by fun ff cdv A outer s0 H E gd hr => by
    have hu := hr.units
    exact (dss_one (ds_ret (de_lc (own := [("kind", 2)]) (T := (.one 2)) rfl sc_begun_by.nd (di_range1 (by rfl) T.n_range (de_len (by rfl) T.n_len (de_var (pv 0)))) (blkOk_by (own := [("kind", 2)]) (N := N_begun_by) (sc := defScope st_begun_by) (by decide +kernel)) (by decide) (fun _ _ _ _ _ => (dg_one sc_begun_by.nd rfl (.inl rfl))) (fun _ _ _ _ _ => ts_nil) (fun _ _ _ _ _ => (de_if (dt_eq hu (de_var (pv 2)) (de_var (pv 1))) (de_tup (da_cons de_int (da_cons de_int da_nil))) (c_NOUGHT_kindputs T rfl rfl (by rfl)))))))
theorem h_row_behind (T : Txt K mg) (H_plus : Has P w K mg base 3 "plus" ["one", "other"] F_plus) (H_times : Has P w K mg base 3 "times" ["one", "other"] F_times) : Has P w K mg base 4 "row_behind" ["kinds", "rows"] F_row_behind :=
  has_mk (k := 3) T.s_row_behind sc_row_behind fun ff cdv A outer s0 H E gd hr => by
    have hu := hr.units
    exact (dss_cons (ds_setLc (i := 2) (own := [("triples", 4)]) (T := (.one 4)) rfl sc_row_behind.nd rfl rfl (sw_true rfl rfl rfl (by decide +kernel)) (di_seq (de_var (pv 0))) (blkOk_by (own := [("triples", 4)]) (N := N_row_behind) (sc := defScope st_row_behind) (by decide +kernel)) (by decide) (fun _ _ _ _ _ => (dg_one sc_row_behind.nd rfl (.inl rfl))) (fun _ _ _ _ _ => ts_nil) (fun _ _ _ _ _ => (c_NOUGHT_kindputs T rfl rfl (by rfl)))) (dss_cons (ds_for (T := (.many [3, 4])) PassesOwn.never rfl (di_enum (by rfl) T.n_enumerate (de_var (pv 0))) (dg_many rfl (dga_cons (pg_name (i := 3) sc_row_behind.nd rfl (.inl rfl)) (dga_cons (pg_name (i := 4) sc_row_behind.nd rfl (.inl rfl)) dga_nil))) (dss_one (ds_for (T := (.many [5, 6, 7])) PassesOwn.never rfl (di_seq (de_var (pv 4))) (dg_many rfl (dga_cons (pg_name (i := 5) sc_row_behind.nd rfl (.inl rfl)) (dga_cons (pg_name (i := 6) sc_row_behind.nd rfl (.inl rfl)) (dga_cons (pg_name (i := 7) sc_row_behind.nd rfl (.inl rfl)) dga_nil)))) (dss_one (ds_if (dt_le hu (de_var (pv 5)) (de_len (by rfl) T.n_len (de_var (pv 1)))) (dss_one (ds_put (i := 2) (pv 2) (de_var (pv 6)) (de_has H_plus gd (hr.mono (by decide)) (by rfl) (da_cons (de_ix (de_var (pv 2)) (de_var (pv 6)) (fun _ _ => rfl)) (da_cons (de_has H_times gd (hr.mono (by decide)) (by rfl) (da_cons (de_ix (de_ix (de_var (pv 1)) (de_sub (de_len (by rfl) T.n_len (de_var (pv 1))) (de_var (pv 5))) (fun _ _ => rfl)) (de_var (pv 3)) (fun _ _ => rfl)) (da_cons (de_var (pv 7)) da_nil))) da_nil))))) dss_nil))))) (dss_one (ds_ret (de_var (pv 2))))))
theorem h_kind_puts (T : Txt K mg) (H_begun_by : Has P w K mg base 1 "begun_by" ["kinds", "first"] F_begun_by) (H_row_behind : Has P w K mg base 4 "row_behind" ["kinds", "rows"] F_row_behind) : Has P w K mg base 5 "kind_puts" ["kinds", "first", "most"] F_kind_puts_v2 :=
  has_mk (k := 4) T.s_kind_puts sc_kind_puts fun ff cdv A outer s0 H E gd hr => by
    have hu := hr.units
    exact (dss_cons (ds_set (i := 3) sc_kind_puts.nd rfl (.inl rfl) (de_lst (da_cons (de_has H_begun_by gd (hr.mono (by decide)) (by rfl) (da_cons (de_var (pv 0)) (da_cons (de_var (pv 1)) da_nil))) da_nil))) (dss_cons (ds_for (T := (.one 4)) PassesOwn.never rfl (di_range2 (by rfl) T.n_range de_int (de_add (de_var (pv 2)) de_int)) (dg_one sc_kind_puts.nd rfl (.inl rfl)) (dss_one (ds_app (pv 3) (de_hasL H_row_behind gd (hr.mono (by decide)) (by rfl) (xs := [cVar 0]) (da_cons (de_var (pv 0)) (da_cons (de_var (pv 3)) da_nil)))))) (dss_frz 3 (dss_one (ds_ret (de_tuple (by rfl) T.n_tuple (de_lc (own := [("row", 5)]) (T := (.one 5)) rfl sc_kind_puts.nd (di_seq (de_var (pv 3))) (blkOk_by (own := [("row", 5)]) (N := N_kind_puts) (sc := defScope st_kind_puts) (by decide +kernel)) (by decide) (fun _ _ _ _ _ => (dg_one sc_kind_puts.nd rfl (.inl rfl))) (fun _ _ _ _ _ => ts_nil) (fun _ _ _ _ _ => (de_tuple (by rfl) T.n_tuple (de_var (pv 5)))))))))))
theorem h_kind_stands (T : Txt K mg) (H_plus : Has P w K mg base 3 "plus" ["one", "other"] F_plus) (H_times : Has P w K mg base 3 "times" ["one", "other"] F_times) (H_lasting : Has P w K mg base 6 "lasting" ["life", "k"] F_lasting) (H_kind_life : Has P w K mg base 5 "kind_life" ["kinds", "kind"] F_kind_life) (H_kind_puts : Has P w K mg base 5 "kind_puts" ["kinds", "first", "most"] F_kind_puts_v2) : Has P w K mg base 7 "kind_stands" ["kinds", "first", "beat"] F_kind_stands_v2 :=
  has_mk (k := 6) T.s_kind_stands sc_kind_stands fun ff cdv A outer s0 H E gd hr => by
    have hu := hr.units
    exact (dss_cons (ds_set (i := 3) sc_kind_stands.nd rfl (.inl rfl) (de_has H_kind_puts gd (hr.mono (by decide)) (by rfl) (da_cons (de_var (pv 0)) (da_cons (de_var (pv 1)) (da_cons (de_var (pv 2)) da_nil))))) (dss_cons (ds_set (i := 4) sc_kind_stands.nd rfl (.inl rfl) (de_lst da_nil)) (dss_cons (ds_for (T := (.one 5)) PassesOwn.never rfl (di_range1 (by rfl) T.n_range (de_len (by rfl) T.n_len (de_var (pv 0)))) (dg_one sc_kind_stands.nd rfl (.inl rfl)) (dss_cons (ds_set (i := 6) sc_kind_stands.nd rfl (.inr rfl) (de_has H_kind_life gd (hr.mono (by decide)) (by rfl) (da_cons (de_var (pv 0)) (da_cons (de_var (pv 5)) da_nil)))) (dss_cons (ds_setLc (i := 7) (own := [("age", 9)]) (T := (.one 9)) rfl sc_kind_stands.nd rfl rfl (sw_true rfl rfl rfl (by decide +kernel)) (di_range1 (by rfl) T.n_range (de_add (c_LONGEST T rfl rfl (by rfl)) de_int)) (blkOk_by (own := [("age", 9)]) (N := N_kind_stands) (sc := defScope st_kind_stands) (by decide +kernel)) (by decide) (fun _ _ _ _ _ => (dg_one sc_kind_stands.nd rfl (.inl rfl))) (fun _ _ _ _ _ => ts_nil) (fun _ _ _ _ _ => (de_has H_lasting gd (hr.mono (by decide)) (by rfl) (da_cons (de_var (pv 6)) (da_cons (de_var (pv 9)) da_nil))))) (dss_frz 7 (dss_cons (ds_set (i := 8) sc_kind_stands.nd rfl (.inl rfl) (c_NOUGHT_kindputs T rfl rfl (by rfl))) (dss_cons (ds_for (T := (.one 9)) PassesOwn.never rfl (di_range1 (by rfl) T.n_range (de_add (de_var (pv 2)) de_int)) (dg_one sc_kind_stands.nd rfl (.inl rfl)) (dss_one (ds_set (i := 8) sc_kind_stands.nd rfl (.inl rfl) (de_has H_plus gd (hr.mono (by decide)) (by rfl) (da_cons (de_var (pv 8)) (da_cons (de_has H_times gd (hr.mono (by decide)) (by rfl) (da_cons (de_ix (de_ix (de_var (pv 3)) (de_sub (de_var (pv 2)) (de_var (pv 9))) (fun _ _ => rfl)) (de_var (pv 5)) (fun _ _ => rfl)) (da_cons (de_ix (de_var (pv 7)) (de_min2 rfl (by rfl) T.n_min (de_var (pv 9)) (c_LONGEST T rfl rfl (by rfl))) (fun _ _ => rfl)) da_nil))) da_nil)))))) (dss_one (ds_app (pv 4) (de_var (pv 8)))))))))) (dss_frz 4 (dss_one (ds_ret (de_tuple (by rfl) T.n_tuple (de_var (pv 4)))))))))
theorem h_q_by (T : Txt K mg) (H_q_lowest : Has P w K mg base 1 "_law_lowest" ["_law_top", "_law_bottom"] F_q_lowest) : Has P w K mg base 2 "_law_by" ["_law_one", "_law_other"] F_q_by :=
  has_mk (k := 1) T.s_q_by sc_q_by fun ff cdv A outer s0 H E gd hr => by
    have hu := hr.units
    exact (dss_one (ds_ret (de_has H_q_lowest gd (hr.mono (by decide)) (by rfl) (da_cons (de_mul (de_ix (de_var (pv 0)) de_int (fun _ _ => rfl)) (de_ix (de_var (pv 1)) de_int (fun _ _ => rfl))) (da_cons (de_mul (de_ix (de_var (pv 0)) de_int (fun _ _ => rfl)) (de_ix (de_var (pv 1)) de_int (fun _ _ => rfl))) da_nil)))))
theorem h_q_add (T : Txt K mg) (H_q_lowest : Has P w K mg base 1 "_law_lowest" ["_law_top", "_law_bottom"] F_q_lowest) : Has P w K mg base 2 "_law_add" ["_law_one", "_law_other"] F_q_add :=
  has_mk (k := 1) T.s_q_add sc_q_add fun ff cdv A outer s0 H E gd hr => by
    have hu := hr.units
    exact (dss_one (ds_ret (de_has H_q_lowest gd (hr.mono (by decide)) (by rfl) (da_cons (de_add (de_mul (de_ix (de_var (pv 0)) de_int (fun _ _ => rfl)) (de_ix (de_var (pv 1)) de_int (fun _ _ => rfl))) (de_mul (de_ix (de_var (pv 1)) de_int (fun _ _ => rfl)) (de_ix (de_var (pv 0)) de_int (fun _ _ => rfl)))) (da_cons (de_mul (de_ix (de_var (pv 0)) de_int (fun _ _ => rfl)) (de_ix (de_var (pv 1)) de_int (fun _ _ => rfl))) da_nil)))))
theorem h_q_all (T : Txt K mg) (H_q_add : Has P w K mg base 2 "_law_add" ["_law_one", "_law_other"] F_q_add) : Has P w K mg base 3 "_law_all" ["_law_numbers"] F_q_all :=
  has_mk (k := 2) T.s_q_all sc_q_all fun ff cdv A outer s0 H E gd hr => by
    have hu := hr.units
    exact (dss_cons (ds_set (i := 1) sc_q_all.nd rfl (.inl rfl) (de_tup (da_cons de_int (da_cons de_int da_nil)))) (dss_cons (ds_for (T := (.one 2)) PassesOwn.never rfl (di_seq (de_var (pv 0))) (dg_one sc_q_all.nd rfl (.inl rfl)) (dss_one (ds_set (i := 1) sc_q_all.nd rfl (.inl rfl) (de_has H_q_add gd (hr.mono (by decide)) (by rfl) (da_cons (de_var (pv 1)) (da_cons (de_var (pv 2)) da_nil)))))) (dss_one (ds_ret (de_var (pv 1))))))
theorem h_q_puts (T : Txt K mg) (H_q_add : Has P w K mg base 2 "_law_add" ["_law_one", "_law_other"] F_q_add) (H_q_by : Has P w K mg base 2 "_law_by" ["_law_one", "_law_other"] F_q_by) : Has P w K mg base 3 "_law_puts" ["_law_kinds_here", "_law_beats"] F_q_puts_v2 :=
  has_mk (k := 2) T.s_q_puts sc_q_puts fun ff cdv A outer s0 H E gd hr => by
    have hu := hr.units
    exact (dss_cons (ds_set (i := 2) sc_q_puts.nd rfl (.inr rfl) (de_lst da_nil)) (dss_cons (ds_for (T := (.one 3)) PassesOwn.never rfl (di_range1 (by rfl) T.n_range (de_add (de_var (pv 1)) de_int)) (dg_one sc_q_puts.nd rfl (.inr rfl)) (dss_cons (ds_set (i := 4) sc_q_puts.nd rfl (.inl rfl) (de_lst da_nil)) (dss_cons (ds_for (T := (.one 5)) PassesOwn.never rfl (di_range1 (by rfl) T.n_range (de_len (by rfl) T.n_len (de_var (pv 0)))) (dg_one sc_q_puts.nd rfl (.inr rfl)) (dss_cons (ds_setLc (i := 6) (own := [("_law_kind", 11)]) (T := (.one 11)) rfl sc_q_puts.nd rfl rfl (sw_true rfl rfl rfl (by decide +kernel)) (di_range1 (by rfl) T.n_range (de_len (by rfl) T.n_len (de_var (pv 0)))) (blkOk_by (own := [("_law_kind", 11)]) (N := N_q_puts) (sc := defScope st_q_puts) (by decide +kernel)) (by decide) (fun _ _ _ _ _ => (dg_one sc_q_puts.nd rfl (.inl rfl))) (fun _ _ _ _ _ => ts_nil) (fun _ _ _ _ _ => (de_tup (da_cons (de_int1 (by rfl) T.n_int (de_and (de_eq hu (de_var (pv 3)) de_int) (de_one (de_eq hu (de_var (pv 11)) (de_var (pv 5)))))) (da_cons de_int da_nil))))) (dss_frz 6 (dss_cons (ds_for (T := (.many [7, 8, 9])) PassesOwn.never rfl (di_seq (de_ix (de_var (pv 0)) (de_var (pv 5)) (fun _ _ => rfl))) (dg_many rfl (dga_cons (pg_name (i := 7) sc_q_puts.nd rfl (.inl rfl)) (dga_cons (pg_name (i := 8) sc_q_puts.nd rfl (.inl rfl)) (dga_cons (pg_name (i := 9) sc_q_puts.nd rfl (.inr rfl)) dga_nil)))) (dss_cons (ds_if (dt_le hu (de_var (pv 7)) (de_var (pv 3))) (dss_cons (ds_set (i := 10) sc_q_puts.nd rfl (.inl rfl) (de_ix (de_ix (de_var (pv 2)) (de_sub (de_var (pv 3)) (de_var (pv 7))) (fun _ _ => rfl)) (de_var (pv 8)) (fun _ _ => rfl))) (dss_cons (ds_setLc (i := 6) (own := [("_law_one", 12), ("_law_other", 13)]) (T := (.many [12, 13])) rfl sc_q_puts.nd rfl rfl (sw_true rfl rfl rfl (by decide +kernel)) (di_zip (by rfl) T.n_zip (de_var (pv 6)) (de_var (pv 10))) (blkOk_by (own := [("_law_one", 12), ("_law_other", 13)]) (N := N_q_puts) (sc := defScope st_q_puts) (by decide +kernel)) (by decide) (fun _ _ _ _ _ => (dg_many rfl (dga_cons (pg_name (i := 12) sc_q_puts.nd rfl (.inl rfl)) (dga_cons (pg_name (i := 13) sc_q_puts.nd rfl (.inl rfl)) dga_nil)))) (fun _ _ _ _ _ => ts_nil) (fun _ _ _ _ _ => (de_has H_q_add gd (hr.mono (by decide)) (by rfl) (da_cons (de_var (pv 12)) (da_cons (de_has H_q_by gd (hr.mono (by decide)) (by rfl) (da_cons (de_var (pv 9)) (da_cons (de_var (pv 13)) da_nil))) da_nil))))) (dss_frz 6 dss_nil))) dss_nil) (dss_frz 6 dss_nil))) (dss_frz 6 (dss_one (ds_app (pv 4) (de_tuple (by rfl) T.n_tuple (de_var (pv 6)))))))))) (dss_frz 4 (dss_frz 6 (dss_one (ds_app (pv 2) (de_var (pv 4))))))))) (dss_frz 2 (dss_frz 4 (dss_one (ds_ret (de_lc (own := [("_law_first", 5)]) (T := (.one 5)) rfl sc_q_puts.nd (di_range1 (by rfl) T.n_range (de_len (by rfl) T.n_len (de_var (pv 0)))) (blkOk_by (own := [("_law_first", 5)]) (N := N_q_puts) (sc := defScope st_q_puts) (by decide +kernel)) (by decide) (fun _ _ _ _ _ => (dg_one sc_q_puts.nd rfl (.inr rfl))) (fun _ _ _ _ _ => ts_nil) (fun _ _ _ _ _ => (de_tuple (by rfl) T.n_tuple (de_lc (own := [("_law_row", 4)]) (T := (.one 4)) rfl sc_q_puts.nd (di_seq (de_var (pv 2))) (blkOk_by (own := [("_law_row", 4)]) (by rfl)) (by decide) (fun _ _ _ _ _ => (dg_one sc_q_puts.nd rfl (.inl rfl))) (fun _ _ _ _ _ => ts_nil) (fun _ _ _ _ _ => (de_ix (de_var (pv 4)) (de_var (pv 5)) (fun _ _ => rfl)))))))))))))
theorem h_q_still (T : Txt K mg) (H_q_all : Has P w K mg base 3 "_law_all" ["_law_numbers"] F_q_all) : Has P w K mg base 4 "_law_still" ["_law_triples", "_law_age"] F_q_still :=
  has_mk (k := 3) T.s_q_still sc_q_still fun ff cdv A outer s0 H E gd hr => by
    have hu := hr.units
    exact (dss_cons (ds_set (i := 2) sc_q_still.nd rfl (.inl rfl) (de_has H_q_all gd (hr.mono (by decide)) (by rfl) (da_cons (de_lc (own := [("_law_stretch", 3), ("_law_following_here", 4), ("_law_own", 5)]) (T := (.many [3, 4, 5])) rfl sc_q_still.nd (di_seq (de_var (pv 0))) (blkOk_by (own := [("_law_stretch", 3), ("_law_following_here", 4), ("_law_own", 5)]) (N := N_q_still) (sc := defScope st_q_still) (by decide +kernel)) (by decide) (fun _ _ _ _ _ => (dg_many rfl (dga_cons (pg_name (i := 3) sc_q_still.nd rfl (.inl rfl)) (dga_cons (pg_name (i := 4) sc_q_still.nd rfl (.inl rfl)) (dga_cons (pg_name (i := 5) sc_q_still.nd rfl (.inl rfl)) dga_nil))))) (fun _ _ _ _ _ => (ts_one (dt_le hu (de_var (pv 3)) (de_var (pv 1))))) (fun _ _ _ _ _ => (de_var (pv 5)))) da_nil))) (dss_one (ds_ret (de_tup (da_cons (de_sub (de_ix (de_var (pv 2)) de_int (fun _ _ => rfl)) (de_ix (de_var (pv 2)) de_int (fun _ _ => rfl))) (da_cons (de_ix (de_var (pv 2)) de_int (fun _ _ => rfl)) da_nil))))))
theorem h_q_right (T : Txt K mg) (H_kind_stands : Has P w K mg base 7 "kind_stands" ["kinds", "first", "beat"] F_kind_stands_v2) (H_q_by : Has P w K mg base 2 "_law_by" ["_law_one", "_law_other"] F_q_by) (H_q_all : Has P w K mg base 3 "_law_all" ["_law_numbers"] F_q_all) (H_q_puts : Has P w K mg base 3 "_law_puts" ["_law_kinds_here", "_law_beats"] F_q_puts_v2) (H_q_still : Has P w K mg base 4 "_law_still" ["_law_triples", "_law_age"] F_q_still) : Has P w K mg base 8 "_law_right" ["_law_kinds_here", "_law_beat"] F_q_right_v7 :=
  has_mk (k := 7) T.s_q_right sc_q_right fun ff cdv A outer s0 H E gd hr => by
    have hu := hr.units
    exact (dss_cons (ds_set (i := 2) sc_q_right.nd rfl (.inl rfl) (de_repr gd hu (by rfl) T.n_repr (de_var (pv 0)))) (dss_cons (ds_set (i := 3) sc_q_right.nd rfl (.inr rfl) (de_has H_q_puts gd (hr.mono (by decide)) (by rfl) (da_cons (de_var (pv 0)) (da_cons (de_var (pv 1)) da_nil)))) (dss_frz 3 (dss_cons (ds_set (i := 4) sc_q_right.nd rfl (.inr rfl) (de_lc (own := [("_law_triples", 9)]) (T := (.one 9)) rfl sc_q_right.nd (di_seq (de_var (pv 0))) (blkOk_by (own := [("_law_triples", 9)]) (N := N_q_right) (sc := defScope st_q_right) (by decide +kernel)) (by decide) (fun _ _ _ _ _ => (dg_one sc_q_right.nd rfl (.inr rfl))) (fun _ _ _ _ _ => ts_nil) (fun _ _ _ _ _ => (de_lc (own := [("_law_age", 10)]) (T := (.one 10)) rfl sc_q_right.nd (di_range1 (by rfl) T.n_range (de_add (de_var (pv 1)) de_int)) (blkOk_by (own := [("_law_age", 10)]) (by rfl)) (by decide) (fun _ _ _ _ _ => (dg_one sc_q_right.nd rfl (.inl rfl))) (fun _ _ _ _ _ => ts_nil) (fun _ _ _ _ _ => (de_has H_q_still gd (hr.mono (by decide)) (by rfl) (da_cons (de_var (pv 9)) (da_cons (de_var (pv 10)) da_nil)))))))) (dss_frz 4 (dss_cons (ds_for (T := (.one 5)) PassesOwn.never rfl (di_range1 (by rfl) T.n_range (de_len (by rfl) T.n_len (de_var (pv 0)))) (dg_one sc_q_right.nd rfl (.inr rfl)) (dss_cons (ds_set (i := 6) sc_q_right.nd rfl (.inl rfl) (de_lst da_nil)) (dss_cons (ds_for (T := (.one 7)) PassesOwn.never rfl (di_range1 (by rfl) T.n_range (de_len (by rfl) T.n_len (de_var (pv 0)))) (dg_one sc_q_right.nd rfl (.inr rfl)) (dss_cons (ds_setLc (i := 8) (own := [("_law_n", 11)]) (T := (.one 11)) rfl sc_q_right.nd rfl rfl (sw_true rfl rfl rfl (by decide +kernel)) (di_range1 (by rfl) T.n_range (de_add (de_var (pv 1)) de_int)) (blkOk_by (own := [("_law_n", 11)]) (N := N_q_right) (sc := defScope st_q_right) (by decide +kernel)) (by decide) (fun _ _ _ _ _ => (dg_one sc_q_right.nd rfl (.inl rfl))) (fun _ _ _ _ _ => ts_nil) (fun _ _ _ _ _ => (de_has H_q_by gd (hr.mono (by decide)) (by rfl) (da_cons (de_ix (de_ix (de_ix (de_var (pv 3)) (de_var (pv 5)) (fun _ _ => rfl)) (de_var (pv 11)) (fun _ _ => rfl)) (de_var (pv 7)) (fun _ _ => rfl)) (da_cons (de_ix (de_ix (de_var (pv 4)) (de_var (pv 7)) (fun _ _ => rfl)) (de_sub (de_var (pv 1)) (de_var (pv 11))) (fun _ _ => rfl)) da_nil))))) (dss_frz 8 (dss_one (ds_app (pv 6) (de_has H_q_all gd (hr.mono (by decide)) (by rfl) (da_cons (de_var (pv 8)) da_nil))))))) (dss_frz 6 (dss_frz 8 (dss_cons (ds_if (dt_ne hu (de_lc (own := [("_law_turn", 12)]) (T := (.one 12)) rfl sc_q_right.nd (di_range1 (by rfl) T.n_range de_int) (blkOk_by (own := [("_law_turn", 12)]) (N := N_q_right) (sc := defScope st_q_right) (by decide +kernel)) (by decide) (fun _ _ _ _ _ => (dg_one sc_q_right.nd rfl (.inl rfl))) (fun _ _ _ _ _ => ts_nil) (fun _ _ _ _ _ => (de_repr gd hu (by rfl) T.n_repr (de_has H_kind_stands gd (hr.mono (by decide)) (by rfl) (da_cons (de_var (pv 0)) (da_cons (de_var (pv 5)) (da_cons (de_var (pv 1)) da_nil))))))) (de_mul (de_lst (da_cons (de_repr gd hu (by rfl) T.n_repr (de_tuple (by rfl) T.n_tuple (de_var (pv 6)))) da_nil)) de_int)) (dss_one (ds_ret de_bl)) dss_nil) (dss_one (ds_if (dt_ne hu (de_has H_q_all gd (hr.mono (by decide)) (by rfl) (da_cons (de_var (pv 6)) da_nil)) (de_tup (da_cons de_int (da_cons de_int da_nil)))) (dss_one (ds_ret de_bl)) dss_nil)))))))) (dss_one (ds_ret (de_eq hu (de_repr gd hu (by rfl) T.n_repr (de_var (pv 0))) (de_var (pv 2)))))))))))
theorem feed_ok {f : Addr} {fd : FuncData} (F : Fun K "_law_feed" "_law_feed" st_q_feed f fd) (ml : mg "list" = none) : FnG P w K mg base CX0 1 f fd ["_law_script"] (spFeed K) :=
  fnG_ok F sc_q_feed (fun vs H Q E h => by obtain ⟨a, ns, rfl, _⟩ := h; rfl) fun cdv A outer s0 H vs Q E gd hr h =>
    ⟨_, pss_one (ps_ret (pe_disp (pps_cons pe_str (pe_callTy call_list_of (by rfl) ml (by decide +kernel) (pa_cons (pe_slice sl_list (pv 0) po_none (po_some pe_int)) pa_nil)) (pps_cons pe_str pe_int (pps_cons pe_str pe_int (pps_cons pe_str pe_int pps_nil)))) rfl rfl (by decide) (by decide))), feed_made h⟩
theorem ok_law (T : Txt K mg) (H_q_draw : Has P w K mg base 1 "_law_draw" ["_law_feed_here", "_law_size"] F_q_draw_v3) (H_q_kinds : Has P w K mg base 3 "_law_kinds" ["_law_feed_here", "_law_size", "_law_is_full"] F_q_kinds) (H_q_wide_kinds : Has P w K mg base 2 "_law_wide_kinds" ["_law_feed_here"] F_q_wide_kinds) (H_q_right : Has P w K mg base 8 "_law_right" ["_law_kinds_here", "_law_beat"] F_q_right_v7) {f : Addr} {fd : FuncData} (F : Fun K "law" "law" st_law f fd) (fin : ∀ ns : List Int, ns.length ≤ 63 → ∃ f, S_law (.emp :: .feed :: List.replicate 3 .emp) (feed0 ns) = .ok (.rt (.dat (.bool true))) f) : FnG P w K mg base CX0 9 f fd ["_law_script"] (spLaw K) := by
  refine fnG_ok F sc_law (fun vs H Q E h => by obtain ⟨a, ns, rfl, _⟩ := h; rfl) fun cdv A outer s0 H vs Q E gd hr h => ?_
  obtain ⟨a, ns, rfl, hS, hl, qq⟩ := h
  obtain ⟨fF, fdF, mF, FF, bF⟩ := T.s_q_feed.src
  have GF : FnG P w K mg base CX0 1 fF fdF ["_law_script"] (spFeed K) := feed_ok FF T.n_list
  have hu := hr.units
  have rest : DSs (cxOf CX0 P w K mg base N_law "law" (defScope st_law) f cdv A outer s0 H E).nox (fun _ _ _ => False) (defBody st_law).tail S_law := (dss_cons (ds_for (T := (.one 2)) PassesOwn.never rfl (di_range1 (by rfl) T.n_range de_int) (dg_one sc_law.nd rfl (.inl rfl)) (dss_cons (ds_set (i := 3) sc_law.nd rfl (.inl rfl) (de_add de_int (de_has H_q_draw gd (hr.mono (by decide)) (by rfl) (da_cons (de_var (pv 1)) (da_cons de_int da_nil))))) (dss_cons (ds_set (i := 4) sc_law.nd rfl (.inl rfl) (de_has H_q_kinds gd (hr.mono (by decide)) (by rfl) (da_cons (de_var (pv 1)) (da_cons (de_var (pv 3)) (da_cons (de_eq hu (de_has H_q_draw gd (hr.mono (by decide)) (by rfl) (da_cons (de_var (pv 1)) (da_cons de_int da_nil))) de_int) da_nil))))) (dss_one (ds_if (dt_not (dt_val (de_has H_q_right gd (hr.mono (by decide)) (by rfl) (da_cons (de_var (pv 4)) (da_cons (de_min2 rfl (by rfl) T.n_min (de_ix (de_lst (da_cons de_int (da_cons de_int (da_cons de_int (da_cons de_int (da_cons de_int (da_cons de_int (da_cons de_int da_nil)))))))) (de_has H_q_draw gd (hr.mono (by decide)) (by rfl) (da_cons (de_var (pv 1)) (da_cons de_int da_nil))) (fun _ _ => rfl)) (de_if (dt_eq hu (de_var (pv 3)) de_int) de_int de_int)) da_nil))))) (dss_one (ds_ret de_bl)) dss_nil))))) (dss_one (ds_ret (de_has H_q_right gd (hr.mono (by decide)) (by rfl) (da_cons (de_has H_q_wide_kinds gd (hr.mono (by decide)) (by rfl) (da_cons (de_var (pv 1)) da_nil)) (da_cons (de_has H_q_draw gd (hr.mono (by decide)) (by rfl) (da_cons (de_var (pv 1)) (da_cons de_int da_nil))) da_nil))))))
  exact ⟨_, pss_cons (ps_set (i := 1) sc_law.nd rfl (.inl rfl) (callG GF gd (hr.mono (by decide)) (by rfl) mF FF.kp bF pass0 (pa_cons (pv 0) pa_nil))) rest, .ref a, rfl, a, ns, rfl, hS, hl, fun fa ca G hle hne e1 e2 => law_rest N_law rfl hne e1 e2 (fin ns hl) qq⟩
theorem all_ok (T : Txt K mg) {f : Addr} {fd : FuncData} (F : Fun K "law" "law" st_law f fd) (fn : ∀ ns : List Int, ns.length ≤ 63 → ∃ f, S_law (.emp :: .feed :: List.replicate 3 .emp) (feed0 ns) = .ok (.rt (.dat (.bool true))) f) : FnG P w K mg base CX0 9 f fd ["_law_script"] (spLaw K) := by
  have H_q_draw := h_q_draw (P := P) (w := w) (base := base) T
  have H_q_lowest := h_q_lowest (P := P) (w := w) (base := base) T
  have H_q_following := h_q_following (P := P) (w := w) (base := base) T H_q_draw
  have H_q_kinds := h_q_kinds (P := P) (w := w) (base := base) T H_q_draw H_q_lowest H_q_following
  have H_q_wide_kinds := h_q_wide_kinds (P := P) (w := w) (base := base) T H_q_draw H_q_lowest
  have H_common := h_common (P := P) (w := w) (base := base) T
  have H_ratio := h_ratio (P := P) (w := w) (base := base) T H_common
  have H_plus := h_plus (P := P) (w := w) (base := base) T H_ratio
  have H_times := h_times (P := P) (w := w) (base := base) T H_ratio
  have H_minus := h_minus (P := P) (w := w) (base := base) T H_ratio
  have H_summed := h_summed (P := P) (w := w) (base := base) T H_plus
  have H_chance_at := h_chance_at (P := P) (w := w) (base := base) T H_times
  have H_chances_to := h_chances_to (P := P) (w := w) (base := base) T H_chance_at
  have H_lasting := h_lasting (P := P) (w := w) (base := base) T H_minus H_summed H_chances_to
  have H_short := h_short (P := P) (w := w) (base := base) T H_times
  have H_kind_life := h_kind_life (P := P) (w := w) (base := base) T H_plus H_short
  have H_begun_by := h_begun_by (P := P) (w := w) (base := base) T
  have H_row_behind := h_row_behind (P := P) (w := w) (base := base) T H_plus H_times
  have H_kind_puts := h_kind_puts (P := P) (w := w) (base := base) T H_begun_by H_row_behind
  have H_kind_stands := h_kind_stands (P := P) (w := w) (base := base) T H_plus H_times H_lasting H_kind_life H_kind_puts
  have H_q_by := h_q_by (P := P) (w := w) (base := base) T H_q_lowest
  have H_q_add := h_q_add (P := P) (w := w) (base := base) T H_q_lowest
  have H_q_all := h_q_all (P := P) (w := w) (base := base) T H_q_add
  have H_q_puts := h_q_puts (P := P) (w := w) (base := base) T H_q_add H_q_by
  have H_q_still := h_q_still (P := P) (w := w) (base := base) T H_q_all
  have H_q_right := h_q_right (P := P) (w := w) (base := base) T H_kind_stands H_q_by H_q_all H_q_puts H_q_still
  exact ok_law T H_q_draw H_q_kinds H_q_wide_kinds H_q_right F fn
theorem all_mk {l : PySem.W.OpenLaw} {w : World} {K : PySem.W.Frag} {h : Heap} {mg : Str → Option Value} {fa : Addr} (KX : K.In h) (G : h.Ns mainGlobals mg) (hmg : mg "law" = some (.ref fa)) (T : Txt K mg) :
    ∃ fd : FuncData, (∀ (s : Shared) (u : Value), BindsTo s fd ⟨[u], []⟩ [("_law_script", u)]) ∧ ∀ base : Heap, K.In base → base.Ns mainGlobals mg → FnG l.prog w K mg base CX0 9 fa fd ["_law_script"] (spLaw K) := by
  obtain ⟨f, fd, hm, F, _⟩ := T.s_law.src
  cases hmg.symm.trans hm
  have F0 := F
  obtain ⟨oc, od, kV, dc, pm, an, cd, ct, sl, e, _, _⟩ := F0.ex
  exact ⟨fd, fun s v => e ▸ .of_eq rfl, fun base _ _ => all_ok T F fin⟩
end
end
end Lfreshparts_k55_which_kind_stands
open PySem PySem.W PyProof.Rows
set_option maxHeartbeats 0 in
theorem PySem.Challenge.cw_freshparts_k55_which_kind_stands_holds : PySem.Challenge.rw_freshparts_k55_which_kind_stands.Holds := by
  w_on; o_law; k_head; (case hw => w_witness2)
  k_fill
  refine Dn.walkG (l := PySem.Challenge.rw_freshparts_k55_which_kind_stands) (k := 9) (x := "_law_script") rfl rfl ⟨rfl, by decide, by decide⟩ (fun w h Y => PySem.W.kIn_of Y) ?F
  case F =>
    intro w mg fa h KX G hmg
    refine' Lfreshparts_k55_which_kind_stands.all_mk (l := PySem.Challenge.rw_freshparts_k55_which_kind_stands) KX G hmg ?T
    case T =>
      refine' ⟨?n_abs, ?n_enumerate, ?n_int, ?n_len, ?n_list, ?n_max, ?n_min, ?n_range, ?n_repr, ?n_sorted, ?n_sum, ?n_tuple, ?n_zip, ?s_q_feed, ?s_q_draw, ?s_q_lowest, ?s_q_following, ?s_q_kinds, ?s_q_wide_kinds, ?s_common, ?s_ratio, ?s_plus, ?s_times, ?s_minus, ?s_summed, ?s_chance_at, ?s_chances_to, ?s_lasting, ?s_short, ?s_kind_life, ?s_begun_by, ?s_row_behind, ?s_kind_puts, ?s_kind_stands, ?s_q_by, ?s_q_add, ?s_q_all, ?s_q_puts, ?s_q_still, ?s_q_right, ?s_law, ?k_NOUGHT_ratios, ?k_ONE, ?k_LONGEST, ?k_NOUGHT_kinds, ?k_NOUGHT_kindputs⟩
      (case n_abs => refine' PySem.W.mg_none_of KX G ?a0; (case a0 => k_is))
      (case n_enumerate => refine' PySem.W.mg_none_of KX G ?a1; (case a1 => k_is))
      (case n_int => refine' PySem.W.mg_none_of KX G ?a2; (case a2 => k_is))
      (case n_len => refine' PySem.W.mg_none_of KX G ?a3; (case a3 => k_is))
      (case n_list => refine' PySem.W.mg_none_of KX G ?a4; (case a4 => k_is))
      (case n_max => refine' PySem.W.mg_none_of KX G ?a5; (case a5 => k_is))
      (case n_min => refine' PySem.W.mg_none_of KX G ?a6; (case a6 => k_is))
      (case n_range => refine' PySem.W.mg_none_of KX G ?a7; (case a7 => k_is))
      (case n_repr => refine' PySem.W.mg_none_of KX G ?a8; (case a8 => k_is))
      (case n_sorted => refine' PySem.W.mg_none_of KX G ?a9; (case a9 => k_is))
      (case n_sum => refine' PySem.W.mg_none_of KX G ?a10; (case a10 => k_is))
      (case n_tuple => refine' PySem.W.mg_none_of KX G ?a11; (case a11 => k_is))
      (case n_zip => refine' PySem.W.mg_none_of KX G ?a12; (case a12 => k_is))
      (case s_q_feed => refine' Dn.src_mk KX G ?a13 ?l13 ?c13 ?k13 (fun _ _ _ _ _ _ us hl => match us, hl with | [_], _ => rfl); (case a13 => k_is); (case l13 => k_is); (case c13 => k_is); (case k13 => k_is))
      (case s_q_draw => refine' Dn.src_mk KX G ?a14 ?l14 ?c14 ?k14 (fun _ _ _ _ _ _ us hl => match us, hl with | [_, _], _ => rfl); (case a14 => k_is); (case l14 => k_is); (case c14 => k_is); (case k14 => k_is))
      (case s_q_lowest => refine' Dn.src_mk KX G ?a15 ?l15 ?c15 ?k15 (fun _ _ _ _ _ _ us hl => match us, hl with | [_, _], _ => rfl); (case a15 => k_is); (case l15 => k_is); (case c15 => k_is); (case k15 => k_is))
      (case s_q_following => refine' Dn.src_mk KX G ?a16 ?l16 ?c16 ?k16 (fun _ _ _ _ _ _ us hl => match us, hl with | [_, _, _, _], _ => rfl); (case a16 => k_is); (case l16 => k_is); (case c16 => k_is); (case k16 => k_is))
      (case s_q_kinds => refine' Dn.src_mk KX G ?a17 ?l17 ?c17 ?k17 (fun _ _ _ _ _ _ us hl => match us, hl with | [_, _, _], _ => rfl); (case a17 => k_is); (case l17 => k_is); (case c17 => k_is); (case k17 => k_is))
      (case s_q_wide_kinds => refine' Dn.src_mk KX G ?a18 ?l18 ?c18 ?k18 (fun _ _ _ _ _ _ us hl => match us, hl with | [_], _ => rfl); (case a18 => k_is); (case l18 => k_is); (case c18 => k_is); (case k18 => k_is))
      (case s_common => refine' Dn.src_mk KX G ?a19 ?l19 ?c19 ?k19 (fun _ _ _ _ _ _ us hl => match us, hl with | [_, _], _ => rfl); (case a19 => k_is); (case l19 => k_is); (case c19 => k_is); (case k19 => k_is))
      (case s_ratio => refine' Dn.src_mk KX G ?a20 ?l20 ?c20 ?k20 (fun _ _ _ _ _ _ us hl => match us, hl with | [_, _], _ => rfl); (case a20 => k_is); (case l20 => k_is); (case c20 => k_is); (case k20 => k_is))
      (case s_plus => refine' Dn.src_mk KX G ?a21 ?l21 ?c21 ?k21 (fun _ _ _ _ _ _ us hl => match us, hl with | [_, _], _ => rfl); (case a21 => k_is); (case l21 => k_is); (case c21 => k_is); (case k21 => k_is))
      (case s_times => refine' Dn.src_mk KX G ?a22 ?l22 ?c22 ?k22 (fun _ _ _ _ _ _ us hl => match us, hl with | [_, _], _ => rfl); (case a22 => k_is); (case l22 => k_is); (case c22 => k_is); (case k22 => k_is))
      (case s_minus => refine' Dn.src_mk KX G ?a23 ?l23 ?c23 ?k23 (fun _ _ _ _ _ _ us hl => match us, hl with | [_, _], _ => rfl); (case a23 => k_is); (case l23 => k_is); (case c23 => k_is); (case k23 => k_is))
      (case s_summed => refine' Dn.src_mk KX G ?a24 ?l24 ?c24 ?k24 (fun _ _ _ _ _ _ us hl => match us, hl with | [_], _ => rfl); (case a24 => k_is); (case l24 => k_is); (case c24 => k_is); (case k24 => k_is))
      (case s_chance_at => refine' Dn.src_mk KX G ?a25 ?l25 ?c25 ?k25 (fun _ _ _ _ _ _ us hl => match us, hl with | [_, _], _ => rfl); (case a25 => k_is); (case l25 => k_is); (case c25 => k_is); (case k25 => k_is))
      (case s_chances_to => refine' Dn.src_mk KX G ?a26 ?l26 ?c26 ?k26 (fun _ _ _ _ _ _ us hl => match us, hl with | [_, _], _ => rfl); (case a26 => k_is); (case l26 => k_is); (case c26 => k_is); (case k26 => k_is))
      (case s_lasting => refine' Dn.src_mk KX G ?a27 ?l27 ?c27 ?k27 (fun _ _ _ _ _ _ us hl => match us, hl with | [_, _], _ => rfl); (case a27 => k_is); (case l27 => k_is); (case c27 => k_is); (case k27 => k_is))
      (case s_short => refine' Dn.src_mk KX G ?a28 ?l28 ?c28 ?k28 (fun _ _ _ _ _ _ us hl => match us, hl with | [_], _ => rfl); (case a28 => k_is); (case l28 => k_is); (case c28 => k_is); (case k28 => k_is))
      (case s_kind_life => refine' Dn.src_mk KX G ?a29 ?l29 ?c29 ?k29 (fun _ _ _ _ _ _ us hl => match us, hl with | [_, _], _ => rfl); (case a29 => k_is); (case l29 => k_is); (case c29 => k_is); (case k29 => k_is))
      (case s_begun_by => refine' Dn.src_mk KX G ?a30 ?l30 ?c30 ?k30 (fun _ _ _ _ _ _ us hl => match us, hl with | [_, _], _ => rfl); (case a30 => k_is); (case l30 => k_is); (case c30 => k_is); (case k30 => k_is))
      (case s_row_behind => refine' Dn.src_mk KX G ?a31 ?l31 ?c31 ?k31 (fun _ _ _ _ _ _ us hl => match us, hl with | [_, _], _ => rfl); (case a31 => k_is); (case l31 => k_is); (case c31 => k_is); (case k31 => k_is))
      (case s_kind_puts => refine' Dn.src_mk KX G ?a32 ?l32 ?c32 ?k32 (fun _ _ _ _ _ _ us hl => match us, hl with | [_, _, _], _ => rfl); (case a32 => k_is); (case l32 => k_is); (case c32 => k_is); (case k32 => k_is))
      (case s_kind_stands => refine' Dn.src_mk KX G ?a33 ?l33 ?c33 ?k33 (fun _ _ _ _ _ _ us hl => match us, hl with | [_, _, _], _ => rfl); (case a33 => k_is); (case l33 => k_is); (case c33 => k_is); (case k33 => k_is))
      (case s_q_by => refine' Dn.src_mk KX G ?a34 ?l34 ?c34 ?k34 (fun _ _ _ _ _ _ us hl => match us, hl with | [_, _], _ => rfl); (case a34 => k_is); (case l34 => k_is); (case c34 => k_is); (case k34 => k_is))
      (case s_q_add => refine' Dn.src_mk KX G ?a35 ?l35 ?c35 ?k35 (fun _ _ _ _ _ _ us hl => match us, hl with | [_, _], _ => rfl); (case a35 => k_is); (case l35 => k_is); (case c35 => k_is); (case k35 => k_is))
      (case s_q_all => refine' Dn.src_mk KX G ?a36 ?l36 ?c36 ?k36 (fun _ _ _ _ _ _ us hl => match us, hl with | [_], _ => rfl); (case a36 => k_is); (case l36 => k_is); (case c36 => k_is); (case k36 => k_is))
      (case s_q_puts => refine' Dn.src_mk KX G ?a37 ?l37 ?c37 ?k37 (fun _ _ _ _ _ _ us hl => match us, hl with | [_, _], _ => rfl); (case a37 => k_is); (case l37 => k_is); (case c37 => k_is); (case k37 => k_is))
      (case s_q_still => refine' Dn.src_mk KX G ?a38 ?l38 ?c38 ?k38 (fun _ _ _ _ _ _ us hl => match us, hl with | [_, _], _ => rfl); (case a38 => k_is); (case l38 => k_is); (case c38 => k_is); (case k38 => k_is))
      (case s_q_right => refine' Dn.src_mk KX G ?a39 ?l39 ?c39 ?k39 (fun _ _ _ _ _ _ us hl => match us, hl with | [_, _], _ => rfl); (case a39 => k_is); (case l39 => k_is); (case c39 => k_is); (case k39 => k_is))
      (case s_law => refine' Dn.src_mk KX G ?a40 ?l40 ?c40 ?k40 (fun _ _ _ _ _ _ us hl => match us, hl with | [_], _ => rfl); (case a40 => k_is); (case l40 => k_is); (case c40 => k_is); (case k40 => k_is))
      (case k_NOUGHT_ratios => refine' Dn.rat_mk KX G ?a41 ?l41; (case a41 => k_is); (case l41 => k_is))
      (case k_ONE => refine' Dn.rat_mk KX G ?a42 ?l42; (case a42 => k_is); (case l42 => k_is))
      (case k_LONGEST => refine' Dn.int_mk KX G ?a43; (case a43 => k_is))
      (case k_NOUGHT_kinds => refine' Dn.rat_mk KX G ?a44 ?l44; (case a44 => k_is); (case l44 => k_is))
      (case k_NOUGHT_kindputs => refine' Dn.rat_mk KX G ?a45 ?l45; (case a45 => k_is); (case l45 => k_is))
