import PyProof.Rows.All
import Wide.All
import OpenK.AllK
import Wide.FinOn
import HandS.ForMost
import HandS.Wide
import HandS.Zip
import HandS.TupAny
import HandS.TupMul
import HandS.Exc
import PyProof.ListMulRoad
import PyProof.FactsAll.tuple_2
import HandS.TupLe
import HandS.Deep
import HandS.Style
import PyProof.Draws
import KE.GoesMore
import KE.GoesZip
import PyProof.EnumMake
import HandS.IsInst
import HandS.FltList
import HandS.WideBits
import HandS.ExcInit
import HandS.TryOnly
import HandS.ExcField
import KE.KExcIs
import HandS.NoneIn
import HandS.Conv
import HandS.NamedTupSort
import KE.KTupSum
import HandS.SetFor
import HandS.TupSets
import KE.KDictCopyH
import KE.KDictSum
import PyProof.Rows.ReprOcc
import PyProof.ReprText
import PySem.Challenge.RW_freshparts_k64_shares_and_gains_of_kinds
set_option Elab.async false
set_option linter.all false
set_option maxRecDepth 100000
set_option exponentiation.threshold 10000
section
set_option maxHeartbeats 4000000
namespace Dn
open PySem PySem.Spec L2
/-- the state of the one drawing feed -/
structure Feed where
  cells : List Int
  spot : Int
  left : Int
  turn : Int
inductive R (α : Type) where
  | no : R α
  | ok (a : α) (f : Feed) : R α
  | ex (c : Str) (vs : List (Str × PyData)) (f : Feed) : R α
def R.bind {α β : Type} (r : R α) (k : α → Feed → R β) : R β := match r with
  | .no => .no
  | .ok a f => k a f
  | .ex c vs f => .ex c vs f
/-- a dict that grows: its keys are whole numbers, or tuples of these -/
inductive Dk where
  | I (kvs : List (Int × PyData))
  | T (kvs : List (List Int × PyData))
inductive Slot where
  | emp
  | dat (d : PyData)
  | own (ds : List PyData)
  | feed
  | scr (ns : List Int)
  | dct (k : Dk)
  | key (ks : List Int)
  | brd (dss : List (List PyData))
inductive RV where
  | dat (d : PyData)
  | own (ds : List PyData)
  | lent (i : Nat) (ds : List PyData)
  | feed
def RV.peek : RV → Option PyData
  | .dat d => some d
  | .own ds => some (.list ds)
  | .lent _ ds => some (.list ds)
  | .feed => none
def RV.data : RV → Option PyData
  | .dat d => some d
  | .own ds => some (.list ds)
  | _ => none
abbrev Rho := List Slot
abbrev Ex := Rho → Feed → R RV
inductive Ctl where
  | nx (p : Rho)
  | rt (v : RV)
  | bk (p : Rho)
  | ct (p : Rho)
abbrev Sm := Rho → Feed → R Ctl
def ExH (a C : Addr) (od : Option Addr) : HO := .ext fun h => ∃ oe vs, h.get? a = some oe ∧ Zc (.ref C) od oe ∧ oe.data = .fields vs
def errNm (K : PySem.W.Frag) (C : Addr) : Option Str := (PySem.W.clsIn K C).map (·.name)
def XdH (H : Hp) (od : Option Addr) (xs : List (Str × V)) : Prop := (od = none ∧ xs = []) ∨ ∃ d, od = some d ∧ H d = some (.xd xs)
def fldD (xs : List (Str × V)) (ds : List PyData) : List (PyData × PyData) := List.zipWith (fun x d => (.str x.1, d)) xs ds
def keyD : Key → PyData
  | .inl i => .int i
  | .inr x => .str x
mutual
inductive DR (K : PySem.W.Frag) (H : Hp) : V → PyData → Prop
  | non : DR K H .non .none
  | bl (b : Bool) : DR K H (.bl b) (.bool b)
  | int (i : Int) : DR K H (.int i) (.int i)
  | str (x : Str) : DR K H (.str x) (.str x)
  | lst {a : Addr} {xs : List V} {ds : List PyData} : H a = some (.lst xs) → DRs K H xs ds → DR K H (.ref a) (.list ds)
  | tup {a : Addr} {xs : List V} {ds : List PyData} : SqT K H a xs → DRs K H xs ds → DR K H (.ref a) (.tuple ds)
  | dic {a : Addr} {xs : List (Key × V)} {ks : List (PyData × PyData)} : H a = some (.dK xs) → ks.map (·.1) = xs.map (fun x => keyD x.1) → DRs K H (xs.map (·.2)) (ks.map (·.2)) → DR K H (.ref a) (.dict ks)
  | exc {a C : Addr} {od : Option Addr} {c : Str} {xs : List (Str × V)} {ds : List PyData} : H a = some (ExH a C od) → errNm K C = some c → XdH H od xs → DRs K H (xs.map (·.2)) ds → DR K H (.ref a) (.dict ((.none, .str c) :: fldD xs ds))
  | dit {a : Addr} {xs : List (List Key × V)} {kvs : List (List Int × PyData)} : H a = some (.dT xs) → xs.map (·.1) = kvs.map (fun q => q.1.map Sum.inl) → DRs K H (xs.map (·.2)) (kvs.map (·.2)) → DR K H (.ref a) (.dict ((.bool true, .none) :: kvs.map fun q => (.tuple (q.1.map .int), q.2)))
inductive DRs (K : PySem.W.Frag) (H : Hp) : List V → List PyData → Prop
  | nil : DRs K H [] []
  | cons {v : V} {vs : List V} {d : PyData} {ds : List PyData} : DR K H v d → DRs K H vs ds → DRs K H (v :: vs) (d :: ds)
end
def Le (H G : Hp) : Prop := ∀ a o, H a = some o → G a = some o
theorem Le.refl (H : Hp) : Le H H := fun _ _ h => h
theorem Le.trans {H G F : Hp} (a : Le H G) (b : Le G F) : Le H F := fun x o h => b x o (a x o h)
theorem XdH.mono {H G : Hp} (l : Le H G) {od : Option Addr} {xs : List (Str × V)} (h : XdH H od xs) : XdH G od xs := by
  rcases h with ⟨e1, e2⟩ | ⟨d, e1, e2⟩
  · exact .inl ⟨e1, e2⟩
  · exact .inr ⟨d, e1, l _ _ e2⟩
theorem Le.sqL {K : PySem.W.Frag} {H G : Hp} {a : Addr} {xs : List V} (l : Le H G) (h : SqL K H a xs) : SqL K G a xs := by
  rcases h with (h | ⟨o, h⟩) | h
  · exact .inl (.inl (l _ _ h))
  · exact .inl (.inr ⟨o, l _ _ h⟩)
  · exact .inr h
theorem Le.sqT {K : PySem.W.Frag} {H G : Hp} {a : Addr} {xs : List V} (l : Le H G) (h : SqT K H a xs) : SqT K G a xs := by
  rcases h with (h | ⟨o, h⟩) | h
  · exact .inl (.inl (l _ _ h))
  · exact .inl (.inr ⟨o, l _ _ h⟩)
  · exact .inr h
mutual
theorem DR.mono {K : PySem.W.Frag} {H G : Hp} (l : Le H G) : ∀ {v : V} {d : PyData}, DR K H v d → DR K G v d
  | _, _, .non => .non
  | _, _, .bl b => .bl b
  | _, _, .int i => .int i
  | _, _, .str x => .str x
  | _, _, .lst h r => .lst (l _ _ h) (DRs.mono l r)
  | _, _, .tup h r => .tup (l.sqT h) (DRs.mono l r)
  | _, _, .dic h e r => .dic (l _ _ h) e (DRs.mono l r)
  | _, _, .exc h1 h2 h3 h4 => .exc (l _ _ h1) h2 (h3.mono l) (DRs.mono l h4)
  | _, _, .dit h e r => .dit (l _ _ h) e (DRs.mono l r)
theorem DRs.mono {K : PySem.W.Frag} {H G : Hp} (l : Le H G) : ∀ {vs : List V} {ds : List PyData}, DRs K H vs ds → DRs K G vs ds
  | _, _, .nil => .nil
  | _, _, .cons h r => .cons (DR.mono l h) (DRs.mono l r)
end
section
variable {K : PySem.W.Frag} {H : Hp}
theorem DRs.length : ∀ {vs : List V} {ds : List PyData}, DRs K H vs ds → vs.length = ds.length
  | _, _, .nil => rfl
  | _, _, .cons _ r => congrArg (· + 1) r.length
theorem DRs.get : ∀ {vs : List V} {ds : List PyData} {i : Nat} {d : PyData}, DRs K H vs ds → ds[i]? = some d → ∃ v, vs[i]? = some v ∧ DR K H v d
  | _, _, _, _, .nil, e => by simp at e
  | _, _, 0, d, .cons h _, e => by
    simp at e
    subst e
    exact ⟨_, rfl, h⟩
  | _, _, i + 1, d, .cons _ r, e => by
    obtain ⟨v, h1, h2⟩ := DRs.get (i := i) (d := d) r (by simpa using e)
    exact ⟨v, by simpa using h1, h2⟩
theorem DRs.append : ∀ {vs ws : List V} {ds es : List PyData}, DRs K H vs ds → DRs K H ws es → DRs K H (vs ++ ws) (ds ++ es)
  | _, _, _, _, .nil, s => s
  | _, _, _, _, .cons h r, s => .cons h (DRs.append r s)
theorem DRs.snoc {vs : List V} {v : V} {ds : List PyData} {d : PyData} (r : DRs K H vs ds) (h : DR K H v d) : DRs K H (vs ++ [v]) (ds ++ [d]) := r.append (.cons h .nil)
theorem DRs.drop : ∀ {vs : List V} {ds : List PyData} (n : Nat), DRs K H vs ds → DRs K H (vs.drop n) (ds.drop n)
  | _, _, 0, r => r
  | _, _, _ + 1, .nil => .nil
  | _, _, n + 1, .cons _ r => DRs.drop n r
theorem DRs.take : ∀ {vs : List V} {ds : List PyData} (n : Nat), DRs K H vs ds → DRs K H (vs.take n) (ds.take n)
  | _, _, 0, _ => .nil
  | _, _, _ + 1, .nil => .nil
  | _, _, n + 1, .cons h r => .cons h (DRs.take n r)
theorem DRs.set : ∀ {vs : List V} {ds : List PyData} {v : V} {d : PyData} (n : Nat), DRs K H vs ds → DR K H v d → DRs K H (vs.set n v) (ds.set n d)
  | _, _, _, _, _, .nil, _ => .nil
  | _, _, _, _, 0, .cons _ r, h => .cons h r
  | _, _, _, _, n + 1, .cons g r, h => .cons g (DRs.set n r h)
theorem DRs.rep {vs : List V} {ds : List PyData} (r : DRs K H vs ds) : ∀ n : Nat, DRs K H (List.replicate n vs).flatten (List.replicate n ds).flatten
  | 0 => .nil
  | n + 1 => by
    rw [List.replicate_succ, List.replicate_succ, List.flatten_cons, List.flatten_cons]
    exact r.append (r.rep n)
theorem DRs.ints : ∀ ns : List Int, DRs K H (ns.map V.int) (ns.map PyData.int)
  | [] => .nil
  | n :: r => .cons (.int n) (DRs.ints r)
end
structure Gh where
  fa : Addr
  ca : Addr
  H0 : Hp
  HF0 : Hp
def feedO (g : Gh) (f : Feed) : HO := .dK [(Sum.inr "cells", .ref g.ca), (Sum.inr "at", .int f.spot), (Sum.inr "left", .int f.left), (Sum.inr "turn", .int f.turn)]
structure FeedAt (g : Gh) (H HF : Hp) (f : Feed) : Prop where
  d : H g.fa = some (feedO g f)
  nf : HF g.fa = none
  c : HF g.ca = some (.lst (f.cells.map V.int))
/-- no tuple -/
def ntu : HO → Bool
  | .tup _ => false
  | _ => true
/-- something that is there and no tuple -/
def Mo (H : Hp) (a : Addr) : Prop := ∃ o, H a = some o ∧ ntu o = true
theorem mo {H : Hp} {a : Addr} {o : HO} (e : H a = some o) (h : ntu o = true := by rfl) : Mo H a := ⟨o, e, h⟩
theorem Mo.some {H : Hp} {a : Addr} (h : Mo H a) : H a ≠ none := by
  obtain ⟨o, e, _⟩ := h
  rw [e]
  exact Option.some_ne_none _
structure Step (g : Gh) (H HF G GF : Hp) : Prop where
  ext : ∀ a o, a ≠ g.fa → H a = some o → G a = some o
  le : Le HF GF
  new : ∀ a, Mo H a → HF a = none → GF a = none
  sub : Le GF G
theorem Step.refl {g : Gh} {H HF : Hp} (s : Le HF H) : Step g H HF H HF := ⟨fun _ _ _ h => h, Le.refl _, fun _ _ h => h, s⟩
theorem FeedAt.ne {g : Gh} {H HF : Hp} {f : Feed} (h : FeedAt g H HF f) : H g.fa ≠ none := by
  rw [h.d]
  exact Option.some_ne_none _
theorem Step.live {g : Gh} {H HF G GF : Hp} {f : Feed} (s : Step g H HF G GF) (h : FeedAt g G GF f) {a : Addr} (e : H a ≠ none) : G a ≠ none := by
  by_cases q : a = g.fa
  · rw [q]
    exact h.ne
  · cases r : H a with
    | none => exact absurd r e
    | some o =>
      rw [s.ext a o q r]
      exact Option.some_ne_none _
theorem Step.liveM {g : Gh} {H HF G GF : Hp} {f : Feed} (s : Step g H HF G GF) (h : FeedAt g G GF f) {a : Addr} (e : Mo H a) : Mo G a := by
  by_cases q : a = g.fa
  · rw [q]
    exact mo h.d
  · obtain ⟨o, e1, e2⟩ := e
    exact ⟨o, s.ext a o q e1, e2⟩
theorem Step.dead {g : Gh} {H HF G GF : Hp} {f : Feed} (s : Step g H HF G GF) (h : FeedAt g G GF f) {a : Addr} (e : G a = none) : H a = none := by
  cases r : H a with
  | none => rfl
  | some o => exact absurd e (s.live h (by rw [r]; exact Option.some_ne_none _))
theorem Step.trans {g : Gh} {H HF G GF I IF : Hp} {f : Feed} (a : Step g H HF G GF) (h : FeedAt g G GF f) (b : Step g G GF I IF) : Step g H HF I IF :=
  ⟨fun x o q e => b.ext x o q (a.ext x o q e), a.le.trans b.le, fun x e q => b.new x (a.liveM h e) (a.new x e q), b.sub⟩
/-- a sequence or a datum that may be read now -/
def Top (K : PySem.W.Frag) (g : Gh) (H HF : Hp) (v : V) (d : PyData) : Prop :=
  DR K HF v d ∨ ∃ p vs ds, v = .ref p ∧ d = .list ds ∧ p ≠ g.fa ∧ H p = some (.lst vs) ∧ DRs K HF vs ds
theorem Top.step {K : PySem.W.Frag} {g : Gh} {H HF G GF : Hp} {v : V} {d : PyData} (t : Top K g H HF v d) (s : Step g H HF G GF) : Top K g G GF v d := by
  rcases t with h | ⟨p, vs, ds, e1, e2, e3, e4, e5⟩
  · exact .inl (h.mono s.le)
  · exact .inr ⟨p, vs, ds, e1, e2, e3, s.ext _ _ e3 e4, e5.mono s.le⟩
/-- a growing dict at an address -/
def DkAt (K : PySem.W.Frag) (H HF : Hp) (p : Addr) : Dk → Prop
  | .I kvs => ∃ xs : List (Key × V), H p = some (.dK xs) ∧ Paired (fun x q => x.1 = Sum.inl q.1 ∧ DR K HF x.2 q.2) xs kvs
  | .T kvs => ∃ xs : List (List Key × V), H p = some (.dT xs) ∧ Paired (fun x q => x.1 = q.1.map Sum.inl ∧ DR K HF x.2 q.2) xs kvs
theorem paired_imp {α β : Type} {F G : α → β → Prop} (h : ∀ a b, F a b → G a b) : ∀ {as : List α} {bs : List β}, Paired F as bs → Paired G as bs
  | _, _, .nil => .nil
  | _, _, .cons x r => .cons (h _ _ x) (paired_imp h r)
theorem DkAt.mono {K : PySem.W.Frag} {H HF G GF : Hp} {p : Addr} {k : Dk} (h : DkAt K H HF p k) (e : ∀ o, H p = some o → G p = some o) (l : Le HF GF) : DkAt K G GF p k := by
  cases k with
  | I kvs =>
    obtain ⟨xs, h1, h2⟩ := h
    exact ⟨xs, e _ h1, paired_imp (fun _ _ z => ⟨z.1, z.2.mono l⟩) h2⟩
  | T kvs =>
    obtain ⟨xs, h1, h2⟩ := h
    exact ⟨xs, e _ h1, paired_imp (fun _ _ z => ⟨z.1, z.2.mono l⟩) h2⟩
theorem DkAt.ne {K : PySem.W.Frag} {g : Gh} {H HF HF2 : Hp} {f : Feed} {p : Addr} {k : Dk} (h : DkAt K H HF p k) (r : FeedAt g H HF2 f) : p ≠ g.fa := fun q => by
  subst q
  cases k with
  | I kvs =>
    obtain ⟨xs, h1, h2⟩ := h
    have z := r.d.symm.trans h1
    unfold feedO at z
    injection z with z
    injection z with z
    subst z
    cases h2 with
    | cons a b => cases a.1
  | T kvs =>
    obtain ⟨xs, h1, h2⟩ := h
    have z := r.d.symm.trans h1
    unfold feedO at z
    cases z
theorem DkAt.nl {K : PySem.W.Frag} {H HF : Hp} {p : Addr} {k : Dk} (h : DkAt K H HF p k) {vs : List V} : H p ≠ some (.lst vs) := fun e => by
  cases k with
  | I kvs =>
    obtain ⟨xs, h1, h2⟩ := h
    rw [e] at h1
    cases h1
  | T kvs =>
    obtain ⟨xs, h1, h2⟩ := h
    rw [e] at h1
    cases h1
theorem DkAt.mo {K : PySem.W.Frag} {H HF : Hp} {p : Addr} {k : Dk} (h : DkAt K H HF p k) : Mo H p := by
  cases k with
  | I kvs =>
    obtain ⟨xs, h1, h2⟩ := h
    exact Dn.mo h1
  | T kvs =>
    obtain ⟨xs, h1, h2⟩ := h
    exact Dn.mo h1
theorem DkAt.some {K : PySem.W.Frag} {H HF : Hp} {p : Addr} {k : Dk} (h : DkAt K H HF p k) : H p ≠ none := fun e => by
  cases k with
  | I kvs =>
    obtain ⟨xs, h1, h2⟩ := h
    rw [e] at h1
    cases h1
  | T kvs =>
    obtain ⟨xs, h1, h2⟩ := h
    rw [e] at h1
    cases h1
/-- a board: a list of lists that one name alone holds -/
def BdAt (K : PySem.W.Frag) (g : Gh) (H HF : Hp) (p : Addr) (qs : List Addr) (dss : List (List PyData)) : Prop :=
  H p = some (.lst (qs.map V.ref)) ∧ (p :: qs).Nodup ∧ (∀ q ∈ p :: qs, g.H0 q = none ∧ HF q = none) ∧ Paired (fun q ds => ∃ vs, H q = some (.lst vs) ∧ DRs K HF vs ds) qs dss
theorem refs_inj : ∀ {ps qs : List Addr}, ps.map V.ref = qs.map V.ref → ps = qs
  | [], [], _ => rfl
  | [], _ :: _, h => by cases h
  | _ :: _, [], h => by cases h
  | p :: ps, q :: qs, h => by
    rw [List.map_cons, List.map_cons] at h
    injection h with h1 h2
    injection h1 with h1
    rw [h1, refs_inj h2]
theorem paired_left {α β : Type} {F : α → β → Prop} {a : α} : ∀ {as : List α} {bs : List β}, Paired F as bs → a ∈ as → ∃ b, F a b
  | _, _, .cons x _, .head _ => ⟨_, x⟩
  | _, _, .cons _ r, .tail _ m => paired_left r m
theorem paired_impM {α β : Type} {F G : α → β → Prop} : ∀ {as : List α} {bs : List β}, (∀ a ∈ as, ∀ b, F a b → G a b) → Paired F as bs → Paired G as bs
  | _, _, _, .nil => .nil
  | _, _, h, .cons x r => .cons (h _ List.mem_cons_self _ x) (paired_impM (fun a m b z => h a (List.mem_cons_of_mem _ m) b z) r)
theorem BdAt.live {K : PySem.W.Frag} {g : Gh} {H HF : Hp} {p : Addr} {qs : List Addr} {dss : List (List PyData)} (h : BdAt K g H HF p qs dss) {q : Addr} (m : q ∈ p :: qs) : ∃ vs, H q = some (.lst vs) := by
  obtain ⟨h1, h2, h3, h4⟩ := h
  rcases List.mem_cons.mp m with rfl | m
  · exact ⟨_, h1⟩
  · obtain ⟨b, vs, z, _⟩ := paired_left h4 m
    exact ⟨vs, z⟩
theorem BdAt.keep {K : PySem.W.Frag} {g : Gh} {H HF G GF : Hp} {p : Addr} {qs : List Addr} {dss : List (List PyData)} (h : BdAt K g H HF p qs dss) (e : ∀ q ∈ p :: qs, G q = H q) (n : ∀ q ∈ p :: qs, GF q = none) (l : Le HF GF) : BdAt K g G GF p qs dss := by
  obtain ⟨h1, h2, h3, h4⟩ := h
  refine ⟨by rw [e p List.mem_cons_self]; exact h1, h2, fun q m => ⟨(h3 q m).1, n q m⟩, paired_impM (fun q m ds z => ?_) h4⟩
  obtain ⟨vs, z1, z2⟩ := z
  exact ⟨vs, by rw [e q (List.mem_cons_of_mem _ m)]; exact z1, z2.mono l⟩
theorem BdAt.rows {K : PySem.W.Frag} {g : Gh} {H HF : Hp} {p : Addr} {qs ps : List Addr} {dss : List (List PyData)} (h : BdAt K g H HF p qs dss) (e : H p = some (.lst (ps.map V.ref))) : ps = qs := by
  have := h.1
  rw [e] at this
  injection this with this
  injection this with this
  exact refs_inj this
theorem BdAt.step {K : PySem.W.Frag} {g : Gh} {H HF HF2 G GF : Hp} {f : Feed} {p : Addr} {qs : List Addr} {dss : List (List PyData)} (h : BdAt K g H HF p qs dss) (r : FeedAt g H HF2 f) (s : Step g H HF G GF) : BdAt K g G GF p qs dss := by
  have k : ∀ q ∈ p :: qs, G q = H q ∧ GF q = none := fun q m => by
    obtain ⟨vs, z⟩ := h.live m
    refine ⟨?_, s.new q (mo z) (h.2.2.1 q m).2⟩
    rw [z]
    refine s.ext q _ (fun w => ?_) z
    rw [w, r.d] at z
    cases z
  exact h.keep (fun q m => (k q m).1) (fun q m => (k q m).2) s.le
theorem BdAt.upd {K : PySem.W.Frag} {g : Gh} {H HF : Hp} {p a : Addr} {o : HO} {qs : List Addr} {dss : List (List PyData)} (h : BdAt K g H HF p qs dss) (n : a ∉ p :: qs) : BdAt K g (upd H a o) HF p qs dss :=
  h.keep (fun q m => upd_ne (fun z => n (by rw [← z]; exact m))) (fun q m => (h.2.2.1 q m).2) (Le.refl _)
/-- at most one board, and no other name holds a row of it -/
def BdSep (σ : St) (H : Hp) (ρ : Rho) : Prop :=
  (∀ (i j : Nat) (a b : List (List PyData)), ρ[i]? = some (.brd a) → ρ[j]? = some (.brd b) → i = j) ∧
  ∀ (i j : Nat) (dss : List (List PyData)) (ds : List PyData) (p a : Addr) (qs : List Addr), ρ[i]? = some (.brd dss) → ρ[j]? = some (.own ds) → σ[i]? = some (some (.ref p)) → σ[j]? = some (some (.ref a)) → H p = some (.lst (qs.map V.ref)) → a ∉ p :: qs
theorem BdSep.to {σ τ : St} {H G : Hp} {ρ ϱ : Rho} (b : BdSep σ H ρ) (h1 : ∀ (i : Nat) dss, ϱ[i]? = some (.brd dss) → (∃ d2, ρ[i]? = some (.brd d2)) ∧ τ[i]? = σ[i]?) (h2 : ∀ (j : Nat) ds, ϱ[j]? = some (.own ds) → (∃ d2, ρ[j]? = some (.own d2)) ∧ τ[j]? = σ[j]?)
    (h3 : ∀ (i : Nat) dss (p : Addr) (qs : List Addr), ρ[i]? = some (.brd dss) → σ[i]? = some (some (.ref p)) → G p = some (.lst (qs.map V.ref)) → H p = some (.lst (qs.map V.ref))) : BdSep τ G ϱ := by
  refine ⟨fun i j x y e1 e2 => ?_, fun i j dss ds p a qs e1 e2 e3 e4 e5 => ?_⟩
  · obtain ⟨⟨x2, z1⟩, _⟩ := h1 i x e1
    obtain ⟨⟨y2, z2⟩, _⟩ := h1 j y e2
    exact b.1 i j x2 y2 z1 z2
  · obtain ⟨⟨x2, z1⟩, w1⟩ := h1 i dss e1
    obtain ⟨⟨y2, z2⟩, w2⟩ := h2 j ds e2
    rw [w1] at e3
    rw [w2] at e4
    exact b.2 i j x2 y2 p a qs z1 z2 e3 e4 (h3 i x2 p qs z1 e3 e5)
theorem BdSep.noBd {σ : St} {H : Hp} {ρ : Rho} (h : ∀ (i : Nat) dss, ρ[i]? ≠ some (.brd dss)) : BdSep σ H ρ := ⟨fun i _ a _ e _ => absurd e (h i a), fun i _ dss _ _ _ _ e _ _ _ _ => absurd e (h i dss)⟩
def SlotOk (K : PySem.W.Frag) (g : Gh) (H HF : Hp) (x : Option (Option V)) : Slot → Prop
  | .emp => True
  | .dat d => ∃ v, x = some (some v) ∧ DR K HF v d
  | .own ds => ∃ p vs, x = some (some (.ref p)) ∧ g.H0 p = none ∧ HF p = none ∧ H p = some (.lst vs) ∧ DRs K HF vs ds
  | .feed => x = some (some (.ref g.fa))
  | .scr ns => ∃ a, x = some (some (.ref a)) ∧ SqL K HF a (ns.map V.int)
  | .dct k => ∃ p, x = some (some (.ref p)) ∧ g.H0 p = none ∧ HF p = none ∧ DkAt K H HF p k
  | .key ks => ∃ a, x = some (some (.ref a)) ∧ HF a = some (.tup (ks.map V.int))
  | .brd dss => ∃ p qs, x = some (some (.ref p)) ∧ BdAt K g H HF p qs dss
structure Rel (K : PySem.W.Frag) (g : Gh) (σ : St) (H HF : Hp) (ρ : Rho) (f : Feed) : Prop where
  sub : Le HF H
  feed : FeedAt g H HF f
  ext : ∀ a o, a ≠ g.fa → g.H0 a = some o → H a = some o
  le : Le g.HF0 HF
  new : ∀ a, Mo g.H0 a → g.HF0 a = none → HF a = none
  len : σ.length = ρ.length
  slot : ∀ (i : Nat) (s : Slot), ρ[i]? = some s → SlotOk K g H HF σ[i]? s
  sep : ∀ (i j : Nat) (ds es : List PyData), ρ[i]? = some (.own ds) → ρ[j]? = some (.own es) → σ[i]? = σ[j]? → i = j
  sepD : ∀ (i j : Nat) (k l : Dk), ρ[i]? = some (.dct k) → ρ[j]? = some (.dct l) → σ[i]? = σ[j]? → i = j
  bd : BdSep σ H ρ
/-- a board's rows are as they were -/
theorem Rel.bdWas {K : PySem.W.Frag} {g : Gh} {σ : St} {H HF G GF : Hp} {ρ : Rho} {f : Feed} (r : Rel K g σ H HF ρ f) (s : Step g H HF G GF) {i : Nat} {dss : List (List PyData)} {p : Addr} {qs : List Addr} (e : ρ[i]? = some (.brd dss)) (e1 : σ[i]? = some (some (.ref p))) (e2 : G p = some (.lst (qs.map V.ref))) : BdAt K g H HF p qs dss := by
  obtain ⟨p2, q2, z1, z2⟩ := r.slot i _ e
  rw [e1] at z1
  cases z1
  have := (z2.step r.feed s).rows e2
  subst this
  exact z2
theorem ne_fa {g : Gh} {H HF : Hp} {f : Feed} {p : Addr} {vs : List V} (h : FeedAt g H HF f) (e : H p = some (.lst vs)) : p ≠ g.fa := fun q => by
  rw [q, h.d] at e
  cases e
theorem Rel.step {K : PySem.W.Frag} {g : Gh} {σ : St} {H HF G GF : Hp} {ρ : Rho} {f f1 : Feed} (r : Rel K g σ H HF ρ f) (s : Step g H HF G GF) (h : FeedAt g G GF f1) : Rel K g σ G GF ρ f1 where
  sub := s.sub
  feed := h
  ext := fun a o q e => s.ext a o q (r.ext a o q e)
  le := r.le.trans s.le
  new := fun a e q => s.new a (by
    by_cases z : a = g.fa
    · rw [z]
      exact mo r.feed.d
    · obtain ⟨o, e1, e2⟩ := e
      exact ⟨o, r.ext a o z e1, e2⟩) (r.new a e q)
  len := r.len
  slot := fun i x e => by
    have z := r.slot i x e
    cases x with
    | emp => trivial
    | dat d =>
      obtain ⟨v, z1, z2⟩ := z
      exact ⟨v, z1, z2.mono s.le⟩
    | own ds =>
      obtain ⟨p, vs, z1, z2, z3, z4, z5⟩ := z
      exact ⟨p, vs, z1, z2, s.new p (mo z4) z3, s.ext p _ (ne_fa r.feed z4) z4, z5.mono s.le⟩
    | feed => exact z
    | scr ns =>
      obtain ⟨a, z1, z2⟩ := z
      exact ⟨a, z1, s.le.sqL z2⟩
    | dct k =>
      obtain ⟨p, z1, z2, z3, z4⟩ := z
      exact ⟨p, z1, z2, s.new p z4.mo z3, z4.mono (fun o => s.ext p o (z4.ne r.feed)) s.le⟩
    | key ks =>
      obtain ⟨a, z1, z2⟩ := z
      exact ⟨a, z1, s.le _ _ z2⟩
    | brd dss =>
      obtain ⟨p, qs, z1, z2⟩ := z
      exact ⟨p, qs, z1, z2.step r.feed s⟩
  sep := r.sep
  sepD := r.sepD
  bd := r.bd.to (fun i dss e => ⟨⟨dss, e⟩, rfl⟩) (fun j ds e => ⟨⟨ds, e⟩, rfl⟩) fun i dss p qs e1 e2 e3 => (r.bdWas s e1 e2 e3).1
/-- a value that an expression gave: σ, H the state ahead of it -/
def RR (K : PySem.W.Frag) (g : Gh) (σ : St) (H G GF : Hp) (v : V) : RV → Prop
  | .dat d => DR K GF v d
  | .own ds => ∃ p vs, v = .ref p ∧ H p = none ∧ GF p = none ∧ G p = some (.lst vs) ∧ DRs K GF vs ds
  | .lent i ds => ∃ p vs, v = .ref p ∧ g.H0 p = none ∧ GF p = none ∧ G p = some (.lst vs) ∧ DRs K GF vs ds
  | .feed => v = .ref g.fa
section
variable {K : PySem.W.Frag} {g : Gh} {σ : St} {H HF G GF I IF : Hp} {v : V} {rv : RV} {f : Feed} {d : PyData}
theorem RR.step (r : RR K g σ H G GF v rv) (h : FeedAt g G GF f) (s : Step g G GF I IF) : RR K g σ H I IF v rv := by
  cases rv with
  | dat d => exact DR.mono s.le r
  | own ds =>
    obtain ⟨p, vs, e1, e2, e3, e4, e5⟩ := r
    exact ⟨p, vs, e1, e2, s.new p (mo e4) e3, s.ext p _ (ne_fa h e4) e4, e5.mono s.le⟩
  | lent i ds =>
    obtain ⟨p, vs, e1, e0, e3, e4, e5⟩ := r
    exact ⟨p, vs, e1, e0, s.new p (mo e4) e3, s.ext p _ (ne_fa h e4) e4, e5.mono s.le⟩
  | feed => exact r
theorem RR.back (r : RR K g σ G I IF v rv) (h : FeedAt g G GF f) (s : Step g H HF G GF) : RR K g σ H I IF v rv := by
  cases rv with
  | dat d => exact r
  | own ds =>
    obtain ⟨p, vs, e1, e2, e3⟩ := r
    exact ⟨p, vs, e1, s.dead h e2, e3⟩
  | lent i ds => exact r
  | feed => exact r
theorem RR.top (r : RR K g σ H G GF v rv) (h : FeedAt g G GF f) (e : rv.peek = some d) : Top K g G GF v d := by
  cases rv with
  | dat c =>
    cases e
    exact .inl r
  | own ds =>
    cases e
    obtain ⟨p, vs, e1, e2, e3, e4, e5⟩ := r
    exact .inr ⟨p, vs, ds, e1, rfl, ne_fa h e4, e4, e5⟩
  | lent i ds =>
    cases e
    obtain ⟨p, vs, e1, e0, e3, e4, e5⟩ := r
    exact .inr ⟨p, vs, ds, e1, rfl, ne_fa h e4, e4, e5⟩
  | feed => cases e
/-- a new list may be told as a datum from here on -/
theorem RR.frz (r : RR K g σ H G GF v rv) (h : FeedAt g G GF f) (s : Step g H HF G GF) (e : rv.data = some d) : ∃ IF, Step g H HF G IF ∧ FeedAt g G IF f ∧ DR K IF v d := by
  cases rv with
  | dat c =>
    cases e
    exact ⟨GF, s, h, r⟩
  | own ds =>
    cases e
    obtain ⟨p, vs, e1, e2, e3, e4, e5⟩ := r
    subst e1
    have np : g.fa ≠ p := fun q => ne_fa h e4 q.symm
    have l1 : Le GF (upd GF p (.lst vs)) := fun a o q => by
      rw [upd_ne (ne_of_none q e3)]
      exact q
    refine ⟨upd GF p (.lst vs), ⟨s.ext, s.le.trans l1, fun a x y => ?_, fun a o q => ?_⟩, ⟨h.d, ?_, ?_⟩, .lst upd_same (e5.mono l1)⟩
    · rw [upd_ne (fun z => x.some (by rw [z]; exact e2))]
      exact s.new a x y
    · by_cases z : a = p
      · subst z
        rw [upd_same] at q
        rw [e4]
        exact q
      · rw [upd_ne z] at q
        exact s.sub a o q
    · rw [upd_ne np]
      exact h.nf
    · rw [upd_ne (ne_of_none h.c e3)]
      exact h.c
  | lent i ds => cases e
  | feed => cases e
end
def Xd (K : PySem.W.Frag) (H HF : Hp) (od : Option Addr) (vs : List (Str × PyData)) : Prop := ∃ xs, XdH HF od xs ∧ xs.map (·.1) = vs.map (·.1) ∧ DRs K HF (xs.map (·.2)) (vs.map (·.2))
/-- what is wanted of an outcome -/
def ROk {α : Type} (K : PySem.W.Frag) (mg : Str → Option Value) (g : Gh) (H HF : Hp) (E : XK) (r : R α) (P : α → Feed → Prop) : Prop := match r with
  | .no => False
  | .ok a f => P a f
  | .ex c vs f => ∀ (C : Addr) (od : Option Addr) (G GF : Hp), mg c = some (.ref C) → Step g H HF G GF → FeedAt g G GF f → Xd K G GF od vs → E (.ref C) od G
def Fin (K : PySem.W.Frag) (g : Gh) (σ : St) (H HF : Hp) (Q : VK) (rv : RV) (f : Feed) : Prop := ∀ v G GF, Step g H HF G GF → FeedAt g G GF f → RR K g σ H G GF v rv → Q v G
abbrev Wish := St → XK
def tD (K : PySem.W.Frag) (mg : Str → Option Value) (W : Wish) (e : Ex) : TE := fun σ H Q => ∃ g HF ρ f, Rel K g σ H HF ρ f ∧ ROk K mg g H HF (W σ) (e ρ f) (Fin K g σ H HF Q)
section
variable {K : PySem.W.Frag} {mg : Str → Option Value} {W : Wish} {g : Gh} {σ : St} {H HF G GF : Hp} {ρ : Rho} {f f1 : Feed} {e e2 : Ex} {Q : VK} {E : XK}
theorem ROk.mono {α : Type} {r : R α} {P P2 : α → Feed → Prop} (h : ROk K mg g H HF E r P) (i : ∀ a f, P a f → P2 a f) : ROk K mg g H HF E r P2 := by
  cases r with
  | no => exact h
  | ok a f => exact i a f h
  | ex c vs f => exact h
theorem ROk.later {α : Type} {r : R α} {P : α → Feed → Prop} (h : ROk K mg g H HF E r P) (hf : FeedAt g G GF f) (s : Step g H HF G GF) : ROk K mg g G GF E r P := by
  cases r with
  | no => exact h
  | ok a f => exact h
  | ex c vs f => exact fun C od I IF q s2 h2 x => h C od I IF q (s.trans hf s2) h2 x
theorem ROk.of_bind {α β : Type} {r : R α} {k : α → Feed → R β} {P : β → Feed → Prop} (h : ROk K mg g H HF E (r.bind k) P) : ROk K mg g H HF E r fun a f => ROk K mg g H HF E (k a f) P := by
  cases r with
  | no => exact h
  | ok a f => exact h
  | ex c vs f => exact h
/-- an expression, then the rest -/
theorem tD_bind {β : Type} {k : RV → Feed → R β} {P : β → Feed → Prop} (r : Rel K g σ H HF ρ f) (h : ROk K mg g H HF (W σ) ((e ρ f).bind k) P)
    (c : ∀ rv f1 v G GF, Rel K g σ G GF ρ f1 → Step g H HF G GF → RR K g σ H G GF v rv → ROk K mg g G GF (W σ) (k rv f1) P → Q v G) : tD K mg W e σ H Q :=
  ⟨g, HF, ρ, f, r, h.of_bind.mono fun rv f1 q v G GF s hf rr => c rv f1 v G GF (r.step s hf) s rr (q.later hf s)⟩
def pk {β : Type} (r : R RV) (k : PyData → Feed → R β) : R β := r.bind fun rv f => match rv.peek with
  | some d => k d f
  | none => .no
def dt {β : Type} (r : R RV) (k : PyData → Feed → R β) : R β := r.bind fun rv f => match rv.data with
  | some d => k d f
  | none => .no
/-- .. read -/
theorem tD_pk {β : Type} {k : PyData → Feed → R β} {P : β → Feed → Prop} (r : Rel K g σ H HF ρ f) (h : ROk K mg g H HF (W σ) (pk (e ρ f) k) P)
    (c : ∀ d f1 v G GF, Rel K g σ G GF ρ f1 → Step g H HF G GF → Top K g G GF v d → ROk K mg g G GF (W σ) (k d f1) P → Q v G) : tD K mg W e σ H Q :=
  tD_bind r h fun rv f1 v G GF r1 s rr q => by
    cases z : rv.peek with
    | none =>
      simp only [z] at q
      exact q.elim
    | some d =>
      simp only [z] at q
      exact c d f1 v G GF r1 s (rr.top r1.feed z) q
/-- .. told as a datum -/
theorem tD_dt {β : Type} {k : PyData → Feed → R β} {P : β → Feed → Prop} (r : Rel K g σ H HF ρ f) (h : ROk K mg g H HF (W σ) (dt (e ρ f) k) P)
    (c : ∀ d f1 v G GF, Rel K g σ G GF ρ f1 → Step g H HF G GF → DR K GF v d → ROk K mg g G GF (W σ) (k d f1) P → Q v G) : tD K mg W e σ H Q :=
  ⟨g, HF, ρ, f, r, (ROk.of_bind h).mono fun rv f1 q v G GF s hf rr => by
    cases z : rv.data with
    | none =>
      simp only [z] at q
      exact (show False from q).elim
    | some d =>
      simp only [z] at q
      obtain ⟨IF, s2, h2, dr⟩ := rr.frz hf s z
      exact c d f1 v G IF (r.step s2 h2) s2 dr (q.later h2 s2)⟩
theorem pe_mono {X : Cx} {e : Expr} {t t2 : TE} (h : PE X e t) (i : ∀ σ H Q, t2 σ H Q → t σ H Q) : PE X e t2 := ⟨fun pins s σ H Q I q => h.run pins s σ H Q I (i σ H Q q)⟩
end
abbrev DE (X : Cx) (W : Wish) (e : Expr) (x : Ex) : Prop := PE X e (tD X.K X.mg W x)
def cC (d : PyData) : Ex := fun _ f => .ok (.dat d) f
def cVar (i : Nat) : Ex := fun ρ f => match ρ[i]? with
  | some (.dat d) => .ok (.dat d) f
  | some (.own ds) => .ok (.lent i ds) f
  | some .feed => .ok .feed f
  | some (.key ks) => .ok (.dat (.tuple (ks.map .int))) f
  | _ => .no
section
variable {X : Cx} {W : Wish}
theorem de_const {e : Expr} {v : V} {d : PyData} (h : PE X e (tC v)) (r : ∀ HF, DR X.K HF v d) : DE X W e (cC d) := pe_mono h fun σ H Q ⟨g, HF, ρ, f, rel, q⟩ =>
  (show Fin X.K g σ H HF Q (.dat d) f from q) v H HF (Step.refl rel.sub) rel.feed (r HF)
theorem de_int {i j pos} : DE X W (.Constant (.int i) j pos) (cC (.int i)) := de_const pe_int fun _ => .int i
theorem de_bl {b j pos} : DE X W (.Constant (.bool b) j pos) (cC (.bool b)) := de_const pe_bl fun _ => .bl b
theorem de_non {j pos} : DE X W (.Constant .none j pos) (cC .none) := de_const pe_non fun _ => .non
theorem de_str {x j pos} : DE X W (.Constant (.str x) j pos) (cC (.str x)) := de_const pe_str fun _ => .str x
theorem de_var {e : Expr} {i : Nat} (h : PE X e (tVar i)) : DE X W e (cVar i) := pe_mono h fun σ H Q ⟨g, HF, ρ, f, rel, q⟩ => by
  unfold cVar at q
  cases z : ρ[i]? with
  | none =>
    simp only [z] at q
    exact (show False from q).elim
  | some s =>
    have k := rel.slot i s z
    cases s with
    | emp =>
      simp only [z] at q
      exact (show False from q).elim
    | dat d =>
      simp only [z] at q
      obtain ⟨v, k1, k2⟩ := k
      exact ⟨v, k1, (show Fin X.K g σ H HF Q (.dat d) f from q) v H HF (Step.refl rel.sub) rel.feed k2⟩
    | own ds =>
      simp only [z] at q
      obtain ⟨p, vs, k1, k2, k3, k4, k5⟩ := k
      exact ⟨.ref p, k1, (show Fin X.K g σ H HF Q (.lent i ds) f from q) (.ref p) H HF (Step.refl rel.sub) rel.feed ⟨p, vs, rfl, k2, k3, k4, k5⟩⟩
    | feed =>
      simp only [z] at q
      exact ⟨.ref g.fa, k, (show Fin X.K g σ H HF Q .feed f from q) (.ref g.fa) H HF (Step.refl rel.sub) rel.feed rfl⟩
    | scr ns =>
      simp only [z] at q
      exact (show False from q).elim
    | dct k =>
      simp only [z] at q
      exact (show False from q).elim
    | brd k =>
      simp only [z] at q
      exact (show False from q).elim
    | key ks =>
      simp only [z] at q
      obtain ⟨a, k1, k2⟩ := k
      exact ⟨.ref a, k1, (show Fin X.K g σ H HF Q (.dat (.tuple (ks.map .int))) f from q) (.ref a) H HF (Step.refl rel.sub) rel.feed (.tup (.inl (.inl k2)) (DRs.ints ks))⟩
end
end Dn
end
section
set_option maxHeartbeats 4000000
namespace Dn
open PySem PySem.Spec L2
open PySem.AutoSeq1 (wpAny_loadPart')
open PyProof.Rows (IsTup)
theorem tup_mul_one (l : Addr) (its : Array Value) (n : Nat) (dd : Option Addr) (sl : Array (Option Value)) (x : Int) (u : Tok)
    (c0 : (decide (x < -(2 ^ 63)) || decide (x ≥ 2 ^ 63)) = false) (c1 : (its.isEmpty || x == 1) = true) :
    Meets (Builtin.«tuple.__mul__» ⟨[.ref l, .int x u], []⟩) (fun _ R s =>
      s.heap.get? l = some { cls := .type "tuple", dict := dd, data := .seq its n, slots := sl } ∧ R (.ok (.ret (.ref l))) s) :=
  .of_wp fun prog w A R s h => by
    obtain ⟨hp, g, d, tk, os⟩ := s
    obtain ⟨hl, h⟩ := h
    have f1 := AutoSeq1.idx_int
    wp_walk using wpAny_loadPart' hl
    repeat (first
      | (refine wpAny_ite_false (decide_eq_false (by rw [c0]; exact Bool.false_ne_true)) ?_; wp_walk using wpAny_loadPart' hl)
      | (refine wpAny_ite_true (decide_eq_true (by rw [c1])) ?_; wp_walk using wpAny_loadPart' hl))
    exact ⟨_, rfl, h⟩
theorem tup_mul_none (l : Addr) (its : Array Value) (n : Nat) (dd : Option Addr) (sl : Array (Option Value)) (x : Int) (u : Tok)
    (c0 : (decide (x < -(2 ^ 63)) || decide (x ≥ 2 ^ 63)) = false) (c1 : (its.isEmpty || x == 1) = false) (c2 : (decide (x ≤ 0) || its.isEmpty) = true) :
    Meets (Builtin.«tuple.__mul__» ⟨[.ref l, .int x u], []⟩) (fun _ R s =>
      s.heap.get? l = some { cls := .type "tuple", dict := dd, data := .seq its n, slots := sl } ∧
        R (.ok (.ret (.ref s.heap.objs.size))) { s with heap := s.heap.push { cls := .type "tuple", data := .seq #[] }, toks := s.toks }) :=
  .of_wp fun prog w A R s h => by
    obtain ⟨hp, g, d, tk, os⟩ := s
    obtain ⟨hl, h⟩ := h
    have f1 := AutoSeq1.idx_int
    wp_walk using wpAny_loadPart' hl
    repeat (first
      | (refine wpAny_ite_false (decide_eq_false (by rw [c0]; exact Bool.false_ne_true)) ?_; wp_walk using wpAny_loadPart' hl)
      | (refine wpAny_ite_false (decide_eq_false (by rw [c1]; exact Bool.false_ne_true)) ?_; wp_walk using wpAny_loadPart' hl)
      | (refine wpAny_ite_true (decide_eq_true (by rw [c2])) ?_; wp_walk using wpAny_loadPart' hl))
    exact ⟨_, rfl, h⟩
def rRep1 (K : PySem.W.Frag) : R2 := fun x y H Q => ∃ l k xs, x = .ref l ∧ y = .int k ∧ SqT K H l xs ∧ -(2 ^ 60) ≤ k ∧ k ≤ 2 ^ 60 ∧ (xs = [] ∨ k ≤ 1) ∧
  ((xs = [] ∨ k = 1) → Q (.ref l) H) ∧ (xs ≠ [] → k ≤ 0 → ∀ p, H p = none → Q (.ref p) (upd H p (.tup [])))
theorem op_rep1 {X : Cx} : OpR X (binaryOp .Mult) (rRep1 X.K) := by
  intro pins s σ H x y v u Q I rx ry h
  obtain ⟨l, k, xs, rfl, rfl, hT, h1, h2, h3, q1, q2⟩ := h
  cases rx
  obtain ⟨t, rfl⟩ := ry
  obtain ⟨its, r, ⟨⟨cls, dd, data, sl⟩, ho, hc, n, hd⟩, hs⟩ := I.tuple hT
  simp only at hc hd
  subst hc hd
  have c0 : (decide (k < -(2 ^ 63)) || decide (k ≥ 2 ^ 63)) = false := by
    rw [decide_eq_false (by omega), decide_eq_false (by omega)] <;> rfl
  have emp : its.toArray.isEmpty = true ↔ xs = [] := by
    constructor
    · intro e
      cases its with
      | nil => cases r; rfl
      | cons a b => simp at e
    · intro e
      subst e
      cases r
      rfl
  by_cases c : xs = [] ∨ k = 1
  · have c1 : (its.toArray.isEmpty || k == 1) = true := by
      rcases c with c | c
      · rw [emp.mpr c]; rfl
      · rw [c]; simp
    refine wpAny_binaryOp_repeat_ref (T := "tuple") (U := "int") (by decide) ⟨_, ho, rfl⟩ (fun s' => typeIs_int s' k t) noFill_tuple_mul F.fills_int_mul F.slot_int_rmul repeat_tuple F.slot_int_index.lookup
      (call_meets F.slot_int_rmul (typeIs_int s k t) F.entry_int_rmul (F.args_int_rmul_2 _ _) (int_rmul_tuple k t l its.toArray n dd sl)
        ⟨ho, rfl, ⟨_, ho, rfl⟩, call_meets F.slot_tuple_mul ⟨_, ho, rfl⟩ F.entry_tuple_mul (F.args_tuple_mul_2 _ _) (tup_mul_one l its.toArray n dd sl k t c0 c1) ⟨ho, ?_⟩⟩)
    exact ⟨.ref l, H, I, rfl, q1 c⟩
  · have nx : xs ≠ [] := fun e => c (.inl e)
    have nk : k ≠ 1 := fun e => c (.inr e)
    have ie : its.toArray.isEmpty = false := by
      cases z : its.toArray.isEmpty with
      | false => rfl
      | true => exact absurd (emp.mp z) nx
    have c1 : (its.toArray.isEmpty || k == 1) = false := by
      rw [ie, Bool.false_or]
      exact beq_eq_false_iff_ne.mpr nk
    have c2 : (decide (k ≤ 0) || its.toArray.isEmpty) = true := by
      rw [decide_eq_true (show k ≤ 0 by rcases h3 with h3 | h3; exact absurd h3 nx; omega)]; rfl
    refine wpAny_binaryOp_repeat_ref (T := "tuple") (U := "int") (by decide) ⟨_, ho, rfl⟩ (fun s' => typeIs_int s' k t) noFill_tuple_mul F.fills_int_mul F.slot_int_rmul repeat_tuple F.slot_int_index.lookup
      (call_meets F.slot_int_rmul (typeIs_int s k t) F.entry_int_rmul (F.args_int_rmul_2 _ _) (int_rmul_tuple k t l its.toArray n dd sl)
        ⟨ho, rfl, ⟨_, ho, rfl⟩, call_meets F.slot_tuple_mul ⟨_, ho, rfl⟩ F.entry_tuple_mul (F.args_tuple_mul_2 _ _) (tup_mul_none l its.toArray n dd sl k t c0 c1 c2) ⟨ho, ?_⟩⟩)
    refine ⟨.ref s.heap.objs.size, _, I.laid (t' := s.toks) (o := .tup []) (fun b ob q => Heap.get?_push_of_some _ q) (Nat.le_refl _) ?_, rfl, q2 nx (by rcases h3 with h3 | h3; exact absurd h3 nx; omega) _ (I.hok.fresh (Nat.le_refl _))⟩
    exact ⟨Nat.zero_le _, _, .nil, IsTup.new _ _⟩
end Dn
end
section
set_option maxHeartbeats 4000000
namespace Dn
open PySem PySem.Spec L2
abbrev Op2 := PyData → PyData → Option RV
abbrev Op1 := PyData → Option RV
def give (o : Option RV) (f : Feed) : R RV := match o with
  | some rv => .ok rv f
  | none => .no
def cBin (o : Op2) (a b : Ex) : Ex := fun ρ f => pk (a ρ f) fun x f1 => pk (b ρ f1) fun y f2 => give (o x y) f2
def cUn (o : Op1) (a : Ex) : Ex := fun ρ f => pk (a ρ f) fun x f1 => give (o x) f1
/-- what an operation's reading needs -/
structure At (K : PySem.W.Frag) (g : Gh) (H HF : Hp) (f : Feed) : Prop where
  sub : Le HF H
  feed : FeedAt g H HF f
def Ends1 (K : PySem.W.Frag) (g : Gh) (H HF : Hp) (f : Feed) (rv : RV) (Q : VK) : Prop := ∀ v G GF, Step g H HF G GF → FeedAt g G GF f → RR K g [] H G GF v rv → Q v G
def BinOk (K : PySem.W.Frag) (r : R2) (o : Op2) : Prop := ∀ g H HF f x y d e rv, At K g H HF f → Top K g H HF x d → Top K g H HF y e → o d e = some rv → ∀ Q, Ends1 K g H HF f rv Q → r x y H Q
def UnOk (K : PySem.W.Frag) (r : V → Hp → VK → Prop) (o : Op1) : Prop := ∀ g H HF f x d rv, At K g H HF f → Top K g H HF x d → o d = some rv → ∀ Q, Ends1 K g H HF f rv Q → r x H Q
theorem RR.any {K : PySem.W.Frag} {g : Gh} {σ : St} {H G GF : Hp} {v : V} {rv : RV} (r : RR K g [] H G GF v rv) : RR K g σ H G GF v rv := by
  cases rv with
  | dat d => exact r
  | own ds => exact r
  | lent i ds => exact r
  | feed => exact r
section
variable {X : Cx} {W : Wish} {K : PySem.W.Frag} {mg : Str → Option Value} {fa fb : Ex} {r r2 : R2} {o o2 : Op2}
theorem give_end {g : Gh} {σ : St} {H HF G GF : Hp} {f : Feed} {E : XK} {Q : VK} {x : Option RV} (rel : FeedAt g G GF f) (st : Step g H HF G GF)
    (q : ROk K mg g G GF E (give x f) (Fin K g σ H HF Q)) : ∃ rv, x = some rv ∧ Ends1 K g G GF f rv Q := by
  cases x with
  | none => exact (show False from q).elim
  | some rv => exact ⟨rv, rfl, fun v I IF s h rr => (show Fin K g σ H HF Q rv f from q) v I IF (st.trans rel s) h (rr.any.back rel st)⟩
theorem bin_read (hb : BinOk K r o) {σ : St} {H : Hp} {Q : VK} (h : tD K mg W (cBin o fa fb) σ H Q) : tOp r (tD K mg W fa) (tD K mg W fb) σ H Q := by
  obtain ⟨g, HF, ρ, f, rel, q⟩ := h
  refine tD_pk rel q fun d f1 x G GF r1 s1 t1 q1 => tD_pk r1 q1 fun e f2 y I IF r2 s2 t2 q2 => ?_
  obtain ⟨rv, z, k⟩ := give_end r2.feed (s1.trans r1.feed s2) q2
  exact hb g I IF f2 x y d e rv ⟨r2.sub, r2.feed⟩ (t1.step s2) t2 z Q k
theorem un_read {r : V → Hp → VK → Prop} {o : Op1} (hb : UnOk K r o) {σ : St} {H : Hp} {Q : VK} (h : tD K mg W (cUn o fa) σ H Q) : tUn r (tD K mg W fa) σ H Q := by
  obtain ⟨g, HF, ρ, f, rel, q⟩ := h
  refine tD_pk rel q fun d f1 x G GF r1 s1 t1 q1 => ?_
  obtain ⟨rv, z, k⟩ := give_end r1.feed s1 q1
  exact hb g G GF f1 x d rv ⟨r1.sub, r1.feed⟩ t1 z Q k
theorem BinOk.or (h : BinOk K r o) (h2 : BinOk K r2 o2) : BinOk K (fun x y H Q => r x y H Q ∨ r2 x y H Q) fun d e => (o d e).or (o2 d e) := fun g H HF f x y d e rv a t u z Q k => by
  replace z : (o d e).or (o2 d e) = some rv := z
  cases q : o d e with
  | some w =>
    rw [q] at z
    exact .inl (h g H HF f x y d e rv a t u (q.trans z) Q k)
  | none =>
    rw [q] at z
    exact .inr (h2 g H HF f x y d e rv a t u z Q k)
theorem de_bin {op : Operator} {a b : Expr} {pos : Pos} (ho : OpR X (binaryOp op) r) (hb : BinOk X.K r o) (ha : DE X W a fa) (hc : DE X W b fb) : DE X W (.BinOp a op b pos) (cBin o fa fb) :=
  pe_mono (pe_op ho ha hc) fun _ _ _ h => bin_read hb h
theorem de_un {op : UnaryOp} {a : Expr} {pos : Pos} {r : V → Hp → VK → Prop} {o : Op1} (ho : UnR X (unaryOp op) r) (hb : UnOk X.K r o) (ha : DE X W a fa) : DE X W (.UnaryOp op a pos) (cUn o fa) :=
  pe_mono (pe_un ho ha) fun _ _ _ h => un_read hb h
theorem de_cmp {op : CmpOp} {a b : Expr} {pos : Pos} (ho : OpR X (compareOp op) r) (hb : BinOk X.K r o) (ha : DE X W a fa) (hc : DE X W b fb) (hm : behindInMarks op b = false) : DE X W (.Compare a [op] [b] pos) (cBin o fa fb) :=
  pe_mono (pe_cmpR ho ha hc hm) fun _ _ _ h => bin_read hb h
end
section
variable {K : PySem.W.Frag} {g : Gh} {H HF : Hp} {v : V}
theorem Top.int {i : Int} (t : Top K g H HF v (.int i)) : v = .int i := by
  rcases t with h | ⟨p, vs, ds, e1, e2, e3⟩
  · cases h; rfl
  · cases e2
theorem Top.bl {b : Bool} (t : Top K g H HF v (.bool b)) : v = .bl b := by
  rcases t with h | ⟨p, vs, ds, e1, e2, e3⟩
  · cases h; rfl
  · cases e2
theorem Top.str {x : Str} (t : Top K g H HF v (.str x)) : v = .str x := by
  rcases t with h | ⟨p, vs, ds, e1, e2, e3⟩
  · cases h; rfl
  · cases e2
theorem Top.non (t : Top K g H HF v .none) : v = .non := by
  rcases t with h | ⟨p, vs, ds, e1, e2, e3⟩
  · cases h; rfl
  · cases e2
theorem Top.lst {ds : List PyData} (t : Top K g H HF v (.list ds)) (l : Le HF H) : ∃ p vs, v = .ref p ∧ H p = some (.lst vs) ∧ DRs K HF vs ds := by
  rcases t with h | ⟨p, vs, es, e1, e2, e3, e4, e5⟩
  · cases h with
    | lst h r => exact ⟨_, _, rfl, l _ _ h, r⟩
  · cases e2
    exact ⟨p, vs, e1, e4, e5⟩
theorem Top.tup {ds : List PyData} (t : Top K g H HF v (.tuple ds)) : ∃ p vs, v = .ref p ∧ SqT K HF p vs ∧ DRs K HF vs ds := by
  rcases t with h | ⟨p, vs, es, e1, e2, e3⟩
  · cases h with
    | tup h r => exact ⟨_, _, rfl, h, r⟩
  · cases e2
end
section
variable {K : PySem.W.Frag} {g : Gh} {H HF : Hp} {f : Feed} {Q : VK}
theorem Ends1.now {v : V} {d : PyData} (a : At K g H HF f) (k : Ends1 K g H HF f (.dat d) Q) (r : DR K HF v d) : Q v H := k v H HF (Step.refl a.sub) a.feed r
/-- a new tuple -/
theorem Ends1.newT {vs : List V} {ds : List PyData} (a : At K g H HF f) (k : Ends1 K g H HF f (.dat (.tuple ds)) Q) (r : DRs K HF vs ds) (p : Addr) (hp : H p = none) : Q (.ref p) (upd H p (.tup vs)) := by
  have hf : HF p = none := by
    cases z : HF p with
    | none => rfl
    | some o => rw [a.sub _ _ z] at hp; cases hp
  have l : Le HF (upd HF p (.tup vs)) := fun b o e => by
    rw [upd_ne (ne_of_none e hf)]
    exact e
  refine k (.ref p) (upd H p (.tup vs)) (upd HF p (.tup vs)) ⟨fun b o _ e => ?_, l, fun b x y => ?_, fun b o e => ?_⟩ ⟨?_, ?_, ?_⟩ (.tup (.inl (.inl upd_same)) (r.mono l))
  · rw [upd_ne (ne_of_none e hp)]
    exact e
  · rw [upd_ne (fun z => x.some (by rw [z]; exact hp))]
    exact y
  · by_cases z : b = p
    · subst z
      rw [upd_same] at e ⊢
      exact e
    · rw [upd_ne z] at e ⊢
      exact a.sub _ _ e
  · rw [upd_ne (ne_of_none a.feed.d hp)]
    exact a.feed.d
  · rw [upd_ne (ne_of_none a.feed.d hp)]
    exact a.feed.nf
  · exact l _ _ a.feed.c
/-- a new list -/
theorem Ends1.newL {vs : List V} {ds : List PyData} (a : At K g H HF f) (k : Ends1 K g H HF f (.own ds) Q) (r : DRs K HF vs ds) (p : Addr) (hp : H p = none) : Q (.ref p) (upd H p (.lst vs)) := by
  have hf : HF p = none := by
    cases z : HF p with
    | none => rfl
    | some o => rw [a.sub _ _ z] at hp; cases hp
  refine k (.ref p) (upd H p (.lst vs)) HF ⟨fun b o _ e => ?_, Le.refl _, fun b x y => y, fun b o e => ?_⟩ ⟨?_, a.feed.nf, a.feed.c⟩ ⟨p, vs, rfl, hp, hf, upd_same, r⟩
  · rw [upd_ne (ne_of_none e hp)]
    exact e
  · rw [upd_ne (ne_of_none e hf)]
    exact a.sub _ _ e
  · rw [upd_ne (ne_of_none a.feed.d hp)]
    exact a.feed.d
end
def intsOp (c : Int → Int → Bool) (h : Int → Int → PyData) : Op2
  | .int i, .int j => if c i j then some (.dat (h i j)) else none
  | _, _ => none
theorem intsOp_ok {K : PySem.W.Frag} {C : Int → Int → Prop} {c : Int → Int → Bool} {h : Int → Int → Int} (hc : ∀ i j, c i j = true → C i j) : BinOk K (rI C fun i j => .int (h i j)) (intsOp c fun i j => .int (h i j)) :=
  fun g H HF f x y d e rv a t u z Q k => by
    cases d <;> cases e <;> try cases z
    rename_i i j
    unfold intsOp at z
    cases q : c i j with
    | false =>
      simp only [q] at z
      exact absurd z (by simp)
    | true =>
      simp only [q, if_true] at z
      cases z
      exact ⟨i, j, t.int, u.int, hc i j q, k.now a (.int _)⟩
theorem intsB_ok {K : PySem.W.Frag} {h : Int → Int → Bool} : BinOk K (rI0 fun i j => .bl (h i j)) (intsOp (fun _ _ => true) fun i j => .bool (h i j)) :=
  fun g H HF f x y d e rv a t u z Q k => by
    cases d <;> cases e <;> try cases z
    rename_i i j
    exact ⟨i, j, t.int, u.int, k.now a (.bl _)⟩
theorem intsI_ok {K : PySem.W.Frag} {h : Int → Int → Int} : BinOk K (rI0 fun i j => .int (h i j)) (intsOp (fun _ _ => true) fun i j => .int (h i j)) :=
  fun g H HF f x y d e rv a t u z Q k => by
    cases d <;> cases e <;> try cases z
    rename_i i j
    exact ⟨i, j, t.int, u.int, k.now a (.int _)⟩
def mulC (i j : Int) : Bool := decide (i.natAbs.log2 + j.natAbs.log2 < 1000000)
def divC (_ j : Int) : Bool := decide (0 < j) && decide (j.natAbs.log2 < 9000)
def modC (_ j : Int) : Bool := decide (0 < j)
def powC (i j : Int) : Bool := decide (0 ≤ j) && decide (j ≤ 1000000) && decide (i.natAbs < 2 ^ 64)
def oSub : Op2 := intsOp (fun _ _ => true) fun i j => .int (i - j)
def oDiv : Op2 := intsOp divC fun i j => .int (i / j)
def oMod : Op2 := intsOp modC fun i j => .int (i % j)
def oPow : Op2 := intsOp powC fun i j => .int (i ^ j.toNat)
/-- + -/
def catL : Op2
  | .list xs, .list ys => if xs.length + ys.length ≤ 100000 then some (.own (xs ++ ys)) else none
  | _, _ => none
def catT : Op2
  | .tuple xs, .tuple ys => if xs.length + ys.length ≤ 100000 then some (.dat (.tuple (xs ++ ys))) else none
  | _, _ => none
def catS : Op2
  | .str xs, .str ys => if xs.length + ys.length ≤ 100000 then some (.dat (.str (xs ++ ys))) else none
  | _, _ => none
def oAdd : Op2 := fun d e => (intsOp (fun _ _ => true) (fun i j => .int (i + j)) d e).or ((catL d e).or ((catT d e).or (catS d e)))
theorem ite_some {c : Prop} [Decidable c] {a b : RV} (h : (if c then some a else none) = some b) : c ∧ a = b := by
  by_cases q : c
  · rw [if_pos q] at h
    exact ⟨q, Option.some.inj h⟩
  · rw [if_neg q] at h
    cases h
theorem line5 {n : Nat} (h : n ≤ 100000) : n ≤ sizeLine := Nat.le_trans h (by decide)
theorem catL_ok {K : PySem.W.Frag} : BinOk K rCat catL := fun g H HF f x y d e rv a t u z Q k => by
  cases d <;> cases e <;> try cases z
  rename_i xs ys
  · obtain ⟨hl, rfl⟩ := ite_some (show (if _ then some _ else none) = some rv from z)
    obtain ⟨p, vs, rfl, hp, rp⟩ := t.lst a.sub
    obtain ⟨q, ws, rfl, hq, rq⟩ := u.lst a.sub
    exact ⟨p, q, vs, ws, rfl, rfl, hp, hq, by rw [rp.length, rq.length]; exact line5 hl, fun n hn => k.newL a (rp.append rq) n hn⟩
theorem catT_ok {K : PySem.W.Frag} : BinOk K (rCatA K) catT := fun g H HF f x y d e rv a t u z Q k => by
  cases d <;> cases e <;> try cases z
  rename_i xs ys
  · obtain ⟨hl, rfl⟩ := ite_some (show (if _ then some _ else none) = some rv from z)
    obtain ⟨p, vs, rfl, hp, rp⟩ := t.tup
    obtain ⟨q, ws, rfl, hq, rq⟩ := u.tup
    refine ⟨p, q, vs, ws, rfl, rfl, a.sub.sqT hp, a.sub.sqT hq, by rw [rp.length, rq.length]; exact line5 hl, fun e1 => ?_, fun _ e1 => ?_, fun _ _ n hn => k.newT a (rp.append rq) n hn⟩
    · subst e1
      cases rp
      exact k.now a (.tup hq rq)
    · subst e1
      cases rq
      rw [List.append_nil] at k
      exact k.now a (.tup hp rp)
theorem catS_ok {K : PySem.W.Frag} : BinOk K (fun x y H Q => ∃ i j, x = .str i ∧ y = .str j ∧ i.length + j.length ≤ sizeLine ∧ Q (.str (i ++ j)) H) catS := fun g H HF f x y d e rv a t u z Q k => by
  cases d <;> cases e <;> try cases z
  rename_i xs ys
  · obtain ⟨hl, rfl⟩ := ite_some (show (if _ then some _ else none) = some rv from z)
    exact ⟨xs, ys, t.str, u.str, line5 hl, k.now a (.str _)⟩
/-- * -/
def repL : Op2
  | .list xs, .int k => if -1000 ≤ k ∧ k ≤ 1000 ∧ xs.length ≤ 1000 then some (.own (List.replicate k.toNat xs).flatten) else none
  | _, _ => none
def repT : Op2
  | .tuple xs, .int k => if -1000 ≤ k ∧ k ≤ 1000 ∧ xs.length ≤ 1000 then some (.dat (.tuple (List.replicate k.toNat xs).flatten)) else none
  | _, _ => none
def oMul : Op2 := fun d e => (intsOp mulC (fun i j => .int (i * j)) d e).or ((repL d e).or (repT d e))
theorem repL_ok {K : PySem.W.Frag} : BinOk K rRep repL := fun g H HF f x y d e rv a t u z Q k => by
  cases d <;> cases e <;> try cases z
  rename_i xs i
  · obtain ⟨hl, rfl⟩ := ite_some (show (if _ then some _ else none) = some rv from z)
    obtain ⟨p, vs, rfl, hp, rp⟩ := t.lst a.sub
    have hz : vs.length * i.toNat ≤ 1000 * 1000 := Nat.mul_le_mul (by rw [rp.length]; exact hl.2.2) (by omega)
    exact ⟨p, i, vs, rfl, u.int, hp, by omega, by omega, Nat.le_trans hz (by decide), fun n hn => k.newL a (rp.rep i.toNat) n hn⟩
def rRepA (K : PySem.W.Frag) : R2 := fun x y H Q => rRep1 K x y H Q ∨ rRepT K x y H Q
theorem op_repA {X : Cx} : OpR X (binaryOp .Mult) (rRepA X.K) := op_rep1.or op_repT
theorem repT_ok {K : PySem.W.Frag} : BinOk K (rRepA K) repT := fun g H HF f x y d e rv a t u z Q k => by
  cases d <;> cases e <;> try cases z
  rename_i xs i
  · obtain ⟨hl, rfl⟩ := ite_some (show (if _ then some _ else none) = some rv from z)
    obtain ⟨p, vs, rfl, hp, rp⟩ := t.tup
    have hv := rp.length
    have e0 : ∀ n : Nat, (List.replicate n ([] : List PyData)).flatten = [] := fun n => by
      induction n with
      | zero => rfl
      | succ n ih => rw [List.replicate_succ, List.flatten_cons, ih]; rfl
    by_cases c : vs = [] ∨ i ≤ 1
    · refine .inl ⟨p, i, vs, rfl, u.int, a.sub.sqT hp, by omega, by omega, c, fun h => ?_, fun h1 h2 n hn => ?_⟩
      · rcases h with h | h
        · subst h
          cases rp
          rw [e0] at k
          exact k.now a (.tup hp .nil)
        · subst h
          have e1 : (List.replicate (1 : Int).toNat xs).flatten = xs := by
            show (List.replicate 1 xs).flatten = xs
            simp
          rw [e1] at k
          exact k.now a (.tup hp rp)
      · have e2 : i.toNat = 0 := by omega
        rw [e2] at k
        exact k.newT a .nil n hn
    · have hx : vs ≠ [] := fun q => c (.inl q)
      have hi : ¬ i ≤ 1 := fun q => c (.inr q)
      exact .inr ⟨p, i, vs, rfl, u.int, a.sub.sqT hp, hx, by omega, by omega, by rw [hv]; exact hl.2.2, fun n hn => k.newT a (rp.rep i.toNat) n hn⟩
end Dn
end
section
set_option maxHeartbeats 4000000
namespace Dn
open PySem PySem.Spec L2
mutual
theorem DR.dp {K : PySem.W.Frag} {H : Hp} : ∀ {v : V} {d : PyData}, DR K H v d → d.canLay0 = true → Dp K H v d
  | _, _, .non, _ => .non
  | _, _, .bl b, _ => .bl b
  | _, _, .int i, _ => .int i
  | _, _, .str x, _ => .str x
  | _, _, .lst h r, c => .lst (.inl (.inl h)) (DRs.dp r (by simpa [PyData.canLay0] using c))
  | _, _, .tup h r, c => .tup h (DRs.dp r (by simpa [PyData.canLay0] using c))
  | _, _, .dic _ _ _, c => by simp [PyData.canLay0] at c
  | _, _, .exc _ _ _ _, c => by simp [PyData.canLay0] at c
  | _, _, .dit _ _ _, c => by simp [PyData.canLay0] at c
theorem DRs.dp {K : PySem.W.Frag} {H : Hp} : ∀ {vs : List V} {ds : List PyData}, DRs K H vs ds → PyData.canLayAll0 ds = true → DpAll K H vs ds
  | _, _, .nil, _ => .nil
  | _, _, .cons h r, c => by
    have c2 := Bool.and_eq_true_iff.mp (show (PyData.canLay0 _ && PyData.canLayAll0 _) = true from c)
    exact .cons (DR.dp h c2.1) (DRs.dp r c2.2)
end
theorem Top.dp {K : PySem.W.Frag} {g : Gh} {H HF : Hp} {v : V} {d : PyData} (t : Top K g H HF v d) (l : Le HF H) (c : SeqAt.shaped d = true) : Dp K H v d := by
  have c0 := SeqAt.canLay_of_shaped c
  rcases t with h | ⟨p, vs, ds, rfl, rfl, _, h4, h5⟩
  · exact (h.mono l).dp c0
  · exact .lst (.inl (.inl h4)) ((h5.mono l).dp (by simpa [PyData.canLay0] using c0))
def eqD : Op2 := fun d e => if SeqAt.shaped d && SeqAt.shaped e then some (.dat (.bool (PyData.eqv d e))) else none
def neD : Op2 := fun d e => if SeqAt.shaped d && SeqAt.shaped e then some (.dat (.bool (!PyData.eqv d e))) else none
section
variable {K : PySem.W.Frag}
theorem eqD_ok : BinOk K (rEqD K) eqD := fun g H HF f x y d e rv a t u z Q k => by
  obtain ⟨c, rfl⟩ := ite_some z
  obtain ⟨c1, c2⟩ := Bool.and_eq_true_iff.mp c
  exact ⟨d, e, t.dp a.sub c1, u.dp a.sub c2, c1, c2, k.now a (.bl _)⟩
theorem neD_ok : BinOk K (rNeD K) neD := fun g H HF f x y d e rv a t u z Q k => by
  obtain ⟨c, rfl⟩ := ite_some z
  obtain ⟨c1, c2⟩ := Bool.and_eq_true_iff.mp c
  exact ⟨d, e, t.dp a.sub c1, u.dp a.sub c2, c1, c2, k.now a (.bl _)⟩
end
/-- texts of any signs -/
def eqS : Op2
  | .str i, .str j => some (.dat (.bool (decide (i = j))))
  | _, _ => none
def neS : Op2
  | .str i, .str j => some (.dat (.bool (!decide (i = j))))
  | _, _ => none
theorem dec_strV {i j : Str} : decide (V.str i = V.str j) = decide (i = j) := by
  rw [Bool.eq_iff_iff]
  simp
theorem eqS_ok {K : PySem.W.Frag} : BinOk K rEq eqS := fun g H HF f x y d e rv a t u z Q k => by
  cases d <;> cases e <;> try cases z
  rw [t.str, u.str]
  refine ⟨rfl, ?_⟩
  rw [dec_strV]
  exact k.now a (.bl _)
theorem neS_ok {K : PySem.W.Frag} : BinOk K rNe neS := fun g H HF f x y d e rv a t u z Q k => by
  cases d <;> cases e <;> try cases z
  rw [t.str, u.str]
  refine ⟨rfl, ?_⟩
  rw [dec_strV]
  exact k.now a (.bl _)
def oEq : Op2 := fun d e => (eqS d e).or (eqD d e)
def oNe : Op2 := fun d e => (neS d e).or (neD d e)
theorem oEq_ok {K : PySem.W.Frag} : BinOk K (fun x y H Q => rEq x y H Q ∨ rEqD K x y H Q) oEq := eqS_ok.or eqD_ok
theorem oNe_ok {K : PySem.W.Frag} : BinOk K (fun x y H Q => rNe x y H Q ∨ rNeD K x y H Q) oNe := neS_ok.or neD_ok
def cmpI (h : Int → Int → Bool) : Op2 := intsOp (fun _ _ => true) fun i j => .bool (h i j)
def oLt : Op2 := cmpI fun i j => decide (i < j)
def oLe : Op2 := cmpI fun i j => decide (i ≤ j)
def oGt : Op2 := cmpI fun i j => decide (j < i)
def oGe : Op2 := cmpI fun i j => decide (j ≤ i)
def intsOf : List PyData → Option (List Int)
  | [] => some []
  | .int i :: r => (intsOf r).map (i :: ·)
  | _ :: _ => none
def leN (ns ms : List Int) : Bool := Ob.lexAt (fun j => decide (ns.getD j 0 = ms.getD j 0)) (fun j => decide (ns.getD j 0 ≤ ms.getD j 0)) (decide (ns.length ≤ ms.length)) 0 (min ns.length ms.length)
def leT : Op2
  | .tuple xs, .tuple ys => match intsOf xs, intsOf ys with
    | some ns, some ms => some (.dat (.bool (leN ns ms)))
    | _, _ => none
  | _, _ => none
def oLeA : Op2 := fun d e => (oLe d e).or (leT d e)
theorem intsOf_some : ∀ {ds : List PyData} {ns : List Int}, intsOf ds = some ns → ds = ns.map PyData.int
  | [], ns, h => by cases h; rfl
  | d :: r, ns, h => by
    cases d <;> try cases h
    rename_i i
    cases q : intsOf r with
    | none =>
      simp only [intsOf, q] at h
      cases h
    | some ms =>
      simp only [intsOf, q] at h
      cases h
      rw [List.map_cons, ← intsOf_some q]
theorem DRs.toInts {K : PySem.W.Frag} {H : Hp} : ∀ {ns : List Int} {vs : List V}, DRs K H vs (ns.map PyData.int) → vs = ns.map V.int
  | [], _, .nil => rfl
  | n :: r, _, .cons h t => by
    cases h
    rw [List.map_cons, ← DRs.toInts t]
def flatD : PyData → Bool
  | .none => true
  | .bool _ => true
  | .int _ => true
  | .str _ => true
  | _ => false
theorem flat_v {K : PySem.W.Frag} {H : Hp} {v : V} {d : PyData} (r : DR K H v d) (h : flatD d = true) : flatV v = true := by
  cases r <;> first | rfl | cases h
theorem flat_vs {K : PySem.W.Frag} {H : Hp} : ∀ {vs : List V} {ds : List PyData}, DRs K H vs ds → ds.all flatD = true → vs.all flatV = true
  | _, _, .nil, _ => rfl
  | _, _, .cons h r, c => by
    rw [List.all_cons, Bool.and_eq_true] at c ⊢
    exact ⟨flat_v h c.1, flat_vs r c.2⟩
theorem flat_eq {K : PySem.W.Frag} {H : Hp} {v w : V} {d e : PyData} (r : DR K H v d) (s : DR K H w e) (h : flatD d = true) (h2 : flatD e = true) : eqV v w = PyData.eqv d e := by
  cases r <;> cases s <;> first
    | exact absurd h (by decide)
    | exact absurd h2 (by decide)
    | exact absurd h Bool.false_ne_true
    | exact absurd h2 Bool.false_ne_true
    | rfl
    | simp only [eqV, PyData.eqv]
theorem flat_any {K : PySem.W.Frag} {H : Hp} {w : V} {e : PyData} (s : DR K H w e) (h2 : flatD e = true) : ∀ {vs : List V} {ds : List PyData}, DRs K H vs ds → ds.all flatD = true → inV w vs = ds.any fun y => PyData.eqv y e
  | _, _, .nil, _ => rfl
  | _, _, .cons h r, c => by
    rw [List.all_cons, Bool.and_eq_true] at c
    have ih := flat_any s h2 r c.2
    unfold inV at ih ⊢
    rw [List.any_cons, List.any_cons, ih, flat_eq h s c.1 h2]
def seqOf : PyData → Option (List PyData)
  | .list xs => some xs
  | .tuple xs => some xs
  | _ => none
def oInF (neg : Bool) : Op2 := fun d e => match seqOf e with
  | some ys => if flatD d && ys.all flatD then some (.dat (.bool (if neg then !(ys.any fun y => PyData.eqv y d) else ys.any fun y => PyData.eqv y d))) else none
  | none => none
theorem Top.seq {K : PySem.W.Frag} {g : Gh} {H HF : Hp} {v : V} {e : PyData} {ds : List PyData} (t : Top K g H HF v e) (l : Le HF H) (h : seqOf e = some ds) : ∃ p vs, v = .ref p ∧ (SqL K H p vs ∨ SqT K H p vs) ∧ DRs K HF vs ds := by
  cases e <;> try cases h
  · obtain ⟨p, vs, e1, e2, e3⟩ := t.lst l
    exact ⟨p, vs, e1, .inl (.inl (.inl e2)), e3⟩
  · obtain ⟨p, vs, e1, e2, e3⟩ := t.tup
    exact ⟨p, vs, e1, .inr (l.sqT e2), e3⟩
theorem Top.flat {K : PySem.W.Frag} {g : Gh} {H HF : Hp} {v : V} {d : PyData} (t : Top K g H HF v d) (h : flatD d = true) : DR K HF v d := by
  rcases t with t | ⟨p, vs, ds, e1, e2, _⟩
  · exact t
  · subst e2
    cases h
theorem oInF_ok {K : PySem.W.Frag} {neg : Bool} : BinOk K (rIn K neg) (oInF neg) := fun g H HF f x y d e rv a t u z Q k => by
  unfold oInF at z
  cases q : seqOf e with
  | none =>
    simp only [q] at z
    cases z
  | some ys =>
    simp only [q] at z
    obtain ⟨c, rfl⟩ := ite_some z
    obtain ⟨c1, c2⟩ := Bool.and_eq_true_iff.mp c
    obtain ⟨p, vs, rfl, hp, rp⟩ := u.seq a.sub q
    have td := t.flat c1
    refine ⟨p, vs, rfl, hp, flat_v td c1, flat_vs rp c2, ?_⟩
    rw [flat_any td c1 rp c2]
    exact k.now a (.bl _)
def isNone : PyData → Bool
  | .none => true
  | _ => false
def oIsN (neg : Bool) : Op2 := fun d e => match e with
  | .none => some (.dat (.bool (if neg then !isNone d else isNone d)))
  | _ => none
theorem isN_ok {K : PySem.W.Frag} : BinOk K (fun x y H Q => y = .non ∧ Q (.bl (decide (x = .non))) H) (oIsN false) := fun g H HF f x y d e rv a t u z Q k => by
  cases e <;> try cases z
  refine ⟨u.non, ?_⟩
  have h : decide (x = V.non) = isNone d := by
    rcases t with t | ⟨p, vs, ds, e1, e2, _⟩
    · cases t <;> rfl
    · subst e1; subst e2; rfl
  rw [h]
  exact k.now a (.bl _)
theorem notN_ok {K : PySem.W.Frag} : BinOk K (fun x y H Q => y = .non ∧ Q (.bl (!decide (x = .non))) H) (oIsN true) := fun g H HF f x y d e rv a t u z Q k => by
  cases e <;> try cases z
  refine ⟨u.non, ?_⟩
  have h : (!decide (x = V.non)) = !isNone d := by
    rcases t with t | ⟨p, vs, ds, e1, e2, _⟩
    · cases t <;> rfl
    · subst e1; subst e2; rfl
  rw [h]
  exact k.now a (.bl _)
def oIsB (neg : Bool) : Op2
  | .bool a, .bool b => some (.dat (.bool (if neg then !decide (a = b) else decide (a = b))))
  | _, _ => none
def oNeg : Op1
  | .int i => some (.dat (.int (-i)))
  | _ => none
theorem oNeg_ok {K : PySem.W.Frag} : UnOk K (rU fun i => .int (-i)) oNeg := fun g H HF f x d rv a t z Q k => by
  cases d <;> try cases z
  exact ⟨_, t.int, k.now a (.int _)⟩
def oAbs : Op1
  | .int i => some (.dat (.int (if i < 0 then -i else i)))
  | _ => none
def oInt : Op1
  | .int i => some (.dat (.int i))
  | .bool b => some (.dat (.int (if b then 1 else 0)))
  | _ => none
def oLen : Op1 := fun d => (seqOf d).map fun ys => .dat (.int ys.length)
def oTuple : Op1 := fun d => (seqOf d).map fun ys => .dat (.tuple ys)
def oList : Op1 := fun d => (seqOf d).map fun ys => .own ys
def oMax : Op2 := intsOp (fun _ _ => true) fun i j => .int (if j > i then j else i)
def oMin : Op2 := intsOp (fun _ _ => true) fun i j => .int (if j < i then j else i)
def oSum : Op1 := fun d => match d with
  | .list xs => (intsOf xs).map fun ns => .dat (.int ns.sum)
  | _ => none
section
variable {X : Cx} {W : Wish} {fa fb : Ex} {id : String} {r : List V → Hp → VK → Prop} {x : Str} {p pos : Pos} {e e2 : Expr}
theorem de_call1 {o : Op1} (hc : CallR X (.builtin id) r) (hb : UnOk X.K (fun v H Q => r [v] H Q) o) (hg : Gl X x) (hm : X.mg x = none) (hv : bootBuiltins x = some (.builtin id)) (ha : DE X W e fa)
    (hn : x ≠ "__name__" := by decide) (hdb : (x == ("__debug__" : Str)) = false := by decide) (he : starEach [e] X.env = (false, eval e X.env) :: starEach [] X.env := by rfl) : DE X W (.Call (.Name x p) [e] [] pos) (cUn o fa) :=
  pe_mono (pe_callB hc hg hm hv (pa_cons ha pa_nil he) hn hdb he rfl) fun _ _ _ h => un_read (r := fun v H Q => r [v] H Q) hb h
theorem de_call2 {o : Op2} (hc : CallR X (.builtin id) r) (hb : BinOk X.K (fun v w H Q => r [v, w] H Q) o) (hg : Gl X x) (hm : X.mg x = none) (hv : bootBuiltins x = some (.builtin id)) (ha : DE X W e fa) (hd : DE X W e2 fb)
    (hn : x ≠ "__name__" := by decide) (hdb : (x == ("__debug__" : Str)) = false := by decide) (he : starEach [e, e2] X.env = (false, eval e X.env) :: starEach [e2] X.env := by rfl)
    (he2 : starEach [e2] X.env = (false, eval e2 X.env) :: starEach [] X.env := by rfl) (hpl : (backTo pos (starEach [e2] X.env)).any (·.1) = false := by rfl) : DE X W (.Call (.Name x p) [e, e2] [] pos) (cBin o fa fb) :=
  pe_mono (pe_callB hc hg hm hv (pa_cons ha (pa_cons hd pa_nil he2) he) hn hdb he hpl) fun _ _ _ h => bin_read (r := fun v w H Q => r [v, w] H Q) hb h
theorem de_callTy1 {o : Op1} {T : String} (hc : CallR X (.type T) r) (hb : UnOk X.K (fun v H Q => r [v] H Q) o) (hg : Gl X x) (hm : X.mg x = none) (hv : bootBuiltins x = some (.type T)) (ha : DE X W e fa)
    (hn : x ≠ "__name__" := by decide) (hdb : (x == ("__debug__" : Str)) = false := by decide) (he : starEach [e] X.env = (false, eval e X.env) :: starEach [] X.env := by rfl) : DE X W (.Call (.Name x p) [e] [] pos) (cUn o fa) :=
  pe_mono (pe_callTy hc hg hm hv (pa_cons ha pa_nil he) hn hdb he rfl) fun _ _ _ h => un_read (r := fun v H Q => r [v] H Q) hb h
end
section
variable {K : PySem.W.Frag}
theorem oAbs_ok : UnOk K (fun v H Q => ∃ i, [v] = [V.int i] ∧ Q (.int (if i < 0 then -i else i)) H) oAbs := fun g H HF f x d rv a t z Q k => by
  cases d <;> try cases z
  have h := t.int
  subst h
  exact ⟨_, rfl, k.now a (.int _)⟩
theorem oInt_ok : UnOk K (fun v H Q => (∃ i, [v] = [V.int i] ∧ Q (.int i) H) ∨ ∃ b, [v] = [V.bl b] ∧ Q (.int (if b then 1 else 0)) H) oInt := fun g H HF f x d rv a t z Q k => by
  cases d <;> try cases z
  · have h := t.bl
    subst h
    exact .inr ⟨_, rfl, k.now a (.int _)⟩
  · have h := t.int
    subst h
    exact .inl ⟨_, rfl, k.now a (.int _)⟩
theorem oLen_ok : UnOk K (fun v H Q => ∃ p ys, [v] = [V.ref p] ∧ (SqL K H p ys ∨ SqT K H p ys) ∧ Q (.int ys.length) H) oLen := fun g H HF f x d rv a t z Q k => by
  unfold oLen at z
  cases q : seqOf d with
  | none => rw [q] at z; cases z
  | some ys =>
    rw [q] at z
    cases z
    obtain ⟨p, vs, rfl, hp, rp⟩ := t.seq a.sub q
    refine ⟨p, vs, rfl, hp, ?_⟩
    rw [rp.length]
    exact k.now a (.int _)
theorem oTuple_ok : UnOk K (fun v H Q => ∃ p ys, [v] = [V.ref p] ∧ ((SqL K H p ys ∧ ∀ l, H l = none → Q (.ref l) (upd H l (.tup ys))) ∨ (SqT K H p ys ∧ Q (.ref p) H))) oTuple := fun g H HF f x d rv a t z Q k => by
  cases d <;> try cases z
  · obtain ⟨p, vs, rfl, hp, rp⟩ := t.lst a.sub
    exact ⟨p, vs, rfl, .inl ⟨.inl (.inl hp), fun l hl => k.newT a rp l hl⟩⟩
  · obtain ⟨p, vs, rfl, hp, rp⟩ := t.tup
    exact ⟨p, vs, rfl, .inr ⟨a.sub.sqT hp, k.now a (.tup hp rp)⟩⟩
theorem oMin_ok : BinOk K (fun v w H Q => ∃ i j, [v, w] = [V.int i, V.int j] ∧ Q (.int (if j < i then j else i)) H) oMin := fun g H HF f x y d e rv a t u z Q k => by
  cases d <;> cases e <;> try cases z
  have h := t.int
  have h2 := u.int
  subst h
  subst h2
  exact ⟨_, _, rfl, k.now a (.int _)⟩
theorem oSum_ok : UnOk K (fun v H Q => rSum K [v] H Q) oSum := fun g H HF f x d rv a t z Q k => by
  cases d <;> try cases z
  rename_i xs
  unfold oSum at z
  cases q : intsOf xs with
  | none => simp only [q] at z; cases z
  | some ns =>
    simp only [q] at z
    cases z
    have e1 := intsOf_some q
    subst e1
    obtain ⟨p, vs, rfl, hp, rp⟩ := t.lst a.sub
    have v1 := rp.toInts
    subst v1
    exact ⟨p, ns, rfl, .inl (.inl hp), k.now a (.int _)⟩
end
theorem at_get {K : PySem.W.Frag} {H : Hp} {vs : List V} {ds : List PyData} {i : Int} {d : PyData} (r : DRs K H vs ds) (h : atI ds i = some d) : ∃ v, atI vs i = some v ∧ DR K H v d := by
  unfold atI at h ⊢
  rw [r.length]
  cases q : ixN ds.length i with
  | none => rw [q] at h; cases h
  | some j =>
    rw [q] at h
    exact r.get h
def oIx : Op2
  | .list xs, .int i => (atI xs i).map .dat
  | .tuple xs, .int i => (atI xs i).map .dat
  | .str x, .int i => if x.length ≤ 100000 then (atI x.cps.toList i).map fun c => .dat (.str ⟨#[c]⟩) else none
  | _, _ => none
theorem map_dat {o : Option PyData} {rv : RV} (h : o.map RV.dat = some rv) : ∃ d, o = some d ∧ rv = .dat d := by
  cases o with
  | none => cases h
  | some d => exact ⟨d, rfl, (Option.some.inj h).symm⟩
theorem oIx_ok {K : PySem.W.Frag} : BinOk K (rIx K) oIx := fun g H HF f x y d e rv a t u z Q k => by
  cases d <;> cases e <;> try cases z
  · rename_i s i
    have h := t.str
    have h2 := u.int
    subst h
    subst h2
    unfold oIx at z
    simp only at z
    split at z
    · rename_i hl
      cases q : atI s.cps.toList i with
      | none => rw [q] at z; cases z
      | some c =>
        rw [q] at z
        cases z
        exact .inr (.inr ⟨s, i, c, rfl, rfl, line5 hl, q, k.now a (.str _)⟩)
    · cases z
  · rename_i xs i
    obtain ⟨d, q, rfl⟩ := map_dat z
    obtain ⟨p, vs, rfl, hp, rp⟩ := t.lst a.sub
    obtain ⟨v, q2, rv⟩ := at_get rp q
    exact .inl ⟨p, vs, i, v, rfl, u.int, .inl (.inl hp), q2, k.now a rv⟩
  · rename_i xs i
    obtain ⟨d, q, rfl⟩ := map_dat z
    obtain ⟨p, vs, rfl, hp, rp⟩ := t.tup
    obtain ⟨v, q2, rv⟩ := at_get rp q
    exact .inr (.inl ⟨p, vs, i, v, rfl, u.int, a.sub.sqT hp, q2, k.now a rv⟩)
theorem de_ix {X : Cx} {W : Wish} {a b : Expr} {pos : Pos} {fa fb : Ex} (ha : DE X W a fa) (hb : DE X W b fb) (hs : PlainIx b) : DE X W (.Subscript a b pos) (cBin oIx fa fb) :=
  pe_mono (pe_ix ix_seq ha hb hs) fun _ _ _ h => bin_read oIx_ok h
def cutD (ds : List PyData) (lo hi : Option Int) : List PyData := (ds.drop (HT.sIx ds.length 0 lo)).take (HT.sIx ds.length ds.length hi - HT.sIx ds.length 0 lo)
theorem cut_rel {K : PySem.W.Frag} {H : Hp} {vs : List V} {ds : List PyData} (r : DRs K H vs ds) (lo hi : Option Int) : DRs K H (cutV vs lo hi) (cutD ds lo hi) := by
  unfold cutV cutD
  rw [r.length]
  exact (r.drop _).take _
def oSl (lo hi : Option Int) : Op1
  | .list xs => some (.own (cutD xs lo hi))
  | .tuple xs => some (.dat (.tuple (cutD xs lo hi)))
  | _ => none
theorem cut_whole {ds : List PyData} {lo hi : Option Int} (h : HT.sIx ds.length 0 lo = 0 ∧ HT.sIx ds.length ds.length hi = ds.length) : cutD ds lo hi = ds := by
  unfold cutD
  rw [h.1, h.2]
  simp
def partX : Option Ex → Rho → Feed → (Option Int → Feed → R RV) → R RV
  | none, _, f, k => k none f
  | some e, ρ, f, k => pk (e ρ f) fun d f1 => match d with
    | .int i => k (some i) f1
    | _ => .no
def cSl (a : Ex) (lo hi : Option Ex) : Ex := fun ρ f => pk (a ρ f) fun x f1 => partX lo ρ f1 fun i f2 => partX hi ρ f2 fun j f3 => give (oSl i j x) f3
def partT (K : PySem.W.Frag) (mg : Str → Option Value) (W : Wish) : Option Ex → TO
  | none => tNoPart
  | some e => tPart (tD K mg W e)
section
variable {K : PySem.W.Frag} {mg : Str → Option Value} {W : Wish} {g : Gh} {σ : St} {H HF : Hp} {ρ : Rho} {f : Feed}
theorem part_read {o : Option Ex} {k : Option Int → Feed → R RV} {P : RV → Feed → Prop} {Q : Option Int → Hp → Prop} (r : Rel K g σ H HF ρ f) (h : ROk K mg g H HF (W σ) (partX o ρ f k) P)
    (c : ∀ i f1 G GF, Rel K g σ G GF ρ f1 → Step g H HF G GF → ROk K mg g G GF (W σ) (k i f1) P → Q i G) : partT K mg W o σ H Q := by
  cases o with
  | none => exact c none f H HF r (Step.refl r.sub) h
  | some e =>
    refine tD_pk r h fun d f1 v G GF r1 s t q => ?_
    cases d <;> try exact (show False from q).elim
    rename_i i
    exact ⟨i, t.int, c (some i) f1 G GF r1 s q⟩
theorem sl_read {fa : Ex} {lo hi : Option Ex} {Q : VK} (h : tD K mg W (cSl fa lo hi) σ H Q) : tSl (fun x lo hi H Q => rSlL K x lo hi H Q ∨ rSlA K x lo hi H Q) (tD K mg W fa) (partT K mg W lo) (partT K mg W hi) σ H Q := by
  obtain ⟨g, HF, ρ, f, rel, q⟩ := h
  refine tD_pk rel q fun d f1 x G GF r1 s1 t1 q1 => part_read r1 q1 fun i f2 I IF r2 s2 q2 => part_read r2 q2 fun j f3 J JF r3 s3 q3 => ?_
  obtain ⟨rv, z, k⟩ := give_end r3.feed (s1.trans r1.feed (s2.trans r2.feed s3)) q3
  have t3 := t1.step (s2.trans r2.feed s3)
  have a : At K g J JF f3 := ⟨r3.sub, r3.feed⟩
  cases d <;> try cases z
  · rename_i xs
    obtain ⟨p, vs, rfl, hp, rp⟩ := t3.lst a.sub
    exact .inl ⟨p, vs, rfl, .inl (.inl hp), fun l hl => k.newL a (cut_rel rp _ _) l hl⟩
  · rename_i xs
    obtain ⟨p, vs, rfl, hp, rp⟩ := t3.tup
    refine .inr ⟨p, vs, rfl, a.sub.sqT hp, fun hw => ?_, fun _ l hl => k.newT a (cut_rel rp _ _) l hl⟩
    rw [rp.length] at hw
    rw [cut_whole hw] at k
    exact k.now a (.tup hp rp)
end
theorem de_slice {X : Cx} {W : Wish} {e : Expr} {fa : Ex} {lo hi : Option Expr} {xl xh : Option Ex} {p2 pos : Pos} (he : DE X W e fa) (hl : PO X lo (partT X.K X.mg W xl)) (hh : PO X hi (partT X.K X.mg W xh)) :
    DE X W (.Subscript e (.Slice lo hi none p2) pos) (cSl fa xl xh) := pe_mono (pe_slice (sl_list.or sl_tupA) he hl hh) fun _ _ _ h => sl_read h
theorem do_none {X : Cx} {W : Wish} : PO X none (partT X.K X.mg W none) := po_none
theorem do_some {X : Cx} {W : Wish} {e : Expr} {x : Ex} (h : DE X W e x) : PO X (some e) (partT X.K X.mg W (some x)) := po_some h
def cArgs : List Ex → Rho → Feed → R (List PyData)
  | [], _, f => .ok [] f
  | x :: xs, ρ, f => dt (x ρ f) fun d f1 => (cArgs xs ρ f1).bind fun ds f2 => .ok (d :: ds) f2
def argT (K : PySem.W.Frag) (mg : Str → Option Value) (W : Wish) : List Ex → TA
  | [] => tNil
  | x :: xs => tCons (tD K mg W x) (argT K mg W xs)
section
variable {K : PySem.W.Frag} {mg : Str → Option Value} {W : Wish}
theorem bind_bind {α β γ : Type} (r : R α) (k : α → Feed → R β) (l : β → Feed → R γ) : (r.bind k).bind l = r.bind fun a f => (k a f).bind l := by cases r <;> rfl
theorem dt_bind {β γ : Type} (r : R RV) (k : PyData → Feed → R β) (l : β → Feed → R γ) : (dt r k).bind l = dt r fun d f => (k d f).bind l := by
  cases r with
  | no => rfl
  | ex c v f => rfl
  | ok a f =>
    unfold dt R.bind
    simp only
    cases a.data <;> rfl
theorem args_read {β : Type} {P : β → Feed → Prop} : ∀ (xs : List Ex) {k : List PyData → Feed → R β} {g : Gh} {σ : St} {H HF : Hp} {ρ : Rho} {f : Feed} {Q : List V → Hp → Prop}, Rel K g σ H HF ρ f →
    ROk K mg g H HF (W σ) ((cArgs xs ρ f).bind k) P → (∀ ds f1 vs G GF, Rel K g σ G GF ρ f1 → Step g H HF G GF → DRs K GF vs ds → ROk K mg g G GF (W σ) (k ds f1) P → Q vs G) → argT K mg W xs σ H Q
  | [], k, g, σ, H, HF, ρ, f, Q, r, h, c => c [] f [] H HF r (Step.refl r.sub) .nil h
  | x :: xs, k, g, σ, H, HF, ρ, f, Q, r, h, c => by
    have h2 : ROk K mg g H HF (W σ) (dt (x ρ f) fun d f1 => ((cArgs xs ρ f1).bind fun ds f2 => .ok (d :: ds) f2).bind k) P := by
      rw [← dt_bind]
      exact h
    refine tD_dt r h2 fun d f1 v G GF r1 s1 dr q1 => ?_
    have q2 : ROk K mg g G GF (W σ) ((cArgs xs ρ f1).bind fun ds f2 => k (d :: ds) f2) P := by
      rw [bind_bind] at q1
      exact q1
    exact args_read xs r1 q2 fun ds f2 vs I IF r2 s2 drs q3 => c (d :: ds) f2 (v :: vs) I IF r2 (s1.trans r1.feed s2) (.cons (dr.mono s2.le) drs) q3
end
def cTup (xs : List Ex) : Ex := fun ρ f => (cArgs xs ρ f).bind fun ds f1 => if ds.length ≤ 100000 then .ok (.dat (.tuple ds)) f1 else .no
def cLst (xs : List Ex) : Ex := fun ρ f => (cArgs xs ρ f).bind fun ds f1 => if ds.length ≤ 100000 then .ok (.own ds) f1 else .no
section
variable {X : Cx} {W : Wish} {es : List Expr} {xs : List Ex} {pos : Pos}
abbrev DA (X : Cx) (W : Wish) (es : List Expr) (xs : List Ex) : Prop := PA X es (argT X.K X.mg W xs)
theorem da_nil : DA X W [] [] := pa_nil
theorem da_cons {e : Expr} {x : Ex} (h : DE X W e x) (r : DA X W es xs) (hs : starEach (e :: es) X.env = (false, eval e X.env) :: starEach es X.env := by rfl) : DA X W (e :: es) (x :: xs) := pa_cons h r hs
theorem de_tup {x1} (h : DA X W es xs) : DE X W (.Tuple es x1 pos) (cTup xs) := pe_mono (pe_tup h) fun σ H Q ⟨g, HF, ρ, f, rel, q⟩ =>
  args_read xs rel q fun ds f1 vs G GF r1 s1 drs q1 => by
    by_cases c : ds.length ≤ 100000
    · rw [if_pos c] at q1
      obtain ⟨rv, z, k⟩ := give_end (x := some (.dat (.tuple ds))) r1.feed s1 q1
      cases z
      exact ⟨by rw [drs.length]; exact line5 c, fun p hp => k.newT ⟨r1.sub, r1.feed⟩ drs p hp⟩
    · rw [if_neg c] at q1
      exact (show False from q1).elim
theorem de_lst (h : DA X W es xs) : DE X W (.List es pos) (cLst xs) := pe_mono (pe_lst h) fun σ H Q ⟨g, HF, ρ, f, rel, q⟩ =>
  args_read xs rel q fun ds f1 vs G GF r1 s1 drs q1 => by
    by_cases c : ds.length ≤ 100000
    · rw [if_pos c] at q1
      obtain ⟨rv, z, k⟩ := give_end (x := some (.own ds)) r1.feed s1 q1
      cases z
      exact ⟨by rw [drs.length]; exact line5 c, fun p hp => k.newL ⟨r1.sub, r1.feed⟩ drs p hp⟩
    · rw [if_neg c] at q1
      exact (show False from q1).elim
end
end Dn
end
section
set_option maxHeartbeats 4000000
namespace Dn
open PySem PySem.Spec L2
abbrev Tx := Rho → Feed → R Bool
def tDT (K : PySem.W.Frag) (mg : Str → Option Value) (W : Wish) (t : Tx) : TT := fun σ H Q => ∃ g HF ρ f, Rel K g σ H HF ρ f ∧ ROk K mg g H HF (W σ) (t ρ f) fun b f1 => ∀ G GF, Step g H HF G GF → FeedAt g G GF f1 → Q b G
abbrev DT (X : Cx) (W : Wish) (e : Expr) (t : Tx) : Prop := PT X e (tDT X.K X.mg W t)
def cT (e : Ex) : Tx := fun ρ f => pk (e ρ f) fun d f1 => match d with
  | .bool b => .ok b f1
  | _ => .no
def tAndX (t u : Tx) : Tx := fun ρ f => (t ρ f).bind fun b f1 => if b = true then u ρ f1 else .ok false f1
def tOrX (t u : Tx) : Tx := fun ρ f => (t ρ f).bind fun b f1 => if b = true then .ok true f1 else u ρ f1
def tNotX (t : Tx) : Tx := fun ρ f => (t ρ f).bind fun b f1 => .ok (!b) f1
section
variable {K : PySem.W.Frag} {mg : Str → Option Value} {W : Wish} {g : Gh} {σ : St} {H HF : Hp} {ρ : Rho} {f : Feed} {t u : Tx} {e : Ex}
theorem tDT_bind {β : Type} {k : Bool → Feed → R β} {P : β → Feed → Prop} {Q : Bool → Hp → Prop} (r : Rel K g σ H HF ρ f) (h : ROk K mg g H HF (W σ) ((t ρ f).bind k) P)
    (c : ∀ b f1 G GF, Rel K g σ G GF ρ f1 → Step g H HF G GF → ROk K mg g G GF (W σ) (k b f1) P → Q b G) : tDT K mg W t σ H Q :=
  ⟨g, HF, ρ, f, r, h.of_bind.mono fun b f1 q G GF s hf => c b f1 G GF (r.step s hf) s (q.later hf s)⟩
/-- an expression as a test -/
theorem test_read {Q : Bool → Hp → Prop} (h : tDT K mg W (cT e) σ H Q) : tD K mg W e σ H fun x H1 => ∃ b, x = .bl b ∧ Q b H1 := by
  obtain ⟨g, HF, ρ, f, rel, q⟩ := h
  refine tD_pk rel q fun d f1 v G GF r1 s1 t1 q1 => ?_
  cases d <;> try exact (show False from q1).elim
  rename_i b
  exact ⟨b, t1.bl, (show ∀ I IF, Step g H HF I IF → FeedAt g I IF f1 → Q b I from q1) G GF s1 r1.feed⟩
end
section
variable {X : Cx} {W : Wish} {a b c : Expr} {pos : Pos} {fa fb fc : Ex} {t u : Tx} {rest : List Expr}
theorem pt_mono {e : Expr} {t t2 : TT} (h : PT X e t) (i : ∀ σ H Q, t2 σ H Q → t σ H Q) : PT X e t2 := ⟨fun pins s σ H Q I q => h.run pins s σ H Q I (i σ H Q q)⟩
theorem pw_mono {e : Expr} {t t2 : TT} (h : PW X e t) (i : ∀ σ H Q, t2 σ H Q → t σ H Q) : PW X e t2 := ⟨fun wh pins s σ H Q I q => h.run wh pins s σ H Q I (i σ H Q q)⟩
abbrev DW (X : Cx) (W : Wish) (e : Expr) (t : Tx) : Prop := PW X e (tDT X.K X.mg W t)
theorem dt_val {e : Expr} {x : Ex} (h : DE X W e x) (he : ∀ whole, isTrue e X.env whole = (do let v ← whole; standAt e.pos; holding [v] (truthy v)) := by intro _; rfl) : DT X W e (cT x) :=
  pt_mono (pt_val h he) fun _ _ _ q => test_read q
theorem dt_cmp {op : CmpOp} {r : R2} {o : Op2} (ho : OpR X (compareOp op) r) (hb : BinOk X.K r o) (ha : DE X W a fa) (hc : DE X W b fb) (hm : behindInMarks op b = false) : DT X W (.Compare a [op] [b] pos) (cT (cBin o fa fb)) :=
  pt_mono (pt_cmpR ho ha hc hm) fun _ _ _ q => bin_read hb (test_read q)
theorem dw_and1 (h : DT X W a t) : DW X W (.BoolOp .And [a] pos) t := pw_and1 h
theorem dw_and (h : DT X W a t) (h2 : DW X W (.BoolOp .And (b :: rest) pos) u) : DW X W (.BoolOp .And (a :: b :: rest) pos) (tAndX t u) := pw_mono (pw_and h h2) fun σ H Q ⟨g, HF, ρ, f, rel, q⟩ =>
  tDT_bind rel q fun c f1 G GF r1 s1 q1 => by
    cases c with
    | true =>
      refine iteT ⟨g, GF, ρ, f1, r1, ?_⟩
      exact ROk.mono (show ROk X.K X.mg g G GF (W σ) (u ρ f1) _ from q1) fun b f2 k I IF s hf => k I IF (s1.trans r1.feed s) hf
    | false => exact iteF ((show ∀ I IF, Step g H HF I IF → FeedAt g I IF f1 → Q false I from q1) G GF s1 r1.feed)
theorem dt_w (h : DW X W a t) : DT X W a t := h.pt
def cAnd (a b : Ex) : Ex := fun ρ f => pk (a ρ f) fun d f1 => match d with
  | .bool true => b ρ f1
  | .bool false => .ok (.dat (.bool false)) f1
  | _ => .no
def cOr (a b : Ex) : Ex := fun ρ f => pk (a ρ f) fun d f1 => match d with
  | .bool true => .ok (.dat (.bool true)) f1
  | .bool false => b ρ f1
  | _ => .no
def cNot : Op1
  | .bool b => some (.dat (.bool (!b)))
  | _ => none
theorem fin_later {K : PySem.W.Frag} {mg : Str → Option Value} {g : Gh} {σ : St} {H HF G GF : Hp} {f : Feed} {E : XK} {Q : VK} {r : R RV} (hf : FeedAt g G GF f) (s : Step g H HF G GF) (h : ROk K mg g G GF E r (Fin K g σ H HF Q)) : ROk K mg g G GF E r (Fin K g σ G GF Q) :=
  h.mono fun rv f1 k v I IF s2 h2 rr => k v I IF (s.trans hf s2) h2 (rr.back hf s)
theorem cNot_ok {K : PySem.W.Frag} : UnOk K (fun x H Q => ∃ c, x = .bl c ∧ Q (.bl (!c)) H) cNot := fun g H HF f x d rv a t z Q k => by
  cases d <;> try cases z
  exact ⟨_, t.bl, k.now a (.bl _)⟩
theorem de_not (h : DE X W a fa) : DE X W (.UnaryOp .Not a pos) (cUn cNot fa) := pe_mono (pe_not h) fun _ _ _ q => un_read (r := fun x H Q => ∃ c, x = .bl c ∧ Q (.bl (!c)) H) cNot_ok q
def cIf (t : Tx) (a b : Ex) : Ex := fun ρ f => (t ρ f).bind fun c f1 => if c = true then a ρ f1 else b ρ f1
theorem de_if (hc : DT X W c t) (ha : DE X W a fa) (hb : DE X W b fb) : DE X W (.IfExp c a b pos) (cIf t fa fb) := pe_mono (pe_ifExp hc ha hb) fun σ H Q ⟨g, HF, ρ, f, rel, q⟩ =>
  tDT_bind rel q fun k f1 G GF r1 s1 q1 => by
    cases k with
    | true => exact iteT ⟨g, GF, ρ, f1, r1, fin_later r1.feed s1 q1⟩
    | false => exact iteF ⟨g, GF, ρ, f1, r1, fin_later r1.feed s1 q1⟩
/-- a op b op c -/
def cChain (o o2 : Op2) (a b c : Ex) : Ex := fun ρ f => pk (a ρ f) fun x f1 => pk (b ρ f1) fun y f2 => match o x y with
  | some (.dat (.bool true)) => pk (c ρ f2) fun z f3 => give (o2 y z) f3
  | some (.dat (.bool false)) => .ok (.dat (.bool false)) f2
  | _ => .no
end
def RV.up : RV → RV
  | .lent _ ds => .own ds
  | x => x
structure RetOk (K : PySem.W.Frag) (g : Gh) (G GF : Hp) (f : Feed) (v : V) (rv : RV) : Prop where
  sub : Le GF G
  feed : FeedAt g G GF f
  ext : ∀ a o, a ≠ g.fa → g.H0 a = some o → G a = some o
  le : Le g.HF0 GF
  new : ∀ a, Mo g.H0 a → g.HF0 a = none → GF a = none
  val : RR K g [] g.H0 G GF v rv.up
def FinS (K : PySem.W.Frag) (g : Gh) (D : Ends) : Ctl → Feed → Prop
  | .nx ρ, f => ∀ σ G GF, Rel K g σ G GF ρ f → D.nx σ G
  | .bk ρ, f => ∀ σ G GF, Rel K g σ G GF ρ f → D.bk σ G
  | .ct ρ, f => ∀ σ G GF, Rel K g σ G GF ρ f → D.ct σ G
  | .rt rv, f => ∀ v G GF, RetOk K g G GF f v rv → D.rt v G
/-- what is wanted of a statement's outcome; an error does not ask where it came from -/
def XF (K : PySem.W.Frag) (mg : Str → Option Value) (g : Gh) (E : XK) {α : Type} (r : R α) (P : α → Feed → Prop) : Prop := match r with
  | .no => False
  | .ok a f => P a f
  | .ex c vs f => ∀ (C : Addr) (od : Option Addr) (G GF : Hp), mg c = some (.ref C) → RetOk K g G GF f .non (.dat .none) → Xd K G GF od vs → E (.ref C) od G
def tDS (K : PySem.W.Frag) (mg : Str → Option Value) (E : XK) (s : Sm) : TS := fun D σ H => ∃ g HF ρ f, Rel K g σ H HF ρ f ∧ XF K mg g E (s ρ f) (FinS K g D)
abbrev DS (X : Cx) (E : XK) (st : Stmt) (s : Sm) : Prop := PS X st (tDS X.K X.mg E s)
abbrev DSs (X : Cx) (E : XK) (sts : List Stmt) (s : Sm) : Prop := PSs X sts (tDS X.K X.mg E s)
section
variable {X : Cx} {E : XK}
theorem ps_mono {st : Stmt} {t t2 : TS} (h : PS X st t) (i : ∀ D σ H, t2 D σ H → t D σ H) : PS X st t2 := ⟨fun pins s σ H D I q => h.run pins s σ H D I (i D σ H q)⟩
theorem pss_mono {st : List Stmt} {t t2 : TS} (h : PSs X st t) (i : ∀ D σ H, t2 D σ H → t D σ H) : PSs X st t2 := ⟨fun pins s σ H D I q => h.run pins s σ H D I (i D σ H q)⟩
end
def sNext : Sm := fun ρ f => .ok (.nx ρ) f
def sNo : Sm := fun _ _ => .no
def andThen (c : Ctl) (f : Feed) (k : Rho → Feed → R Ctl) : R Ctl := match c with
  | .nx ρ => k ρ f
  | c => .ok c f
def sSeq (a b : Sm) : Sm := fun ρ f => (a ρ f).bind fun c f1 => andThen c f1 b
section
variable {K : PySem.W.Frag} {mg : Str → Option Value} {E : XK} {g : Gh} {σ : St} {H HF : Hp} {ρ : Rho} {f : Feed}
theorem Rel.ret (r : Rel K g σ H HF ρ f) {v : V} {rv : RV} (h : RR K g [] g.H0 H HF v rv.up) : RetOk K g H HF f v rv := ⟨r.sub, r.feed, r.ext, r.le, r.new, h⟩
theorem XF.mono {α : Type} {r : R α} {P P2 : α → Feed → Prop} (h : XF K mg g E r P) (i : ∀ a f, P a f → P2 a f) : XF K mg g E r P2 := by
  cases r with
  | no => exact h
  | ok a f => exact i a f h
  | ex c vs f => exact h
theorem XF.of_bind {α β : Type} {r : R α} {k : α → Feed → R β} {P : β → Feed → Prop} (h : XF K mg g E (r.bind k) P) : XF K mg g E r fun a f => XF K mg g E (k a f) P := by
  cases r with
  | no => exact h
  | ok a f => exact h
  | ex c vs f => exact h
/-- from a statement's wish to an expression's -/
theorem Rel.toE {α : Type} {r : R α} {P : α → Feed → Prop} (rel : Rel K g σ H HF ρ f) (h : XF K mg g E r P) : ROk K mg g H HF E r P := by
  cases r with
  | no => exact h
  | ok a f => exact h
  | ex c vs f1 => exact fun C od G GF q s hf x => h C od G GF q ((rel.step s hf).ret .non) x
theorem tD_S {β : Type} {e : Ex} {k : RV → Feed → R β} {P : β → Feed → Prop} {Q : VK} (r : Rel K g σ H HF ρ f) (h : XF K mg g E ((e ρ f).bind k) P)
    (c : ∀ rv f1 v G GF, Rel K g σ G GF ρ f1 → Step g H HF G GF → RR K g σ H G GF v rv → XF K mg g E (k rv f1) P → Q v G) : tD K mg (fun _ => E) e σ H Q :=
  ⟨g, HF, ρ, f, r, r.toE (h.of_bind.mono fun rv f1 q v G GF s hf rr => c rv f1 v G GF (r.step s hf) s rr q)⟩
theorem tD_Spk {β : Type} {e : Ex} {k : PyData → Feed → R β} {P : β → Feed → Prop} {Q : VK} (r : Rel K g σ H HF ρ f) (h : XF K mg g E (pk (e ρ f) k) P)
    (c : ∀ d f1 v G GF, Rel K g σ G GF ρ f1 → Step g H HF G GF → Top K g G GF v d → XF K mg g E (k d f1) P → Q v G) : tD K mg (fun _ => E) e σ H Q :=
  tD_S r h fun rv f1 v G GF r1 s rr q => by
    cases z : rv.peek with
    | none =>
      simp only [z] at q
      exact (show False from q).elim
    | some d =>
      simp only [z] at q
      exact c d f1 v G GF r1 s (rr.top r1.feed z) q
theorem tD_Sdt {β : Type} {e : Ex} {k : PyData → Feed → R β} {P : β → Feed → Prop} {Q : VK} (r : Rel K g σ H HF ρ f) (h : XF K mg g E (dt (e ρ f) k) P)
    (c : ∀ d f1 v G GF, Rel K g σ G GF ρ f1 → Step g H HF G GF → DR K GF v d → XF K mg g E (k d f1) P → Q v G) : tD K mg (fun _ => E) e σ H Q :=
  ⟨g, HF, ρ, f, r, r.toE ((XF.of_bind h).mono fun rv f1 q v G GF s hf rr => by
    cases z : rv.data with
    | none =>
      simp only [z] at q
      exact (show False from q).elim
    | some d =>
      simp only [z] at q
      obtain ⟨IF, s2, h2, dr⟩ := rr.frz hf s z
      exact c d f1 v G IF (r.step s2 h2) s2 dr q)⟩
theorem tDT_S {β : Type} {t : Tx} {k : Bool → Feed → R β} {P : β → Feed → Prop} {Q : Bool → Hp → Prop} (r : Rel K g σ H HF ρ f) (h : XF K mg g E ((t ρ f).bind k) P)
    (c : ∀ b f1 G GF, Rel K g σ G GF ρ f1 → Step g H HF G GF → XF K mg g E (k b f1) P → Q b G) : tDT K mg (fun _ => E) t σ H Q :=
  ⟨g, HF, ρ, f, r, r.toE (h.of_bind.mono fun b f1 q G GF s hf => c b f1 G GF (r.step s hf) s q)⟩
def slotOf : RV → Option Slot
  | .dat d => some (.dat d)
  | .own ds => some (.own ds)
  | .feed => some .feed
  | .lent _ _ => none
theorem Rel.dead (r : Rel K g σ H HF ρ f) {p : Addr} (h : H p = none) : g.H0 p = none := by
  cases z : g.H0 p with
  | none => rfl
  | some o =>
    by_cases q : p = g.fa
    · rw [q] at h
      exact absurd h r.feed.ne
    · rw [r.ext p o q z] at h
      cases h
theorem set_get {α : Type} {l : List α} {i j : Nat} {x y : α} (h : (l.set i x)[j]? = some y) : (i = j ∧ i < l.length ∧ x = y) ∨ (i ≠ j ∧ l[j]? = some y) := by
  rw [List.getElem?_set] at h
  by_cases e : i = j
  · rw [if_pos e] at h
    by_cases q : i < l.length
    · rw [if_pos q] at h
      exact .inl ⟨e, q, Option.some.inj h⟩
    · rw [if_neg q] at h
      cases h
  · rw [if_neg e] at h
    exact .inr ⟨e, h⟩
theorem Rel.put {H1 HF1 : Hp} {f1 : Feed} {v : V} {rv : RV} {s : Slot} {i : Nat} (r0 : Rel K g σ H HF ρ f) (st : Step g H HF H1 HF1) (r : Rel K g σ H1 HF1 ρ f1) (rr : RR K g σ H H1 HF1 v rv) (hs : slotOf rv = some s) : Rel K g (σ.set i (some v)) H1 HF1 (ρ.set i s) f1 where
  sub := r.sub
  feed := r.feed
  ext := r.ext
  le := r.le
  new := r.new
  len := by rw [List.length_set, List.length_set, r.len]
  slot := fun j x e => by
    rcases set_get e with ⟨e1, e2, e3⟩ | ⟨e1, e2⟩
    · subst e1
      subst e3
      have hx : (σ.set i (some v))[i]? = some (some v) := by
        rw [List.getElem?_set_self (by rw [r.len]; exact e2)]
      rw [hx]
      cases rv <;> cases hs
      · exact ⟨v, rfl, rr⟩
      · obtain ⟨p, vs, z1, z2, z3, z4, z5⟩ := rr
        subst z1
        exact ⟨p, vs, rfl, r0.dead z2, z3, z4, z5⟩
      · have q : v = .ref g.fa := rr
        subst q
        rfl
    · rw [List.getElem?_set_ne e1]
      exact r.slot j x e2
  sep := fun a b ds es ea eb ee => by
    rcases set_get ea with ⟨a1, a2, a3⟩ | ⟨a1, a2⟩
    · rcases set_get eb with ⟨b1, b2, b3⟩ | ⟨b1, b2⟩
      · exact a1.symm.trans b1
      · exfalso
        subst a1
        rw [List.getElem?_set_self (by rw [r.len]; exact a2), List.getElem?_set_ne b1] at ee
        subst a3
        cases rv <;> cases hs
        obtain ⟨p, vs, z1, z2, z3, z4, z5⟩ := rr
        obtain ⟨q, ws, y1, y2, y3, y4, y5⟩ := r0.slot b _ b2
        rw [y1, z1] at ee
        cases ee
        rw [y4] at z2
        cases z2
    · rcases set_get eb with ⟨b1, b2, b3⟩ | ⟨b1, b2⟩
      · exfalso
        subst b1
        rw [List.getElem?_set_self (by rw [r.len]; exact b2), List.getElem?_set_ne a1] at ee
        subst b3
        cases rv <;> cases hs
        obtain ⟨p, vs, z1, z2, z3, z4, z5⟩ := rr
        obtain ⟨q, ws, y1, y2, y3, y4, y5⟩ := r0.slot a _ a2
        rw [y1, z1] at ee
        cases ee
        rw [y4] at z2
        cases z2
      · rw [List.getElem?_set_ne a1, List.getElem?_set_ne b1] at ee
        exact r.sep a b ds es a2 b2 ee
  sepD := fun a b ds es ea eb ee => by
    rcases set_get ea with ⟨a1, a2, a3⟩ | ⟨a1, a2⟩
    · subst a3
      cases rv <;> cases hs
    · rcases set_get eb with ⟨b1, b2, b3⟩ | ⟨b1, b2⟩
      · subst b3
        cases rv <;> cases hs
      · rw [List.getElem?_set_ne a1, List.getElem?_set_ne b1] at ee
        exact r.sepD a b ds es a2 b2 ee
  bd := by
    have nb : ∀ (a : Nat) dss, (ρ.set i s)[a]? = some (.brd dss) → i ≠ a ∧ ρ[a]? = some (.brd dss) := fun a dss e => by
      rcases set_get e with ⟨a1, a2, a3⟩ | ⟨a1, a2⟩
      · subst a3
        cases rv <;> cases hs
      · exact ⟨a1, a2⟩
    refine ⟨fun a b x y ea eb => r.bd.1 a b x y (nb a x ea).2 (nb b y eb).2, fun a b dss ds p c qs e1 e2 e3 e4 e5 => ?_⟩
    obtain ⟨n1, e1b⟩ := nb a dss e1
    rw [List.getElem?_set_ne n1] at e3
    rcases set_get e2 with ⟨b1, b2, b3⟩ | ⟨b1, b2⟩
    · subst b1
      rw [List.getElem?_set_self (by rw [r.len]; exact b2)] at e4
      subst b3
      cases rv <;> cases hs
      obtain ⟨q, vs, z1, z2, z3, z4, z5⟩ := rr
      rw [z1] at e4
      cases e4
      have w := r0.bdWas st e1b e3 e5
      intro m
      obtain ⟨us, z⟩ := w.live m
      rw [z2] at z
      cases z
    · rw [List.getElem?_set_ne b1] at e4
      exact r.bd.2 a b dss ds p c qs e1b b2 e3 e4 e5
theorem Rel.putD {v : V} {d : PyData} {i : Nat} (r : Rel K g σ H HF ρ f) (h : DR K HF v d) : Rel K g (σ.set i (some v)) H HF (ρ.set i (.dat d)) f := r.put (rv := .dat d) (Step.refl r.sub) r h rfl
/-- the list that a slot holds is written -/
theorem Rel.write {p : Addr} {vs ws : List V} {ds es : List PyData} {i : Nat} (r : Rel K g σ H HF ρ f) (h : ρ[i]? = some (.own ds)) (hp : σ[i]? = some (some (.ref p))) (hq : HF p = none) (h4 : H p = some (.lst vs)) (h5 : DRs K HF ws es) :
    Rel K g σ (upd H p (.lst ws)) HF (ρ.set i (.own es)) f where
  sub := fun a o e => by
    rw [upd_ne (ne_of_none e hq)]
    exact r.sub a o e
  feed := ⟨by rw [upd_ne (fun z => ne_fa r.feed h4 z.symm)]; exact r.feed.d, r.feed.nf, r.feed.c⟩
  ext := fun a o z e => by
    have na : a ≠ p := fun w => by
      subst w
      obtain ⟨p2, vs2, z1, z2, _⟩ := r.slot i _ h
      rw [hp] at z1
      cases z1
      rw [z2] at e
      cases e
    rw [upd_ne na]
    exact r.ext a o z e
  le := r.le
  new := r.new
  len := by rw [List.length_set, r.len]
  slot := fun j x e => by
    rcases set_get e with ⟨e1, e2, e3⟩ | ⟨e1, e2⟩
    · subst e1
      subst e3
      obtain ⟨p2, vs2, z1, z2, z3, z4, z5⟩ := r.slot i _ h
      rw [hp] at z1
      cases z1
      exact ⟨p, ws, hp, z2, hq, upd_same, h5⟩
    · have k := r.slot j x e2
      cases x with
      | emp => trivial
      | dat d => exact k
      | own fs =>
        obtain ⟨p2, vs2, z1, z2, z3, z4, z5⟩ := k
        have np : p2 ≠ p := fun w => by
          subst w
          exact e1 (r.sep i j ds fs h e2 (hp.trans z1.symm))
        exact ⟨p2, vs2, z1, z2, z3, by rw [upd_ne np]; exact z4, z5⟩
      | feed => exact k
      | scr ns => exact k
      | dct q =>
        obtain ⟨p2, z1, z2, z3, z4⟩ := k
        have np : p2 ≠ p := fun w => by
          subst w
          exact z4.nl h4
        exact ⟨p2, z1, z2, z3, z4.mono (fun o e => by rw [upd_ne np]; exact e) (Le.refl _)⟩
      | key ks => exact k
      | brd dss =>
        obtain ⟨p2, qs, z1, z2⟩ := k
        exact ⟨p2, qs, z1, z2.upd (r.bd.2 j i dss ds p2 p qs e2 h z1 hp z2.1)⟩
  bd := r.bd.to (fun a dss e => by
    rcases set_get e with ⟨a1, a2, a3⟩ | ⟨a1, a2⟩
    · cases a3
    · exact ⟨⟨_, a2⟩, rfl⟩) (fun a es2 e => by
    rcases set_get e with ⟨a1, a2, a3⟩ | ⟨a1, a2⟩
    · subst a1
      exact ⟨⟨_, h⟩, rfl⟩
    · exact ⟨⟨_, a2⟩, rfl⟩) fun a dss p2 qs e1 e2 e3 => by
    obtain ⟨p3, q3, z1, z2⟩ := r.slot a _ e1
    rw [e2] at z1
    cases z1
    have n := r.bd.2 a i dss ds p2 p q3 e1 h e2 hp z2.1
    rw [upd_ne (fun z => n (by rw [z]; exact List.mem_cons_self))] at e3
    exact e3
  sepD := fun a b xs ys ea eb ee => by
    rcases set_get ea with ⟨a1, a2, a3⟩ | ⟨a1, a2⟩
    · cases a3
    · rcases set_get eb with ⟨b1, b2, b3⟩ | ⟨b1, b2⟩
      · cases b3
      · exact r.sepD a b xs ys a2 b2 ee
  sep := fun a b xs ys ea eb ee => by
    have fa : ∃ zs, ρ[a]? = some (.own zs) := by
      rcases set_get ea with ⟨a1, a2, a3⟩ | ⟨a1, a2⟩
      · subst a1
        exact ⟨ds, h⟩
      · exact ⟨xs, a2⟩
    have fb : ∃ zs, ρ[b]? = some (.own zs) := by
      rcases set_get eb with ⟨a1, a2, a3⟩ | ⟨a1, a2⟩
      · subst a1
        exact ⟨ds, h⟩
      · exact ⟨ys, a2⟩
    obtain ⟨z1, fa⟩ := fa
    obtain ⟨z2, fb⟩ := fb
    exact r.sep a b z1 z2 fa fb ee
end
section
variable {X : Cx} {E : XK} {st : Stmt} {rest : List Stmt} {a b : Sm} {e : Expr} {x : Ex} {pos : Pos}
theorem ds_no : DS X E st sNo := ps_mono ps_never fun D σ H ⟨g, HF, ρ, f, rel, q⟩ => q
theorem dss_nil : DSs X E [] sNext := pss_mono pss_nil fun D σ H ⟨g, HF, ρ, f, rel, q⟩ => (show FinS X.K g D (.nx ρ) f from q) σ H HF rel
theorem dss_one (h : DS X E st a) : DSs X E [st] a := pss_one h
theorem dss_cons (h : DS X E st a) (h2 : DSs X E rest b) : DSs X E (st :: rest) (sSeq a b) := pss_mono (pss_cons h h2) fun D σ H ⟨g, HF, ρ, f, rel, q⟩ =>
  ⟨g, HF, ρ, f, rel, (XF.of_bind q).mono fun c f1 k => by
    cases c with
    | nx ρ2 => exact fun σ2 G GF r2 => ⟨g, GF, ρ2, f1, r2, k⟩
    | rt v => exact k
    | bk ρ2 => exact k
    | ct ρ2 => exact k⟩
def sSet (i : Nat) (e : Ex) : Sm := fun ρ f => (e ρ f).bind fun rv f1 => match slotOf rv with
  | some s => .ok (.nx (ρ.set i s)) f1
  | none => .no
theorem set_read {K : PySem.W.Frag} {mg : Str → Option Value} {i : Nat} {D : Ends} {σ : St} {H : Hp} (h : tDS K mg E (sSet i x) D σ H) : tAsg (tD K mg (fun _ => E) x) (gName i) D σ H := by
  obtain ⟨g, HF, ρ, f, rel, q⟩ := h
  refine tD_S rel q fun rv f1 v G GF r1 s1 rr q1 => ?_
  cases z : slotOf rv with
  | none =>
    simp only [z] at q1
    exact (show False from q1).elim
  | some s =>
    simp only [z] at q1
    exact (show FinS K g D (.nx (ρ.set i s)) f1 from q1) _ G GF (rel.put s1 r1 rr z)
theorem ds_set {i : Nat} {y : Str} {pos2 : Pos} (hN : X.N.Nodup) (hi : X.N[i]? = some y) (hx : Loc X.env.scope y) (he : DE X (fun _ => E) e x) (hs : swapsWith e (some (.Name y pos2)) pos.line X.env = pure false := by rfl)
    (hf : X.fn y = true ∨ X.env.scope.names.lookup y = some .local := by first | exact .inl rfl | exact .inr rfl | assumption) : DS X E (.Assign [.Name y pos2] e pos) (sSet i x) :=
  ps_mono (ps_set hN hi hx he hs hf) fun _ _ _ q => set_read q
def sRet (e : Ex) : Sm := fun ρ f => (e ρ f).bind fun rv f1 => .ok (.rt rv) f1
theorem ds_ret (he : DE X (fun _ => E) e x) : DS X E (.Return (some e) pos) (sRet x) := ps_mono (ps_ret he) fun D σ H ⟨g, HF, ρ, f, rel, q⟩ =>
  tD_S rel q fun rv f1 v G GF r1 s1 rr q1 => (show FinS X.K g D (.rt rv) f1 from q1) v G GF (r1.ret (by
    cases rv with
    | dat d => exact rr
    | own ds =>
      obtain ⟨p, vs, e1, e2, e3⟩ := rr
      exact ⟨p, vs, e1, rel.dead e2, e3⟩
    | lent i ds =>
      obtain ⟨p, vs, e1, e0, e3⟩ := rr
      exact ⟨p, vs, e1, e0, e3⟩
    | feed => exact rr))
def sIf (t : Tx) (a b : Sm) : Sm := fun ρ f => (t ρ f).bind fun c f1 => if c = true then a ρ f1 else b ρ f1
theorem ds_if {c : Expr} {t : Tx} {as bs : List Stmt} (hc : DT X (fun _ => E) c t) (ha : DSs X E as a) (hb : DSs X E bs b) : DS X E (.If c as bs pos) (sIf t a b) := ps_mono (ps_if hc ha hb) fun D σ H ⟨g, HF, ρ, f, rel, q⟩ =>
  tDT_S rel q fun k f1 G GF r1 s1 q1 => by
    cases k with
    | true => exact iteT ⟨g, GF, ρ, f1, r1, q1⟩
    | false => exact iteF ⟨g, GF, ρ, f1, r1, q1⟩
def sDrop (e : Ex) : Sm := fun ρ f => (e ρ f).bind fun _ f1 => .ok (.nx ρ) f1
def sBreak : Sm := fun ρ f => .ok (.bk ρ) f
def sCont : Sm := fun ρ f => .ok (.ct ρ) f
inductive Tgt where
  | one (i : Nat)
  | many (l : List Nat)
def setAll : List Nat → List PyData → Rho → Rho
  | i :: l, d :: ds, ρ => setAll l ds (ρ.set i (.dat d))
  | _, _, ρ => ρ
def Tgt.put : Tgt → PyData → Rho → Option Rho
  | .one i, d, ρ => some (ρ.set i (.dat d))
  | .many l, .tuple ds, ρ => if ds.length = l.length then some (setAll l ds ρ) else none
  | .many _, _, _ => none
def gAll : List Nat → TGs
  | [] => gNil
  | i :: l => gCons (gName i) (gAll l)
def Tgt.rd (K : PySem.W.Frag) : Tgt → TG
  | .one i => gName i
  | .many l => gTup K l.length (gAll l)
theorem all_put {K : PySem.W.Frag} {g : Gh} {H HF : Hp} {f : Feed} : ∀ {l : List Nat} {vs : List V} {ds : List PyData} {σ : St} {ρ : Rho} {Q : St → Hp → Prop}, ds.length = l.length → Rel K g σ H HF ρ f → DRs K HF vs ds →
    (∀ σ2, Rel K g σ2 H HF (setAll l ds ρ) f → Q σ2 H) → gAll l vs σ H Q
  | [], _, [], σ, ρ, Q, _, r, .nil, q => ⟨rfl, q σ r⟩
  | i :: l, _, d :: ds, σ, ρ, Q, hl, r, .cons h hs, q => ⟨_, _, rfl, all_put (by simpa using hl) (r.putD h) hs q⟩
  | [], _, _ :: _, _, _, _, hl, _, _, _ => by simp at hl
  | _ :: _, _, [], _, _, _, hl, _, _, _ => by simp at hl
theorem Tgt.read {K : PySem.W.Frag} {g : Gh} {H HF : Hp} {f : Feed} {T : Tgt} {v : V} {d : PyData} {σ : St} {ρ ρ2 : Rho} {Q : St → Hp → Prop} (r : Rel K g σ H HF ρ f) (h : DR K HF v d) (e : T.put d ρ = some ρ2) (q : ∀ σ2, Rel K g σ2 H HF ρ2 f → Q σ2 H) : T.rd K v σ H Q := by
  cases T with
  | one i =>
    cases e
    exact q _ (r.putD h)
  | many l =>
    cases d <;> try cases e
    rename_i ds
    replace e : (if ds.length = l.length then some (setAll l ds ρ) else none) = some ρ2 := e
    by_cases c : ds.length = l.length
    · rw [if_pos c] at e
      cases e
      cases h with
      | tup h1 h2 => exact ⟨_, _, rfl, r.sub.sqT h1, h2.length.trans c, all_put c r h2 q⟩
    · rw [if_neg c] at e
      cases e
def sAsg (T : Tgt) (e : Ex) : Sm := fun ρ f => dt (e ρ f) fun d f1 => match T.put d ρ with
  | some ρ2 => .ok (.nx ρ2) f1
  | none => .no
theorem ds_asg {tg : Expr} {T : Tgt} (he : DE X (fun _ => E) e x) (hg : PG X tg (T.rd X.K)) (hs : swapsWithSole [tg] e pos.line X.env = pure false := by rfl) (hw : swappedStores [tg] e X.env = pure none := by rfl)
    (h1 : (assignEach [tg] X.env).map (·.2) = [assign tg X.env] := by rfl) : DS X E (.Assign [tg] e pos) (sAsg T x) := ps_mono (ps_asg he hg hs hw h1) fun D σ H ⟨g, HF, ρ, f, rel, q⟩ =>
  tD_Sdt rel q fun d f1 v G GF r1 s1 dr q1 => by
    cases z : T.put d ρ with
    | none =>
      simp only [z] at q1
      exact (show False from q1).elim
    | some ρ2 =>
      simp only [z] at q1
      exact T.read r1 dr z fun σ2 r2 => (show FinS X.K g D (.nx ρ2) f1 from q1) σ2 G GF r2
/-- a, b = x, y of plain names -/
def sPar (i j : Nat) (a b : Ex) : Sm := fun ρ f => (cArgs [a, b] ρ f).bind fun ds f1 => match ds with
  | [d, e] => .ok (.nx ((ρ.set i (.dat d)).set j (.dat e))) f1
  | _ => .no
theorem args_readS {K : PySem.W.Frag} {mg : Str → Option Value} {β : Type} {P : β → Feed → Prop} (xs : List Ex) {k : List PyData → Feed → R β} {g : Gh} {σ : St} {H HF : Hp} {ρ : Rho} {f : Feed} {Q : List V → Hp → Prop} (r : Rel K g σ H HF ρ f)
    (h : XF K mg g E ((cArgs xs ρ f).bind k) P) (c : ∀ ds f1 vs G GF, Rel K g σ G GF ρ f1 → Step g H HF G GF → DRs K GF vs ds → XF K mg g E (k ds f1) P → Q vs G) : argT K mg (fun _ => E) xs σ H Q := by
  have h2 : ROk K mg g H HF E ((cArgs xs ρ f).bind fun ds f1 => .ok (ds, f1) f1) fun p f1 => XF K mg g E (k p.1 f1) P := by
    have h3 := r.toE h.of_bind
    cases z : cArgs xs ρ f with
    | no => rw [z] at h3; exact h3
    | ok a f => rw [z] at h3; exact h3
    | ex c vs f => rw [z] at h3; exact h3
  exact args_read (W := fun _ => E) xs r h2 fun ds f1 vs G GF r1 s1 drs q => c ds f1 vs G GF r1 s1 drs q
theorem ds_par {i j : Nat} {y z : Str} {ea eb : Expr} {xa xb : Ex} {px py pt : Pos} {kt k2 pt2} (hc : X.calm = true) (hN : X.N.Nodup) (hi : X.N[i]? = some y) (hj : X.N[j]? = some z) (hij : i ≠ j)
    (hx : X.env.scope.names.lookup y = some .local) (hy : X.env.scope.names.lookup z = some .local) (ha : DA X (fun _ => E) [ea, eb] [xa, xb])
    (hw : swappedStores [.Tuple [.Name y px, .Name z py] kt pt] (.Tuple [ea, eb] k2 pt2) X.env = pure (some [y, z]))
    (hs : swapsWithSole [.Tuple [.Name y px, .Name z py] kt pt] (.Tuple [ea, eb] k2 pt2) pos.line X.env = pure false := by rfl) :
    DS X E (.Assign [.Tuple [.Name y px, .Name z py] kt pt] (.Tuple [ea, eb] k2 pt2) pos) (sPar i j xa xb) := ps_mono (ps_par hc hN hi hj hij hx hy ha hw hs) fun D σ H ⟨g, HF, ρ, f, rel, q⟩ =>
  args_readS [xa, xb] rel q fun ds f1 vs G GF r1 s1 drs q1 => by
    cases drs with
    | nil => exact (show False from q1).elim
    | cons h1 t1 =>
      cases t1 with
      | nil => exact (show False from q1).elim
      | cons h2 t2 =>
        cases t2 with
        | cons _ _ => exact (show False from q1).elim
        | nil => exact ⟨_, _, rfl, (show FinS X.K g D (.nx _) f1 from q1) _ G GF ((r1.putD h1).putD h2)⟩
def sApp (i : Nat) (e : Ex) : Sm := fun ρ f => match ρ[i]? with
  | some (.own ds) => dt (e ρ f) fun d f1 => if ds.length < 100000 then .ok (.nx (ρ.set i (.own (ds ++ [d])))) f1 else .no
  | _ => .no
theorem own_here {K : PySem.W.Frag} {g : Gh} {σ : St} {H HF : Hp} {ρ : Rho} {f : Feed} {i : Nat} {ds : List PyData} (r : Rel K g σ H HF ρ f) (h : ρ[i]? = some (.own ds)) : ∃ p vs, σ[i]? = some (some (.ref p)) ∧ HF p = none ∧ H p = some (.lst vs) ∧ DRs K HF vs ds := by
  obtain ⟨p, vs, z1, z2, z3, z4, z5⟩ := r.slot i _ h
  exact ⟨p, vs, z1, z3, z4, z5⟩
theorem app_read {K : PySem.W.Frag} {mg : Str → Option Value} {i : Nat} {D : Ends} {σ : St} {H : Hp} (h : tDS K mg E (sApp i x) D σ H) : tDrop (tBM K "list" rAppend (tVar i) (tCons (tD K mg (fun _ => E) x) tNil)) D σ H := by
  obtain ⟨g, HF, ρ, f, rel, q⟩ := h
  unfold sApp at q
  cases z : ρ[i]? with
  | none =>
    simp only [z] at q
    exact (show False from q).elim
  | some s =>
    cases s with
    | own ds =>
      simp only [z] at q
      obtain ⟨p, vs, e1, e2, e3, e4⟩ := own_here rel z
      refine ⟨.ref p, e1, .inl ⟨rfl, vs, .inl (.inl e3)⟩, tD_Sdt rel q fun d f1 v G GF r1 s1 dr q1 => ?_⟩
      obtain ⟨p2, vs2, y1, y2, y3, y4⟩ := own_here r1 z
      rw [e1] at y1
      cases y1
      by_cases c : ds.length < 100000
      · rw [if_pos c] at q1
        exact ⟨p, vs2, v, rfl, rfl, y3, by rw [y4.length]; exact Nat.lt_of_lt_of_le c (by decide), (show FinS K g D (.nx _) f1 from q1) _ _ GF (r1.write z e1 y2 y3 (y4.snoc dr))⟩
      · rw [if_neg c] at q1
        exact (show False from q1).elim
    | _ =>
      simp only [z] at q
      exact (show False from q).elim
def sExt (i : Nat) (e : Ex) : Sm := fun ρ f => match ρ[i]? with
  | some (.own ds) => dt (e ρ f) fun d f1 => match d with
    | .list es => if ds.length + es.length ≤ 100000 then .ok (.nx (ρ.set i (.own (ds ++ es)))) f1 else .no
    | _ => .no
  | _ => .no
section
variable {i : Nat} {y : Str} {o : Expr} {pos2 apos cpos : Pos}
theorem ds_app (ho : PE X o (tVar i)) (he : DE X (fun _ => E) e x)
    (hbase : attributeBase o "append" X.env (eval o X.env) = eval o X.env := by rfl)
    (hfew : ((backTo cpos (starEach [e] X.env)).all (fun x => !x.1) && (backToKw cpos (keywordEach [] X.env)).all (fun x => x.1.isSome)
      && decide ([e].length + ([] : List Keyword).length + (if ([] : List Keyword).isEmpty then 0 else 1) < 30)) = true := by rfl)
    (hline : (apos.endLine == cpos.line) = true := by rfl) (hst : starEach [e] X.env = (false, eval e X.env) :: starEach [] X.env := by rfl)
    (hs : swapsWith (.Call (.Attribute o "append" apos) [e] [] cpos) none pos.line X.env = pure false := by rfl) : DS X E (.Expr (.Call (.Attribute o "append" apos) [e] [] cpos) pos) (sApp i x) :=
  ps_mono (ps_expr (pe_bm PySem.F.plainAttrs_list PySem.F.slot_list_append PySem.F.type_list_append mt_append ho (pa_cons he pa_nil hst) hbase hfew hline hst rfl) hs) fun _ _ _ q => app_read q
end
def sPut (i : Nat) (ix e : Ex) : Sm := fun ρ f => match ρ[i]? with
  | some (.own ds) => dt (e ρ f) fun d f1 => pk (ix ρ f1) fun k f2 => match k with
    | .int k => match ixN ds.length k with
      | some j => .ok (.nx (ρ.set i (.own (ds.set j d)))) f2
      | none => .no
    | _ => .no
  | _ => .no
theorem put_read {K : PySem.W.Frag} {mg : Str → Option Value} {i : Nat} {xi : Ex} {D : Ends} {σ : St} {H : Hp} (h : tDS K mg E (sPut i xi x) D σ H) : tAsg (tD K mg (fun _ => E) x) (gSub (tVar i) (tD K mg (fun _ => E) xi) rSetL) D σ H := by
  obtain ⟨g, HF, ρ, f, rel, q⟩ := h
  unfold sPut at q
  cases z : ρ[i]? with
  | none =>
    simp only [z] at q
    exact (show False from q).elim
  | some s =>
    cases s with
    | own ds =>
      simp only [z] at q
      refine tD_Sdt rel q fun d f1 v G GF r1 s1 dr q1 => ?_
      obtain ⟨p, vs, e1, e2, e3, e4⟩ := own_here r1 z
      refine ⟨.ref p, e1, tD_Spk r1 q1 fun k f2 w I IF r2 s2 t2 q2 => ?_⟩
      obtain ⟨p2, vs2, y1, y2, y3, y4⟩ := own_here r2 z
      rw [e1] at y1
      cases y1
      cases k <;> try exact (show False from q2).elim
      rename_i k
      simp only at q2
      cases zz : ixN ds.length k with
      | none =>
        simp only [zz] at q2
        exact (show False from q2).elim
      | some j =>
        simp only [zz] at q2
        exact ⟨p, vs2, k, j, rfl, t2.int, y3, by rw [y4.length]; exact zz, (show FinS K g D (.nx _) f2 from q2) _ _ IF (r2.write z e1 y2 y3 (y4.set j (dr.mono s2.le)))⟩
    | _ =>
      simp only [z] at q
      exact (show False from q).elim
theorem ds_put {i : Nat} {o ie : Expr} {xi : Ex} {tpos : Pos} (ho : PE X o (tVar i)) (hi : DE X (fun _ => E) ie xi) (he : DE X (fun _ => E) e x)
    (ha : ∀ v, assign (.Subscript o ie tpos) X.env v = (do
      let ov ← holding [v] (eval o X.env)
      let iv ← holding [v, ov] (eval ie X.env)
      standAt tpos
      holding [v, ov, iv] (setItem ov iv v)
      release [v, ov, iv] []) := by intro _; rfl)
    (hs : swapsWithSole [.Subscript o ie tpos] e pos.line X.env = pure false := by rfl) (hw : swappedStores [.Subscript o ie tpos] e X.env = pure none := by rfl)
    (h1 : (assignEach [.Subscript o ie tpos] X.env).map (·.2) = [assign (.Subscript o ie tpos) X.env] := by rfl) : DS X E (.Assign [.Subscript o ie tpos] e pos) (sPut i xi x) :=
  ps_mono (ps_asg he (pg_sub ho hi set_list ha) hs hw h1) fun _ _ _ q => put_read q
def sFrz (i : Nat) : Sm := fun ρ f => match ρ[i]? with
  | some (.own ds) => .ok (.nx (ρ.set i (.dat (.list ds)))) f
  | _ => .ok (.nx ρ) f
end
end Dn
end
section
set_option maxHeartbeats 4000000
namespace Dn
open PySem PySem.Spec L2
section
variable {K : PySem.W.Frag} {mg : Str → Option Value} {E : XK} {g : Gh} {σ : St} {H HF : Hp} {ρ : Rho} {f : Feed}
theorem Rel.frz {i : Nat} {ds : List PyData} (r : Rel K g σ H HF ρ f) (h : ρ[i]? = some (.own ds)) : ∃ GF, Rel K g σ H GF (ρ.set i (.dat (.list ds))) f := by
  obtain ⟨p, vs, e1, e2, e3, e4, e5⟩ := r.slot i _ h
  have l : Le HF (upd HF p (.lst vs)) := fun a o q => by
    rw [upd_ne (ne_of_none q e3)]
    exact q
  have np : g.fa ≠ p := fun q => ne_fa r.feed e4 q.symm
  refine ⟨upd HF p (.lst vs), ⟨fun a o q => ?_, ⟨r.feed.d, ?_, l _ _ r.feed.c⟩, r.ext, r.le.trans l, fun a x y => ?_, ?_, fun j x e => ?_, fun a b xs ys ea eb ee => ?_, fun a b xs ys ea eb ee => ?_, r.bd.to (fun a dss e => by
    rcases set_get e with ⟨a1, a2, a3⟩ | ⟨a1, a2⟩
    · cases a3
    · exact ⟨⟨_, a2⟩, rfl⟩) (fun a es2 e => by
    rcases set_get e with ⟨a1, a2, a3⟩ | ⟨a1, a2⟩
    · cases a3
    · exact ⟨⟨_, a2⟩, rfl⟩) fun a dss p2 qs e1 e2 e3 => e3⟩⟩
  · by_cases z : a = p
    · subst z
      rw [upd_same] at q
      rw [e4]
      exact q
    · rw [upd_ne z] at q
      exact r.sub a o q
  · rw [upd_ne np]
    exact r.feed.nf
  · rw [upd_ne (fun z => x.some (by rw [z]; exact e2))]
    exact r.new a x y
  · rw [List.length_set, r.len]
  · rcases set_get e with ⟨z1, z2, z3⟩ | ⟨z1, z2⟩
    · subst z1
      subst z3
      exact ⟨.ref p, e1, .lst upd_same (e5.mono l)⟩
    · have k := r.slot j x z2
      cases x with
      | emp => trivial
      | dat d =>
        obtain ⟨v, k1, k2⟩ := k
        exact ⟨v, k1, k2.mono l⟩
      | own fs =>
        obtain ⟨q, ws, k1, k2, k3, k4, k5⟩ := k
        have nq : q ≠ p := fun w => by
          subst w
          exact z1 (r.sep i j ds fs h z2 (e1.trans k1.symm))
        exact ⟨q, ws, k1, k2, by rw [upd_ne nq]; exact k3, k4, k5.mono l⟩
      | feed => exact k
      | scr ns =>
        obtain ⟨a, k1, k2⟩ := k
        exact ⟨a, k1, l.sqL k2⟩
      | dct fs =>
        obtain ⟨q, k1, k2, k3, k4⟩ := k
        have nq : q ≠ p := fun w => by
          subst w
          exact k4.nl e4
        exact ⟨q, k1, k2, by rw [upd_ne nq]; exact k3, k4.mono (fun _ e => e) l⟩
      | key ks =>
        obtain ⟨a, k1, k2⟩ := k
        exact ⟨a, k1, l _ _ k2⟩
      | brd dss =>
        obtain ⟨q, qs, k1, k2⟩ := k
        have n := r.bd.2 j i dss ds q p qs z2 h k1 e1 k2.1
        exact ⟨q, qs, k1, k2.keep (fun a m => rfl) (fun a m => by
          rw [upd_ne (fun z => n (by rw [← z]; exact m))]
          exact (k2.2.2.1 a m).2) l⟩
  · rcases set_get ea with ⟨a1, a2, a3⟩ | ⟨a1, a2⟩
    · cases a3
    · rcases set_get eb with ⟨b1, b2, b3⟩ | ⟨b1, b2⟩
      · cases b3
      · exact r.sep a b xs ys a2 b2 ee
  · rcases set_get ea with ⟨a1, a2, a3⟩ | ⟨a1, a2⟩
    · cases a3
    · rcases set_get eb with ⟨b1, b2, b3⟩ | ⟨b1, b2⟩
      · cases b3
      · exact r.sepD a b xs ys a2 b2 ee
end
theorem dss_frz {X : Cx} {E : XK} {sts : List Stmt} {s : Sm} (i : Nat) (h : DSs X E sts s) : DSs X E sts (sSeq (sFrz i) s) := pss_mono h fun D σ H ⟨g, HF, ρ, f, rel, q⟩ => by
  unfold sSeq sFrz at q
  cases z : ρ[i]? with
  | none =>
    simp only [z] at q
    exact ⟨g, HF, ρ, f, rel, q⟩
  | some x =>
    cases x with
    | own ds =>
      simp only [z] at q
      obtain ⟨GF, r2⟩ := rel.frz z
      exact ⟨g, GF, _, f, r2, q⟩
    | _ =>
      simp only [z] at q
      exact ⟨g, HF, ρ, f, rel, q⟩
def whileN (t : Tx) (s : Sm) : Nat → Rho → Feed → R Ctl
  | 0, _, _ => .no
  | n + 1, ρ, f => (t ρ f).bind fun b f1 => if b = true then (s ρ f1).bind fun c f2 => match c with
      | .nx ρ2 => whileN t s n ρ2 f2
      | .ct ρ2 => whileN t s n ρ2 f2
      | .bk ρ2 => .ok (.nx ρ2) f2
      | .rt v => .ok (.rt v) f2
    else .ok (.nx ρ) f1
open Classical in
noncomputable def sWhile (t : Tx) (s : Sm) : Sm := fun ρ f => if h : ∃ n, whileN t s n ρ f ≠ .no then whileN t s (Classical.choose h) ρ f else .no
theorem whileN_succ {t : Tx} {s : Sm} : ∀ {n : Nat} {ρ : Rho} {f : Feed}, whileN t s n ρ f ≠ .no → whileN t s (n + 1) ρ f = whileN t s n ρ f
  | 0, ρ, f, h => absurd rfl h
  | n + 1, ρ, f, h => by
    unfold whileN at h ⊢
    cases e1 : t ρ f with
    | no => rfl
    | ex c v f => rfl
    | ok b f1 =>
      simp only [e1, R.bind] at h ⊢
      cases b with
      | false => rfl
      | true =>
        simp only [if_true] at h ⊢
        cases e2 : s ρ f1 with
        | no => rfl
        | ex c v f => rfl
        | ok c f2 =>
          simp only [e2] at h ⊢
          cases c with
          | nx ρ2 => exact whileN_succ h
          | ct ρ2 => exact whileN_succ h
          | bk ρ2 => rfl
          | rt v => rfl
theorem whileN_add {t : Tx} {s : Sm} {n : Nat} {ρ : Rho} {f : Feed} (h : whileN t s n ρ f ≠ .no) : ∀ k, whileN t s (n + k) ρ f = whileN t s n ρ f
  | 0 => rfl
  | k + 1 => by
    have ih := whileN_add h k
    rw [← Nat.add_assoc, whileN_succ (by rw [ih]; exact h), ih]
theorem sWhile_eq {t : Tx} {s : Sm} {n : Nat} {ρ : Rho} {f : Feed} {r : R Ctl} (h : whileN t s n ρ f = r) (hr : r ≠ .no) : sWhile t s ρ f = r := by
  have hx : ∃ n, whileN t s n ρ f ≠ .no := ⟨n, by rw [h]; exact hr⟩
  unfold sWhile
  rw [dif_pos hx, ← h]
  have c := Classical.choose_spec hx
  have a1 := whileN_add c n
  have a2 := whileN_add (show whileN t s n ρ f ≠ .no by rw [h]; exact hr) (Classical.choose hx)
  rw [← a1, ← a2, Nat.add_comm]
section
variable {X : Cx} {E : XK} {t : Tx} {s : Sm} {c : Expr} {body : List Stmt} {pos : Pos}
theorem while_read {K : PySem.W.Frag} {mg : Str → Option Value} {D : Ends} {σ : St} {H : Hp} (h : tDS K mg E (sWhile t s) D σ H) : tWhile (tDT K mg (fun _ => E) t) (tDS K mg E s) D σ H := by
  obtain ⟨g, HF, ρ, f, rel, q⟩ := h
  unfold sWhile at q
  by_cases hx : ∃ n, whileN t s n ρ f ≠ .no
  · rw [dif_pos hx] at q
    refine ⟨fun m σ H => ∃ HF ρ f, Rel K g σ H HF ρ f ∧ XF K mg g E (whileN t s m ρ f) (FinS K g D), ⟨_, HF, ρ, f, rel, q⟩, fun m σ H hW => ?_⟩
    obtain ⟨HF, ρ, f, rel, q⟩ := hW
    cases m with
    | zero => exact (show False from q).elim
    | succ m =>
      refine tDT_S rel q fun b f1 G GF r1 s1 q1 => ?_
      cases b with
      | false => exact iteF ((show FinS K g D (.nx ρ) f1 from q1) σ G GF r1)
      | true =>
        refine iteT ⟨fun σ H => ∃ HF ρ f, Rel K g σ H HF ρ f ∧ XF K mg g E (whileN t s m ρ f) (FinS K g D), fun σ2 H2 z => ⟨m, Nat.lt_succ_self m, z⟩, g, GF, ρ, f1, r1, (XF.of_bind q1).mono fun c f2 k => ?_⟩
        cases c with
        | nx ρ2 => exact fun σ2 I IF r2 => ⟨IF, ρ2, f2, r2, k⟩
        | ct ρ2 => exact fun σ2 I IF r2 => ⟨IF, ρ2, f2, r2, k⟩
        | bk ρ2 => exact k
        | rt v => exact k
  · rw [dif_neg hx] at q
    exact (show False from q).elim
theorem ds_while (hp : PassesOwn (model X.prog X.w) X.A X.env X.xe) (hc : DT X (fun _ => E) c t) (hb : DSs X E body s) : DS X E (.While c body [] pos) (sWhile t s) := ps_mono (ps_while hp hc hb) fun _ _ _ q => while_read q
end
structure New (I IF G GF : Hp) : Prop where
  ext : ∀ a o, I a = some o → G a = some o
  le : Le IF GF
  new : ∀ a, Mo I a → IF a = none → GF a = none
  sub : Le GF G
theorem New.step {g : Gh} {I IF G GF : Hp} (n : New I IF G GF) : Step g I IF G GF := ⟨fun a o _ e => n.ext a o e, n.le, n.new, n.sub⟩
theorem New.feed {g : Gh} {I IF G GF : Hp} {f : Feed} (n : New I IF G GF) (h : FeedAt g I IF f) : FeedAt g G GF f := ⟨n.ext _ _ h.d, n.new _ (mo h.d) h.nf, n.le _ _ h.c⟩
structure Yields (K : PySem.W.Frag) (J : It) (GF : Hp) (ds : List PyData) : Prop where
  go : ∀ i I IF, Le GF IF → Le IF I → i < ds.length → J.go i I
  yld : ∀ (i : Nat) I IF x I2, Le GF IF → Le IF I → i < ds.length → J.yld i I x I2 → ∃ IF2 d, ds[i]? = some d ∧ New I IF I2 IF2 ∧ DR K IF2 x d
  stop : ∀ i I IF, Le GF IF → Le IF I → i = ds.length → J.stop i I
abbrev Ix := Rho → Feed → R (List PyData)
def tDI (K : PySem.W.Frag) (mg : Str → Option Value) (W : Wish) (it : Ix) : TI := fun σ H Z => ∃ g HF ρ f, Rel K g σ H HF ρ f ∧ ROk K mg g H HF (W σ) (it ρ f) fun ds f1 => ∀ J G GF, Step g H HF G GF → FeedAt g G GF f1 → Yields K J GF ds → Z J G
abbrev DI (X : Cx) (W : Wish) (tg e : Expr) (it : Ix) : Prop := PI X tg e (tDI X.K X.mg W it)
theorem pi_mono {X : Cx} {tg e : Expr} {w w2 : TI} (h : PI X tg e w) (i : ∀ σ H Z, w2 σ H Z → w σ H Z) : PI X tg e w2 := ⟨fun pins s σ H Z I q => h.run pins s σ H Z I (i σ H Z q)⟩
def iSq (K : PySem.W.Frag) (tl : TE) : TI := fun σ H Z => tl σ H fun x H1 => ∃ a, x = .ref a ∧ (((∃ xs, SqL K H1 a xs) ∧ Z (Itl K a) H1) ∨ ((∃ xs, SqT K H1 a xs) ∧ Z (Itt K a) H1))
theorem pi_sq {X : Cx} {tg l : Expr} {tl : TE} (hl : PE X l tl) : PI X tg l (iSq X.K tl) := by
  refine ⟨fun pins s σ H Z I h => thn (hl.run pins s σ H _ I h) fun v s1 ⟨x, H1, I1, rx, a, ex, q⟩ => ?_⟩
  subst ex
  cases rx
  have fresh : ∀ b, b ∈ [s1.heap.objs.size] → FpOk X pins H1 b := fun b hb => by
    have e : b = s1.heap.objs.size := by simpa using hb
    rw [e]
    exact I1.fpOk (Nat.le_refl _) (I1.hok.fresh (Nat.le_refl _))
  rcases q with ⟨⟨xs, hq⟩, q⟩ | ⟨⟨xs, hq⟩, q⟩
  · obtain ⟨its, rv, p, hz⟩ := I1.list hq
    exact wpAny_pyIter_list p.isList ⟨_, [s1.heap.objs.size], _, _, H1, rfl, I1.kept (t' := s1.toks) fun b o e => Heap.get?_push_of_some _ e, turn_list a _, ⟨_, Heap.get?_push_size _ rfl, rfl, rfl⟩, fresh, q⟩
  · obtain ⟨its, rv, p, hz⟩ := I1.tuple hq
    exact wpAny_pyIter_tuple (show s1.heap.IsTuple a its.toArray from p) ⟨_, [s1.heap.objs.size], _, _, H1, rfl, I1.kept (t' := s1.toks) fun b o e => Heap.get?_push_of_some _ e, turn_tuple a _, ⟨_, Heap.get?_push_size _ rfl, rfl, rfl⟩, fresh, q⟩
def iSeq (e : Ex) : Ix := fun ρ f => dt (e ρ f) fun d f1 => match seqOf d with
  | some ds => .ok ds f1
  | none => .no
section
variable {K : PySem.W.Frag} {H : Hp} {a : Addr} {vs : List V} {ds : List PyData}
theorem New.refl {I IF : Hp} (l : Le IF I) : New I IF I IF := ⟨fun _ _ h => h, Le.refl _, fun _ _ h => h, l⟩
theorem yields_list (h : H a = some (.lst vs)) (r : DRs K H vs ds) : Yields K (Itl K a) H ds where
  go := fun i I IF l1 l2 hi => by
    have hv : i < vs.length := by
      rw [r.length]
      exact hi
    exact ⟨vs, vs[i], .inl (.inl (l2 _ _ (l1 _ _ h))), List.getElem?_eq_getElem hv⟩
  yld := fun i I IF x I2 l1 l2 hi y => by
    obtain ⟨rfl, fx⟩ := y
    obtain ⟨v, e1, e2⟩ := r.get (List.getElem?_eq_getElem hi)
    have ex := fx vs (.inl (.inl (l2 _ _ (l1 _ _ h))))
    rw [e1] at ex
    cases ex
    exact ⟨IF, ds[i], List.getElem?_eq_getElem hi, New.refl l2, e2.mono l1⟩
  stop := fun i I IF l1 l2 hi => ⟨vs, .inl (.inl (l2 _ _ (l1 _ _ h))), by rw [r.length]; omega⟩
theorem yields_tup (h : SqT K H a vs) (r : DRs K H vs ds) : Yields K (Itt K a) H ds where
  go := fun i I IF l1 l2 hi => by
    have hv : i < vs.length := by
      rw [r.length]
      exact hi
    exact ⟨vs, vs[i], (l1.trans l2).sqT h, List.getElem?_eq_getElem hv⟩
  yld := fun i I IF x I2 l1 l2 hi y => by
    obtain ⟨rfl, fx⟩ := y
    obtain ⟨v, e1, e2⟩ := r.get (List.getElem?_eq_getElem hi)
    have ex := fx vs ((l1.trans l2).sqT h)
    rw [e1] at ex
    cases ex
    exact ⟨IF, ds[i], List.getElem?_eq_getElem hi, New.refl l2, e2.mono l1⟩
  stop := fun i I IF l1 l2 hi => ⟨vs, (l1.trans l2).sqT h, by rw [r.length]; omega⟩
end
section
variable {X : Cx} {W : Wish} {tg e e2 : Expr} {x y : Ex} {pos p : Pos}
theorem di_seq (h : DE X W e x) : DI X W tg e (iSeq x) := pi_mono (pi_sq h) fun σ H Z ⟨g, HF, ρ, f, rel, q⟩ =>
  tD_dt rel q fun d f1 v G GF r1 s1 dr q1 => by
    cases d <;> try exact (show False from q1).elim
    · cases dr with
      | lst h1 h2 => exact ⟨_, rfl, .inl ⟨⟨_, .inl (.inl (r1.sub _ _ h1))⟩, q1 _ G GF s1 r1.feed (yields_list h1 h2)⟩⟩
    · cases dr with
      | tup h1 h2 => exact ⟨_, rfl, .inr ⟨⟨_, r1.sub.sqT h1⟩, q1 _ G GF s1 r1.feed (yields_tup h1 h2)⟩⟩
def rangeD (lo : Int) (n : Nat) : List PyData := (List.range n).map fun i => .int (lo + (i : Nat))
theorem rangeD_get {lo : Int} {n i : Nat} (h : i < n) : (rangeD lo n)[i]? = some (.int (lo + (i : Nat))) := by
  unfold rangeD
  rw [List.getElem?_map, List.getElem?_range h]
  rfl
theorem rangeD_length (lo : Int) (n : Nat) : (rangeD lo n).length = n := by
  unfold rangeD
  rw [List.length_map, List.length_range]
theorem yields_range {K : PySem.W.Frag} {GF : Hp} {lo : Int} {n : Nat} : Yields K (Itr lo n) GF (rangeD lo n) where
  go := fun i I IF l1 l2 hi => by
    rw [rangeD_length] at hi
    exact hi
  yld := fun i I IF x I2 l1 l2 hi y => by
    rw [rangeD_length] at hi
    obtain ⟨e1, e2⟩ := y
    subst e1
    subst e2
    exact ⟨IF, _, rangeD_get hi, New.refl l2, .int _⟩
  stop := fun i I IF l1 l2 hi => by
    rw [rangeD_length] at hi
    exact Nat.le_of_eq hi.symm
def smallI (i : Int) : Bool := decide (-(2 ^ 62) ≤ i) && decide (i < 2 ^ 62)
theorem smallI_of {i : Int} (h : smallI i = true) : -(2 ^ 62) ≤ i ∧ i < 2 ^ 62 := by
  obtain ⟨h1, h2⟩ := Bool.and_eq_true_iff.mp h
  exact ⟨of_decide_eq_true h1, of_decide_eq_true h2⟩
def iRange1 (e : Ex) : Ix := fun ρ f => pk (e ρ f) fun d f1 => match d with
  | .int n => if smallI n = true then .ok (rangeD 0 n.toNat) f1 else .no
  | _ => .no
def iRange2 (a b : Ex) : Ix := fun ρ f => pk (a ρ f) fun d f1 => pk (b ρ f1) fun d2 f2 => match d, d2 with
  | .int i, .int j => if (smallI i && smallI j) = true then .ok (rangeD i (j - i).toNat) f2 else .no
  | _, _ => .no
theorem di_range1 (hg : Gl X "range") (hm : X.mg "range" = none) (h : DE X W e x) (hs : starEach [e] X.env = (false, eval e X.env) :: starEach [] X.env := by rfl) : DI X W tg (.Call (.Name "range" p) [e] [] pos) (iRange1 x) :=
  pi_mono (pi_range1 hg hm (pa_cons h pa_nil hs) hs) fun σ H Z ⟨g, HF, ρ, f, rel, q⟩ => tD_pk rel q fun d f1 v G GF r1 s1 t1 q1 => by
    cases d <;> try exact (show False from q1).elim
    rename_i n
    simp only at q1
    by_cases c : smallI n = true
    · rw [if_pos c] at q1
      have ev := t1.int
      subst ev
      exact ⟨n, rfl, (smallI_of c).1, (smallI_of c).2, (show ∀ J G2 GF2, Step g H HF G2 GF2 → FeedAt g G2 GF2 f1 → Yields X.K J GF2 (rangeD 0 n.toNat) → Z J G2 from q1) _ G GF s1 r1.feed yields_range⟩
    · rw [if_neg c] at q1
      exact (show False from q1).elim
theorem di_range2 (hg : Gl X "range") (hm : X.mg "range" = none) (h : DE X W e x) (h2 : DE X W e2 y) (hs : starEach [e, e2] X.env = (false, eval e X.env) :: starEach [e2] X.env := by rfl)
    (hs2 : starEach [e2] X.env = (false, eval e2 X.env) :: starEach [] X.env := by rfl) (hs3 : starEach [e, e2] X.env = [(false, eval e X.env), (false, eval e2 X.env)] := by rfl) : DI X W tg (.Call (.Name "range" p) [e, e2] [] pos) (iRange2 x y) :=
  pi_mono (pi_range2 hg hm (pa_cons h (pa_cons h2 pa_nil hs2) hs) hs3 hs2) fun σ H Z ⟨g, HF, ρ, f, rel, q⟩ => tD_pk rel q fun d f1 v G GF r1 s1 t1 q1 => tD_pk r1 q1 fun d2 f2 w I IF r2 s2 t2 q2 => by
    cases d <;> cases d2 <;> try exact (show False from q2).elim
    rename_i i j
    simp only at q2
    by_cases c : (smallI i && smallI j) = true
    · rw [if_pos c] at q2
      obtain ⟨c1, c2⟩ := Bool.and_eq_true_iff.mp c
      have e1 := t1.int
      have e2 := t2.int
      subst e1
      subst e2
      exact ⟨i, j, rfl, ⟨(smallI_of c1).1, (smallI_of c1).2, (smallI_of c2).1, (smallI_of c2).2⟩, (show ∀ J G2 GF2, Step g H HF G2 GF2 → FeedAt g G2 GF2 f2 → Yields X.K J GF2 (rangeD i (j - i).toNat) → Z J G2 from q2) _ I IF (s1.trans r1.feed s2) r2.feed yields_range⟩
    · rw [if_neg c] at q2
      exact (show False from q2).elim
end
abbrev Gh.at (g : Gh) (IF : Hp) : Gh := { g with HF0 := IF }
section
variable {K : PySem.W.Frag} {mg : Str → Option Value} {E : XK} {g : Gh} {σ σ2 : St} {H IF G GF : Hp} {ρ ρ2 : Rho} {f f2 : Feed}
theorem Rel.sharp (r : Rel K g σ H IF ρ f) : Rel K (g.at IF) σ H IF ρ f := ⟨r.sub, ⟨r.feed.d, r.feed.nf, r.feed.c⟩, r.ext, Le.refl _, fun _ _ h => h, r.len, fun i s e => by
  have k := r.slot i s e
  cases s <;> exact k, r.sep, r.sepD, r.bd⟩
theorem Rel.blunt (r : Rel K g σ H IF ρ f) (b : Rel K (g.at IF) σ2 G GF ρ2 f2) : Rel K g σ2 G GF ρ2 f2 := ⟨b.sub, ⟨b.feed.d, b.feed.nf, b.feed.c⟩, b.ext, r.le.trans b.le, fun a x y => b.new a x (r.new a x y), b.len, fun i s e => by
  have k := b.slot i s e
  cases s <;> exact k, b.sep, b.sepD, b.bd⟩
theorem RetOk.blunt {v : V} {rv : RV} (r : Rel K g σ H IF ρ f) (b : RetOk K (g.at IF) G GF f2 v rv) : RetOk K g G GF f2 v rv := ⟨b.sub, ⟨b.feed.d, b.feed.nf, b.feed.c⟩, b.ext, r.le.trans b.le, fun a x y => b.new a x (r.new a x y), by
  have k := b.val
  cases rv <;> exact k⟩
theorem XF.sharp {α : Type} {x : R α} {P : α → Feed → Prop} (r : Rel K g σ H IF ρ f) (h : XF K mg g E x P) : XF K mg (g.at IF) E x P := by
  cases x with
  | no => exact h
  | ok a f => exact h
  | ex c vs f => exact fun C od G GF q b x => h C od G GF q (b.blunt r) x
end
def forN (T : Tgt) (s : Sm) : List PyData → Rho → Feed → R Ctl
  | [], ρ, f => .ok (.nx ρ) f
  | d :: ds, ρ, f => match T.put d ρ with
    | none => .no
    | some ρ1 => (s ρ1 f).bind fun c f1 => match c with
      | .nx ρ2 => forN T s ds ρ2 f1
      | .ct ρ2 => forN T s ds ρ2 f1
      | .bk ρ2 => .ok (.nx ρ2) f1
      | .rt v => .ok (.rt v) f1
def sFor (it : Ix) (T : Tgt) (s : Sm) : Sm := fun ρ f => (it ρ f).bind fun ds f1 => forN T s ds ρ f1
section
variable {X : Cx} {E : XK} {s : Sm} {it : Ix} {T : Tgt}
theorem drop_at {α : Type} {l : List α} {i : Nat} {x : α} (h : l[i]? = some x) : l.drop i = x :: l.drop (i + 1) := by
  obtain ⟨hi, e⟩ := List.getElem?_eq_some_iff.mp h
  rw [List.drop_eq_getElem_cons hi, e]
theorem for_read {K : PySem.W.Frag} {mg : Str → Option Value} {D : Ends} {σ : St} {H : Hp} (h : tDS K mg E (sFor it T s) D σ H) : tFor (tDI K mg (fun _ => E) it) (T.rd K) (tDS K mg E s) D σ H := by
  obtain ⟨g, HF, ρ, f, rel, q⟩ := h
  refine ⟨g, HF, ρ, f, rel, rel.toE ((XF.of_bind q).mono fun ds f1 k J G GF s1 hf Y => ?_)⟩
  have r1 := rel.step s1 hf
  refine ⟨fun i m σ H => i + m = ds.length ∧ ∃ IF ρ f, Rel K g σ H IF ρ f ∧ Le GF IF ∧ XF K mg g E (forN T s (ds.drop i) ρ f) (FinS K g D), ⟨ds.length, by omega, GF, ρ, f1, r1, Le.refl _, k⟩, fun i m σ H hW => ?_⟩
  obtain ⟨em, IF, ρ, f, r2, l2, q2⟩ := hW
  by_cases hi : i < ds.length
  · refine .inr ⟨Y.go i H IF l2 r2.sub hi, fun σ H => ∃ IF ρ f, Rel K g σ H IF ρ f ∧ Le GF IF ∧ XF K mg g E (forN T s (ds.drop (i + 1)) ρ f) (FinS K g D), fun σ2 H2 z => ⟨m - 1, by omega, by omega, z⟩, fun x I2 y => ?_⟩
    obtain ⟨IF2, d, e1, n, dr⟩ := Y.yld i H IF x I2 l2 r2.sub hi y
    rw [drop_at e1] at q2
    unfold forN at q2
    have r3 := r2.step (n.step (g := g)) (n.feed r2.feed)
    cases z : T.put d ρ with
    | none =>
      simp only [z] at q2
      exact (show False from q2).elim
    | some ρ1 =>
      simp only [z] at q2
      refine T.read r3 dr z fun σ2 r4 => ⟨g.at IF2, IF2, ρ1, f, r4.sharp, ((XF.of_bind q2).sharp r4).mono fun c f2 k => ?_⟩
      cases c with
      | nx ρ2 => exact fun σ3 G2 GF2 r5 => ⟨GF2, ρ2, f2, r4.blunt r5, (l2.trans n.le).trans r5.le, k⟩
      | ct ρ2 => exact fun σ3 G2 GF2 r5 => ⟨GF2, ρ2, f2, r4.blunt r5, (l2.trans n.le).trans r5.le, k⟩
      | bk ρ2 => exact fun σ3 G2 GF2 r5 => (show FinS K g D (.nx ρ2) f2 from k) σ3 G2 GF2 (r4.blunt r5)
      | rt rv => exact fun v G2 GF2 r5 => (show FinS K g D (.rt rv) f2 from k) v G2 GF2 (r5.blunt r4)
  · have e0 : ds.drop i = [] := List.drop_eq_nil_of_le (by omega)
    rw [e0] at q2
    exact .inl ⟨Y.stop i H IF l2 r2.sub (by omega), (show FinS K g D (.nx ρ) f from q2) σ H IF r2⟩
theorem ds_for {tg e : Expr} {body : List Stmt} {pos : Pos} (hp : PassesOwn (model X.prog X.w) X.A X.env X.xe) (hc : X.calm = true) (hi : DI X (fun _ => E) tg e it) (hg : PG X tg (T.rd X.K)) (hb : DSs X E body s)
    (hs : ∀ x, foldedSetIterable e X.env x = pure x := by intro _; rfl) : DS X E (.For tg e body [] pos) (sFor it T s) := ps_mono (ps_for hp hc hi hg hb hs) fun _ _ _ q => for_read q
end
def wipeR (ρ : Rho) : List Nat → Rho
  | [] => ρ
  | v :: vs => (wipeR ρ vs).set v .emp
def noEx {α : Type} : R α → R α
  | .ex _ _ _ => .no
  | r => r
def Tgt.own : Tgt → List Nat
  | .one i => [i]
  | .many l => l
def lcN (T : Tgt) (t : Tx) (e : Ex) (ρ : Rho) : List PyData → List PyData → Feed → R (List PyData)
  | [], acc, f => .ok acc f
  | d :: ds, acc, f => match T.put d ρ with
    | none => .no
    | some ρ1 => (noEx (t ρ1 f)).bind fun b f1 => if b = true then dt (noEx (e ρ1 f1)) fun y f2 => if acc.length < 100000 then lcN T t e ρ ds (acc ++ [y]) f2 else .no
      else lcN T t e ρ ds acc f1
def cLc (it : Ix) (T : Tgt) (t : Tx) (e : Ex) (vs : List Nat) : Ex := fun ρ f => (it ρ f).bind fun ds f1 => (lcN T t e (wipeR ρ vs) ds [] f1).bind fun ys f2 => .ok (.own ys) f2
def noW : Wish := fun _ _ _ _ => False
section
theorem wipe_get (σ : St) (i : Nat) : ∀ vs : List Nat, (wipe σ vs)[i]? = if i ∈ vs ∧ i < σ.length then some none else σ[i]?
  | [] => by simp [wipe]
  | v :: vs => by
    unfold wipe
    rw [List.getElem?_set, wipe_get σ i vs, wipe_length]
    by_cases e : v = i
    · subst e
      by_cases q : v < σ.length
      · simp [q]
      · have z : σ[v]? = none := List.getElem?_eq_none (by omega)
        simp [q, z]
    · have e2 : ¬ i = v := fun h => e h.symm
      simp [e, e2]
theorem wipe_set {σ : St} {vs : List Nat} {j : Nat} (h : j ∈ vs) (x : Option V) : wipe (σ.set j x) vs = wipe σ vs := by
  apply List.ext_getElem?
  intro i
  rw [wipe_get, wipe_get, List.length_set, List.getElem?_set]
  by_cases e : j = i
  · subst e
    by_cases q : j < σ.length
    · simp [q, h]
    · have z : σ[j]? = none := List.getElem?_eq_none (by omega)
      simp [q, z]
  · simp [e]
theorem wipe_wipe (σ : St) (vs : List Nat) : wipe (wipe σ vs) vs = wipe σ vs := by
  apply List.ext_getElem?
  intro i
  rw [wipe_get, wipe_get, wipe_length]
  by_cases e : i ∈ vs ∧ i < σ.length
  · simp [e]
  · simp [e]
theorem wipeR_get (ρ : Rho) (i : Nat) : ∀ vs : List Nat, (wipeR ρ vs)[i]? = if i ∈ vs ∧ i < ρ.length then some .emp else ρ[i]?
  | [] => by simp [wipeR]
  | v :: vs => by
    have hl : ∀ vs : List Nat, (wipeR ρ vs).length = ρ.length := fun vs => by
      induction vs with
      | nil => rfl
      | cons a b ih => unfold wipeR; rw [List.length_set, ih]
    unfold wipeR
    rw [List.getElem?_set, wipeR_get ρ i vs, hl]
    by_cases e : v = i
    · subst e
      by_cases q : v < ρ.length
      · simp [q]
      · have z : ρ[v]? = none := List.getElem?_eq_none (by omega)
        simp [q, z]
    · have e2 : ¬ i = v := fun h => e h.symm
      simp [e, e2]
theorem wipeR_length (ρ : Rho) : ∀ vs : List Nat, (wipeR ρ vs).length = ρ.length
  | [] => rfl
  | v :: vs => by unfold wipeR; rw [List.length_set, wipeR_length ρ vs]
variable {K : PySem.W.Frag} {mg : Str → Option Value} {E : XK} {g : Gh} {σ : St} {H HF : Hp} {ρ : Rho} {f : Feed}
theorem Rel.wiped (r : Rel K g σ H HF ρ f) (vs : List Nat) : Rel K g (wipe σ vs) H HF (wipeR ρ vs) f where
  sub := r.sub
  feed := r.feed
  ext := r.ext
  le := r.le
  new := r.new
  len := by rw [wipe_length, wipeR_length, r.len]
  slot := fun i s e => by
    rw [wipeR_get] at e
    rw [wipe_get, r.len]
    by_cases q : i ∈ vs ∧ i < ρ.length
    · rw [if_pos q] at e
      cases e
      trivial
    · rw [if_neg q] at e ⊢
      exact r.slot i s e
  sep := fun i j ds es e1 e2 e3 => by
    rw [wipeR_get] at e1 e2
    rw [wipe_get, wipe_get, r.len] at e3
    by_cases q : i ∈ vs ∧ i < ρ.length
    · rw [if_pos q] at e1
      cases e1
    · by_cases q2 : j ∈ vs ∧ j < ρ.length
      · rw [if_pos q2] at e2
        cases e2
      · rw [if_neg q] at e1 e3
        rw [if_neg q2] at e2 e3
        exact r.sep i j ds es e1 e2 e3
  sepD := fun i j ds es e1 e2 e3 => by
    rw [wipeR_get] at e1 e2
    rw [wipe_get, wipe_get, r.len] at e3
    by_cases q : i ∈ vs ∧ i < ρ.length
    · rw [if_pos q] at e1
      cases e1
    · by_cases q2 : j ∈ vs ∧ j < ρ.length
      · rw [if_pos q2] at e2
        cases e2
      · rw [if_neg q] at e1 e3
        rw [if_neg q2] at e2 e3
        exact r.sepD i j ds es e1 e2 e3
  bd := r.bd.to (fun a dss e => by
    rw [wipeR_get] at e
    rw [wipe_get, r.len]
    by_cases q : a ∈ vs ∧ a < ρ.length
    · rw [if_pos q] at e
      cases e
    · rw [if_neg q] at e ⊢
      exact ⟨⟨_, e⟩, rfl⟩) (fun a es2 e => by
    rw [wipeR_get] at e
    rw [wipe_get, r.len]
    by_cases q : a ∈ vs ∧ a < ρ.length
    · rw [if_pos q] at e
      cases e
    · rw [if_neg q] at e ⊢
      exact ⟨⟨_, e⟩, rfl⟩) fun a dss p2 qs e1 e2 e3 => e3
/-- an object that no slot holds is written -/
theorem Rel.other {D : Addr} {o : HO} (r : Rel K g σ H HF ρ f) (h0 : g.H0 D = none) (h1 : HF D = none) (h2 : D ≠ g.fa) (h3 : ∀ (i : Nat) (ds : List PyData), ρ[i]? = some (.own ds) → σ[i]? ≠ some (some (.ref D)))
    (h4 : ∀ (i : Nat) (k : Dk), ρ[i]? = some (.dct k) → σ[i]? ≠ some (some (.ref D))) (h5 : ∀ (i : Nat) dss (p : Addr) (qs : List Addr), ρ[i]? = some (.brd dss) → σ[i]? = some (some (.ref p)) → H p = some (.lst (qs.map V.ref)) → D ∉ p :: qs) : Rel K g σ (upd H D o) HF ρ f where
  sub := fun a x e => by
    rw [upd_ne (ne_of_none e h1)]
    exact r.sub a x e
  feed := ⟨by rw [upd_ne (Ne.symm h2)]; exact r.feed.d, r.feed.nf, r.feed.c⟩
  ext := fun a x q e => by
    rw [upd_ne (ne_of_none e h0)]
    exact r.ext a x q e
  le := r.le
  new := r.new
  len := r.len
  slot := fun i s e => by
    have k := r.slot i s e
    cases s with
    | emp => trivial
    | dat d => exact k
    | own ds =>
      obtain ⟨p, vs, z1, z2, z3, z4, z5⟩ := k
      have np : p ≠ D := fun w => h3 i ds e (by rw [z1, w])
      exact ⟨p, vs, z1, z2, z3, by rw [upd_ne np]; exact z4, z5⟩
    | feed => exact k
    | scr ns => exact k
    | dct q =>
      obtain ⟨p, z1, z2, z3, z4⟩ := k
      have np : p ≠ D := fun w => h4 i q e (by rw [z1, w])
      exact ⟨p, z1, z2, z3, z4.mono (fun o e => by rw [upd_ne np]; exact e) (Le.refl _)⟩
    | key ks => exact k
    | brd dss =>
      obtain ⟨p2, qs, z1, z2⟩ := k
      exact ⟨p2, qs, z1, z2.upd (h5 i dss p2 qs e z1 z2.1)⟩
  sep := r.sep
  sepD := r.sepD
  bd := r.bd.to (fun i dss e => ⟨⟨dss, e⟩, rfl⟩) (fun j ds e => ⟨⟨ds, e⟩, rfl⟩) fun a dss p2 qs e1 e2 e3 => by
    obtain ⟨p3, q3, z1, z2⟩ := r.slot a _ e1
    rw [e2] at z1
    cases z1
    have n := h5 a dss p2 q3 e1 e2 z2.1
    rw [upd_ne (fun z => n (by rw [z]; exact List.mem_cons_self))] at e3
    exact e3
theorem gAll_wipe {vs : List Nat} : ∀ {l : List Nat} {xs : List V} {σ : St} {H : Hp} {Q : St → Hp → Prop}, (∀ j ∈ l, j ∈ vs) → gAll l xs σ H Q → gAll l xs σ H fun σ2 H2 => wipe σ2 vs = wipe σ vs ∧ Q σ2 H2
  | [], xs, σ, H, Q, _, h => ⟨h.1, rfl, h.2⟩
  | j :: l, xs, σ, H, Q, hl, h => by
    obtain ⟨v, r, e, h2⟩ := h
    have k := gAll_wipe (fun a ha => hl a (List.mem_cons_of_mem _ ha)) h2
    rw [wipe_set (hl j List.mem_cons_self)] at k
    exact ⟨v, r, e, k⟩
theorem Tgt.wipe {T : Tgt} {vs : List Nat} {v : V} {σ : St} {H : Hp} {Q : St → Hp → Prop} (hl : ∀ j ∈ T.own, j ∈ vs) (h : T.rd K v σ H Q) : T.rd K v σ H fun σ2 H2 => L2.wipe σ2 vs = L2.wipe σ vs ∧ Q σ2 H2 := by
  cases T with
  | one i => exact ⟨wipe_set (hl i (by simp [Tgt.own])) _, h⟩
  | many l =>
    obtain ⟨a, xs, e1, e2, e3, e4⟩ := h
    exact ⟨a, xs, e1, e2, e3, gAll_wipe hl e4⟩
theorem noEx_ok {α : Type} {E2 : XK} {I IF : Hp} {r : R α} {P : α → Feed → Prop} (h : ROk K mg g H HF E (noEx r) P) : ROk K mg g I IF E2 r P := by
  cases r with
  | no => exact h
  | ok a f => exact h
  | ex c vs f => exact (show False from h).elim
theorem lc_read {it : Ix} {T : Tgt} {t : Tx} {e : Ex} {vs : List Nat} {W : Wish} {Q : VK} (hl : ∀ j ∈ T.own, j ∈ vs) (h : tD K mg W (cLc it T t e vs) σ H Q) : tLc (tDI K mg W it) (T.rd K) (tDT K mg noW t) (tD K mg noW e) vs σ H Q := by
  obtain ⟨g, HF, ρ, f, rel, q⟩ := h
  refine ⟨g, HF, ρ, f, rel, q.of_bind.mono fun ds f1 k J G GF s1 hf Y => fun D hD => ?_⟩
  have r1 := rel.step s1 hf
  have w1 := r1.wiped vs
  have hD0 : H D = none := s1.dead hf hD
  have hG0 : g.H0 D = none := rel.dead hD0
  have hfa : D ≠ g.fa := fun z => by
    rw [z] at hD
    exact hf.ne hD
  have h3 : ∀ (i : Nat) (ds : List PyData), (wipeR ρ vs)[i]? = some (.own ds) → (L2.wipe σ vs)[i]? ≠ some (some (.ref D)) := fun i es e1 e2 => by
    obtain ⟨p, us, z1, z2, z3, z4, z5⟩ := w1.slot i _ e1
    rw [z1] at e2
    cases e2
    rw [z4] at hD
    cases hD
  have h3D : ∀ (i : Nat) (k : Dk), (wipeR ρ vs)[i]? = some (.dct k) → (L2.wipe σ vs)[i]? ≠ some (some (.ref D)) := fun i es e1 e2 => by
    obtain ⟨p, z1, z2, z3, z4⟩ := w1.slot i _ e1
    rw [z1] at e2
    cases e2
    exact z4.some hD
  have h3B : ∀ {G' GF' : Hp}, Step g H HF G' GF' → ∀ (i : Nat) dss (p : Addr) (qs : List Addr), (wipeR ρ vs)[i]? = some (.brd dss) → (L2.wipe σ vs)[i]? = some (some (.ref p)) → G' p = some (.lst (qs.map V.ref)) → D ∉ p :: qs := fun {G' GF'} st i dss p qs e1 e2 e3 m => by
    obtain ⟨us, z⟩ := ((rel.wiped vs).bdWas st e1 e2 e3).live m
    rw [hD0] at z
    cases z
  have hGD : GF D = none := by
    cases z : GF D with
    | none => rfl
    | some o =>
      rw [s1.sub _ _ z] at hD
      cases hD
  have stU : ∀ {I IF : Hp} {o : HO}, Step g H HF I IF → IF D = none → Step g H HF (upd I D o) IF := fun {I IF o} s z => ⟨fun a x y e => by
      rw [upd_ne (ne_of_none e hD0)]
      exact s.ext a x y e, s.le, s.new, fun a x e => by
      rw [upd_ne (ne_of_none e z)]
      exact s.sub a x e⟩
  refine ⟨fun i m I => i + m = ds.length ∧ ∃ IF f us acc, Rel K g (L2.wipe σ vs) I IF (wipeR ρ vs) f ∧ Le GF IF ∧ Step g H HF I IF ∧ IF D = none ∧ I D = some (.lst us) ∧ DRs K IF us acc ∧
    ROk K mg g H HF (W σ) ((lcN T t e (wipeR ρ vs) (ds.drop i) acc f).bind fun ys f2 => .ok (.own ys) f2) (Fin K g σ H HF Q), ⟨ds.length, by omega, GF, f1, [], [], w1.other hG0 hGD hfa h3 h3D (h3B s1), Le.refl _, stU s1 hGD, hGD, upd_same, .nil, by rw [List.drop_zero]; exact k⟩, fun i m I hW => ?_⟩
  · obtain ⟨em, IF, f, us, acc, r2, l2, s2, d1, d2, d3, q2⟩ := hW
    by_cases hi : i < ds.length
    · refine .inr ⟨Y.go i I IF l2 r2.sub hi, fun I => ∃ IF f us acc, Rel K g (L2.wipe σ vs) I IF (wipeR ρ vs) f ∧ Le GF IF ∧ Step g H HF I IF ∧ IF D = none ∧ I D = some (.lst us) ∧ DRs K IF us acc ∧
        ROk K mg g H HF (W σ) ((lcN T t e (wipeR ρ vs) (ds.drop (i + 1)) acc f).bind fun ys f2 => .ok (.own ys) f2) (Fin K g σ H HF Q), fun H2 z => ⟨m - 1, by omega, by omega, z⟩, fun x I2 y => ?_⟩
      obtain ⟨IF2, d, e1, n, dr⟩ := Y.yld i I IF x I2 l2 r2.sub hi y
      rw [drop_at e1] at q2
      unfold lcN at q2
      have n1 : Step g I IF I2 IF2 := n.step
      have nf := n.feed r2.feed
      have r3 := r2.step n1 nf
      have aD : ∀ {J2 JF2 f3}, Step g I2 IF2 J2 JF2 → FeedAt g J2 JF2 f3 → JF2 D = none ∧ J2 D = some (.lst us) ∧ DRs K JF2 us acc := fun {J2 JF2 f3} st hf3 => by
        have z1 := n.ext D _ d2
        have z2 : IF2 D = none := n.new D (mo d2) d1
        exact ⟨st.new D (mo z1) z2, st.ext D _ hfa z1, (d3.mono n.le).mono st.le⟩
      cases z : T.put d (wipeR ρ vs) with
      | none =>
        simp only [z] at q2
        exact (show False from q2).elim
      | some ρ1 =>
        simp only [z] at q2
        have ww := wipe_wipe σ vs
        refine (fun hh => by have h9 := T.wipe hl hh; rw [ww] at h9; exact h9) (T.read r3 dr z fun σ2 r4 => ?_)
        rw [bind_bind] at q2
        refine ⟨g, IF2, ρ1, f, r4, noEx_ok ((ROk.of_bind q2).mono fun b f2 k2 J2 JF2 s3 hf3 => ?_)⟩
        have s4 := s2.trans r2.feed (n1.trans nf s3)
        obtain ⟨a1, a2, a3⟩ := aD s3 hf3
        cases b with
        | false =>
          simp only [Bool.false_eq_true, if_false] at k2 ⊢
          exact ⟨JF2, f2, us, acc, (r3.step s3 hf3), (l2.trans n.le).trans s3.le, s4, a1, a2, a3, k2⟩
        | true =>
          simp only [if_true] at k2 ⊢
          rw [dt_bind] at k2
          refine ⟨g, JF2, ρ1, f2, r4.step s3 hf3, noEx_ok ((ROk.of_bind k2).mono fun rv f3 k4 v L LF s5 hf5 rr => ?_)⟩
          cases zz : rv.data with
          | none =>
            simp only [zz] at k4
            exact (show False from k4).elim
          | some y =>
            simp only [zz] at k4
            obtain ⟨MF, s6, hf6, dy⟩ := rr.frz hf5 s5 zz
            have s36 := s3.trans hf3 s6
            obtain ⟨b1, b2, b3⟩ := aD s36 hf6
            by_cases c : acc.length < 100000
            · rw [if_pos c] at k4
              have r7 := (r3.step s36 hf6).other (o := .lst (us ++ [v])) hG0 b1 hfa h3 h3D (h3B (s4.trans hf3 s6))
              refine ⟨us, b2, by rw [b3.length]; exact Nat.lt_of_lt_of_le c (by decide), MF, f3, us ++ [v], acc ++ [y], r7, (l2.trans n.le).trans s36.le, stU (s4.trans hf3 s6) b1, b1, upd_same, b3.snoc dy, k4⟩
            · rw [if_neg c] at k4
              exact (show False from k4).elim
    · have e0 : ds.drop i = [] := List.drop_eq_nil_of_le (by omega)
      rw [e0] at q2
      refine .inl ⟨Y.stop i I IF l2 r2.sub (by omega), ?_⟩
      exact (show Fin K g σ H HF Q (.own acc) f from q2) (.ref D) I IF s2 r2.feed ⟨D, us, rfl, hD0, d1, d2, d3⟩
end
end Dn
end
section
set_option maxHeartbeats 4000000
namespace Dn
open PySem PySem.Spec L2
def cYes : Tx := fun _ f => .ok true f
section
variable {X : Cx} {W : Wish} {E : XK} {tg iter elt : Expr} {ifs : List Expr} {scope : Scope} {own : List (Str × Nat)} {pos spos : Pos} {it : Ix} {T : Tgt} {t : Tx} {e : Ex}
theorem ts_nil : PTs X [] (tDT X.K X.mg noW cYes) := ⟨fun pins s σ H Q I ⟨g, HF, ρ, f, rel, q⟩ => pts_nil.run pins s σ H Q I ((show ∀ G GF, Step g H HF G GF → FeedAt g G GF f → Q true G from q) H HF (Step.refl rel.sub) rel.feed)⟩
theorem ts_one {c : Expr} (h : DT X noW c t) : PTs X [c] (tDT X.K X.mg noW t) := pts_one h
theorem de_lc (hc : X.calm = true) (hN : X.N.Nodup) (hi : DI X W tg iter it) (ok : BlkOk X.N X.env.scope scope own) (hl : ∀ j ∈ T.own, j ∈ own.map (·.2))
    (hg : ∀ (s : Shared) (H : Hp) (C : Addr) (cl : List (Str × Addr)) (fp : List Addr), PG (X.blk s H scope (compEnvC scope cl C X.env) fp) tg (T.rd X.K))
    (ht : ∀ (s : Shared) (H : Hp) (C : Addr) (cl : List (Str × Addr)) (fp : List Addr), PTs (X.blk s H scope (compEnvC scope cl C X.env) fp) ifs (tDT X.K X.mg noW t))
    (he : ∀ (s : Shared) (H : Hp) (C : Addr) (cl : List (Str × Addr)) (fp : List Addr), DE (X.blk s H scope (compEnvC scope cl C X.env) fp) noW elt e)
    (hs : ∀ x, foldedSetIterable iter X.env x = pure x := by intro _; rfl) : DE X W (.ListComp elt [⟨tg, iter, ifs, 0⟩] scope pos) (cLc it T t e (own.map (·.2))) :=
  pe_mono (pe_lc hc hN hi ok hg ht he hs) fun _ _ _ q => lc_read hl q
theorem ds_setLc {i : Nat} {y : Str} {py : Pos} (hc : X.calm = true) (hN : X.N.Nodup) (hy : X.N[i]? = some y) (hyl : X.env.scope.names.lookup y = some .local)
    (hsw : swapsWith (.ListComp elt [⟨tg, iter, ifs, 0⟩] scope pos) (some (.Name y py)) spos.line X.env = pure true) (hi : DI X (fun _ => E) tg iter it) (ok : BlkOk X.N X.env.scope scope own) (hl : ∀ j ∈ T.own, j ∈ own.map (·.2))
    (hg : ∀ (s : Shared) (H : Hp) (C : Addr) (cl : List (Str × Addr)) (fp : List Addr), PG (X.blk s H scope (compEnvC scope cl C X.env) fp) tg (T.rd X.K))
    (ht : ∀ (s : Shared) (H : Hp) (C : Addr) (cl : List (Str × Addr)) (fp : List Addr), PTs (X.blk s H scope (compEnvC scope cl C X.env) fp) ifs (tDT X.K X.mg noW t))
    (he : ∀ (s : Shared) (H : Hp) (C : Addr) (cl : List (Str × Addr)) (fp : List Addr), DE (X.blk s H scope (compEnvC scope cl C X.env) fp) noW elt e)
    (hs : ∀ x, foldedSetIterable iter X.env x = pure x := by intro _; rfl) : DS X E (.Assign [.Name y py] (.ListComp elt [⟨tg, iter, ifs, 0⟩] scope pos) spos) (sSet i (cLc it T t e (own.map (·.2)))) :=
  ps_mono (ps_setLc hc hN hy hyl hsw hi ok hg ht he hs) fun _ _ _ q => lc_read hl (set_read q)
end
structure FnG (P : Program) (w : World) (K : PySem.W.Frag) (mg : Str → Option Value) (base : Heap) (CX : CXT) (k : Nat) (f : Addr) (fd : FuncData) (ps : List Str) (sp : Sp) : Prop where
  size : ∀ vs H Q E, sp vs H Q E → vs.length = ps.length
  go : ∀ (A : Around) (outer : List Env) (s : Shared) (H : Hp) (args : Args) (us : List Value) (vs : List V) (Q : VK) (E : XK), A.guards = some [] → Room k A →
    Env0 P w K mg base A outer s H → BindsTo s fd args (ps.zip us) → Vals vs us → sp vs H Q E → codeAny (model P w) A (.call (.ref f) args) (CR CX outer P w H s Q E) s
theorem FnG.mono {P : Program} {w : World} {K : PySem.W.Frag} {mg : Str → Option Value} {base : Heap} {CX : CXT} {j k : Nat} {f : Addr} {fd : FuncData} {ps : List Str} {sp : Sp} (F : FnG P w K mg base CX j f fd ps sp) (h : j ≤ k) : FnG P w K mg base CX k f fd ps sp :=
  ⟨F.size, fun A o s H a us vs Q E g r => F.go A o s H a us vs Q E g (r.mono h)⟩
section
variable {P : Program} {w : World} {K : PySem.W.Frag} {mg : Str → Option Value} {base : Heap}
/-- a def's body keeps its promise; nothing that is raised leaves it -/
theorem fnG_ok {x qual : Str} {st : Stmt} {f : Addr} {fd : FuncData} {N ps : List Str} {k : Nat} {sp : Sp} (F : Fun K x qual st f fd) (S : FnScope N ps (defScope st)) (size : ∀ vs H Q E, sp vs H Q E → vs.length = ps.length)
    (body : ∀ (cdv : Value) (A : Around) (outer : List Env) (s : Shared) (H : Hp) (vs : List V) (Q : VK) (E : XK), A.guards = some [] → Room k (A.deeper (PyProof.Rows.envOfC qual (defScope st) s.heap.objs.size f cdv)) → sp vs H Q E →
      ∃ t, PSs (cxOf CX0 P w K mg base N qual (defScope st) f cdv A outer s H E).nox (defBody st) t ∧ t { nx := fun _ G => Q .non G, rt := Q } (L2.start N vs) H) : FnG P w K mg base CX0 (k + 1) f fd ps sp := by
  obtain ⟨oc, od, kV, doc, pm, an, cdv, ct, osl, rfl, lk, hcd⟩ := F.ex
  refine ⟨size, fun A outer s H args us vs Q E gd room e0 bnd rel hsp => ?_⟩
  have KX : K.In s.heap := e0.mod.kin.keeps (fun b o e => (e0.bs b o e).1)
  have par : ∀ y ∈ ps.zip us, (defScope st).names.lookup y.1 = some .local ∨
      ((defScope st).names.lookup y.1 = some .cell ∧ ((cellsFrom (s.heap.objs.size + 1) (defScope st).names []).lookup y.1).isSome = true) := by
    intro y hy
    rcases S.par y.1 (List.of_mem_zip hy).1 with q | q
    · exact .inl q
    · exact .inr ⟨q, PySem.W.cellsFrom_some _ _ _ (.inl q)⟩
  refine codeAny_call_function room.depth (KX _ _ lk) rfl S.co S.gen rfl
    (PySem.W.codeRec_of KX hcd) (bnd _ _ _ _ ?_)
  refine wpAny_newFunctionEnv_cells S.kind par ?_
  intro env he s1 x
  subst he
  have lim : s.heap.NoLimit := e0.mod.nolimit.keeps (fun b o e => (e0.bs b o e).1)
  refine ⟨lim.keeps x.toInCall.keep, codeAny_func ?_⟩
  obtain ⟨t, ht, hq⟩ := body cdv A outer s H vs Q E gd (room.deeper _) hsp
  have J0 := inv_start (CX := CX0) (E := E) S room.hd e0 (size _ _ _ _ hsp) rel x
  refine wpAny_mono (ht.nox.run [] s1 (L2.start N vs) H _ J0 hq) ?_ (fun e s' hs => hs)
  intro fl s' hs
  cases fl with
  | next =>
    obtain ⟨σ2, H2, J, q⟩ := hs
    exact ⟨.non, H2, J.os, J.bare, J.base, J.hok, rfl, q⟩
  | ret u =>
    obtain ⟨v, σ2, H2, J, rv, q⟩ := hs
    exact ⟨v, H2, J.os, J.bare, J.base, J.hok, rv, q⟩
  | brk =>
    obtain ⟨_, _, _, q⟩ := hs
    exact q.elim
  | cont =>
    obtain ⟨_, _, _, q⟩ := hs
    exact q.elim
end
section
variable {X : Cx} {CX : CXT} {k : Nat} {f : Addr} {fd : FuncData} {ps : List Str} {sp : Sp} {E : XK} {x : Str} {p pos : Pos} {e : Expr} {es : List Expr} {t : TA}
theorem goG {pins : List (Addr × Obj)} {σ : St} {H : Hp} {s : Shared} {Q : VK} {us : List Value} {vs : List V} (F : FnG X.prog X.w X.K X.mg X.base CX k f fd ps sp) (gd : X.A.guards = some []) (hr : Room k X.A) (hb : Binds X.K fd ps []) (hx : Passes CX X E)
    (I : Inv X pins σ H s) (r : Vals vs us) (h : sp vs H Q E) : wpAny (model X.prog X.w) X.A (call (.ref f) us) (EP X pins σ Q) X.xe s := by
  have hl : (us ++ []).length = ps.length := by
    rw [List.append_nil, ← r.length]
    exact F.size _ _ _ _ h
  have hb2 := hb s us I.kIn hl
  rw [List.append_nil] at hb2
  refine wpAny_call (codeAny_mono (F.go X.A X.stack s H ⟨us, []⟩ us vs Q E gd hr I.env0 hb2 r h) ?_)
  intro res s' hq
  cases res with
  | error e => exact hx pins σ H s e s' I hq
  | ok fl =>
    cases fl with
    | ret u => exact I.after hq
    | next => exact hq.elim
    | brk => exact hq.elim
    | cont => exact hq.elim
theorem callG (F : FnG X.prog X.w X.K X.mg X.base CX k f fd ps sp) (gd : X.A.guards = some []) (hr : Room k X.A) (hg : Gl X x) (hm : X.mg x = some (.ref f)) (hk : PySem.W.keepIn X.K (.ref f) = true) (hb : Binds X.K fd ps []) (hx : Passes CX X E)
    (ha : PA X (e :: es) t) (hdb : (x == ("__debug__" : Str)) = false := by decide) (he : starEach (e :: es) X.env = (false, eval e X.env) :: starEach es X.env := by rfl) (hpl : (backTo pos (starEach es X.env)).any (·.1) = false := by rfl) :
    PE X (.Call (.Name x p) (e :: es) [] pos) (fun σ H Q => t σ H fun vs G => sp vs G Q E) := by
  refine ⟨fun pins s σ H Q I h => wpAny_Call_Name_kw (ld_glob I hg hm ?_ hdb)⟩
  refine PySem.W.callWith_K (h₀ := X.base) I.ok.mod.kin hk (thn (ha.run pos pins s σ H _ I h) ?_) he hpl
  rintro us s1 ⟨vs, H1, I1, r, q⟩
  exact ⟨I1.kIn, goG F gd hr hb hx I1 r q⟩
end
abbrev Fn := List RV → Feed → R RV
def fnSlot : RV → Slot
  | .dat d => .dat d
  | .feed => .feed
  | _ => .emp
/-- what the def's body does, from the arguments -/
def dEnd : R Ctl → R RV := fun r => noEx (r.bind fun c f1 => match c with
  | .nx _ => .ok (.dat .none) f1
  | .rt v => .ok v.up f1
  | _ => .no)
def dBody (n : Nat) (s : Sm) : Fn := fun as f => dEnd (s (as.map fnSlot ++ List.replicate (n - as.length) .emp) f)
theorem dBody_noex (n : Nat) (s : Sm) : ∀ as f c v f2, dBody n s as f ≠ .ex c v f2 := fun as f c v f2 h => by
  unfold dBody dEnd noEx at h
  split at h
  · cases h
  · rename_i h2
    exact h2 c v f2 h
def ARel (K : PySem.W.Frag) (g : Gh) (HF : Hp) (v : V) : RV → Prop
  | .dat d => DR K HF v d
  | .feed => v = .ref g.fa
  | _ => False
theorem ARel.mono {K : PySem.W.Frag} {g : Gh} {HF GF : Hp} (l : Le HF GF) {v : V} {a : RV} (h : ARel K g HF v a) : ARel K g GF v a := by
  cases a with
  | dat d => exact DR.mono l h
  | feed => exact h
  | own ds => exact h
  | lent i ds => exact h
theorem ARels.mono {K : PySem.W.Frag} {g : Gh} {HF GF : Hp} (l : Le HF GF) : ∀ {vs : List V} {as : List RV}, Paired (ARel K g HF) vs as → Paired (ARel K g GF) vs as
  | _, _, .nil => .nil
  | _, _, .cons h r => .cons (h.mono l) (ARels.mono l r)
structure Given (K : PySem.W.Frag) (g : Gh) (H HF : Hp) (vs : List V) (as : List RV) (f : Feed) : Prop where
  sub : Le HF H
  feed : FeedAt g H HF f
  rel : Paired (ARel K g HF) vs as
def Back (K : PySem.W.Frag) (g : Gh) (H HF : Hp) (Q : VK) (rv : RV) (f : Feed) : Prop := ∀ v G GF, Step g H HF G GF → FeedAt g G GF f → RR K g [] H G GF v rv → Q v G
/-- the promise: m the number of parameters -/
def spD (K : PySem.W.Frag) (mg : Str → Option Value) (m : Nat) (F : Fn) : Sp := fun vs H Q E => vs.length = m ∧ ∃ g HF as f, Given K g H HF vs as f ∧ ROk K mg g H HF E (F as f) (Back K g H HF Q)
theorem rep_get {α : Type} {n i : Nat} {x y : α} (h : (List.replicate n x)[i]? = some y) : y = x := by
  rw [List.getElem?_replicate] at h
  by_cases c : i < n
  · rw [if_pos c] at h
    exact (Option.some.inj h).symm
  · rw [if_neg c] at h
    cases h
theorem start_rel {K : PySem.W.Frag} {g : Gh} {H HF : Hp} {vs : List V} {as : List RV} {f : Feed} (N : List Str) (h : Given K g H HF vs as f) : Rel K { g with H0 := H, HF0 := HF } (L2.start N vs) H HF (as.map fnSlot ++ List.replicate (N.length - as.length) .emp) f := by
  have hl : vs.length = as.length := h.rel.length
  have no : ∀ (i : Nat) (ds : List PyData), (as.map fnSlot ++ List.replicate (N.length - as.length) .emp)[i]? ≠ some (.own ds) := fun i ds e => by
    rw [List.getElem?_append] at e
    by_cases c : i < (as.map fnSlot).length
    · rw [if_pos c, List.getElem?_map] at e
      cases z : as[i]? with
      | none => rw [z] at e; cases e
      | some a =>
        rw [z] at e
        cases a <;> cases e
    · rw [if_neg c] at e
      cases rep_get e
  have noD : ∀ (i : Nat) (ds : Dk), (as.map fnSlot ++ List.replicate (N.length - as.length) .emp)[i]? ≠ some (.dct ds) := fun i ds e => by
    rw [List.getElem?_append] at e
    by_cases c : i < (as.map fnSlot).length
    · rw [if_pos c, List.getElem?_map] at e
      cases z : as[i]? with
      | none => rw [z] at e; cases e
      | some a =>
        rw [z] at e
        cases a <;> cases e
    · rw [if_neg c] at e
      cases rep_get e
  have noB : ∀ (i : Nat) (dss : List (List PyData)), (as.map fnSlot ++ List.replicate (N.length - as.length) .emp)[i]? ≠ some (.brd dss) := fun i dss e => by
    rw [List.getElem?_append] at e
    by_cases c : i < (as.map fnSlot).length
    · rw [if_pos c, List.getElem?_map] at e
      cases z : as[i]? with
      | none => rw [z] at e; cases e
      | some a =>
        rw [z] at e
        cases a <;> cases e
    · rw [if_neg c] at e
      cases rep_get e
  refine ⟨h.sub, ⟨h.feed.d, h.feed.nf, h.feed.c⟩, fun _ _ _ e => e, Le.refl _, fun _ _ e => e, ?_, fun i s e => ?_, fun i j ds es e1 => absurd e1 (no i ds), fun i j ds es e1 => absurd e1 (noD i ds), BdSep.noBd noB⟩
  · unfold L2.start
    simp [hl]
  · rw [List.getElem?_append] at e
    unfold L2.start
    rw [List.getElem?_append]
    by_cases c : i < (as.map fnSlot).length
    · have c2 : i < (vs.map some).length := by
        rw [List.length_map] at c ⊢
        omega
      rw [if_pos c] at e
      rw [if_pos c2]
      rw [List.getElem?_map] at e ⊢
      cases z : as[i]? with
      | none => rw [z] at e; cases e
      | some a =>
        rw [z] at e
        have hv : i < vs.length := by
          rw [List.length_map] at c2
          exact c2
        have zv : vs[i]? = some vs[i] := List.getElem?_eq_getElem hv
        obtain ⟨b, zb, hb⟩ := paired_get h.rel zv
        rw [z] at zb
        cases zb
        rw [zv]
        cases a with
        | dat d =>
          cases e
          exact ⟨_, rfl, hb⟩
        | feed =>
          cases e
          exact congrArg (fun q => some (some q)) hb
        | own ds => exact hb.elim
        | lent i ds => exact hb.elim
    · rw [if_neg c] at e
      rw [rep_get e]
      trivial
section
variable {P : Program} {w : World} {K : PySem.W.Frag} {mg : Str → Option Value} {base : Heap}
theorem fnD {x qual : Str} {st : Stmt} {f : Addr} {fd : FuncData} {N ps : List Str} {k : Nat} {s : Sm} (F : Fun K x qual st f fd) (S : FnScope N ps (defScope st))
    (body : ∀ (X : Cx), X.prog = P → X.w = w → X.K = K → X.mg = mg → X.base = base → X.N = N → (∃ (cdv : Value) (A : Around) (outer : List Env) (s : Shared) (H : Hp) (E : XK), A.guards = some [] ∧ Room k (A.deeper (PyProof.Rows.envOfC qual (defScope st) s.heap.objs.size f cdv)) ∧
      X = (cxOf CX0 P w K mg base N qual (defScope st) f cdv A outer s H E).nox) → DSs X (fun _ _ _ => False) (defBody st) s) : FnG P w K mg base CX0 (k + 1) f fd ps (spD K mg ps.length (dBody N.length s)) := by
  refine fnG_ok F S (fun vs H Q E h => h.1) fun cdv A outer s0 H vs Q E gd room h => ?_
  obtain ⟨hl, g, HF, as, fe, hG, hR⟩ := h
  refine ⟨_, body _ rfl rfl rfl rfl rfl rfl ⟨cdv, A, outer, s0, H, E, gd, room, rfl⟩, { g with H0 := H, HF0 := HF }, HF, _, fe, start_rel N hG, ?_⟩
  unfold dBody dEnd at hR
  cases z : s (as.map fnSlot ++ List.replicate (N.length - as.length) .emp) fe with
  | no =>
    rw [z] at hR
    exact (show False from hR).elim
  | ex c v f =>
    rw [z] at hR
    exact (show False from hR).elim
  | ok c f1 =>
    rw [z] at hR
    cases c with
    | nx ρ => exact fun σ G GF r => (show Back K g H HF Q (.dat .none) f1 from hR) .non G GF ⟨r.ext, r.le, r.new, r.sub⟩ ⟨r.feed.d, r.feed.nf, r.feed.c⟩ .non
    | rt rv => exact fun v G GF r => (show Back K g H HF Q rv.up f1 from hR) v G GF ⟨r.ext, r.le, r.new, r.sub⟩ ⟨r.feed.d, r.feed.nf, r.feed.c⟩ (by
        have q := r.val
        cases hq : rv.up with
        | dat d =>
          rw [hq] at q
          exact q
        | own ds =>
          rw [hq] at q
          exact q
        | lent i ds => cases rv <;> cases hq
        | feed =>
          rw [hq] at q
          exact q)
    | bk ρ => exact (show False from hR).elim
    | ct ρ => exact (show False from hR).elim
end
def toArg : RV → Option RV
  | .dat d => some (.dat d)
  | .own ds => some (.dat (.list ds))
  | .feed => some .feed
  | .lent _ _ => none
def cVals : List Ex → Rho → Feed → R (List RV)
  | [], _, f => .ok [] f
  | x :: xs, ρ, f => (x ρ f).bind fun rv f1 => match toArg rv with
    | some a => (cVals xs ρ f1).bind fun as f2 => .ok (a :: as) f2
    | none => .no
def cCall (F : Fn) (xs : List Ex) : Ex := fun ρ f => (cVals xs ρ f).bind fun as f1 => F as f1
section
variable {K : PySem.W.Frag} {mg : Str → Option Value} {W : Wish}
theorem vals_read {β : Type} {P : β → Feed → Prop} : ∀ (xs : List Ex) {k : List RV → Feed → R β} {g : Gh} {σ : St} {H HF : Hp} {ρ : Rho} {f : Feed} {Q : List V → Hp → Prop}, Rel K g σ H HF ρ f →
    ROk K mg g H HF (W σ) ((cVals xs ρ f).bind k) P → (∀ as f1 vs G GF, vs.length = xs.length → Rel K g σ G GF ρ f1 → Step g H HF G GF → Paired (ARel K g GF) vs as → ROk K mg g G GF (W σ) (k as f1) P → Q vs G) → argT K mg W xs σ H Q
  | [], k, g, σ, H, HF, ρ, f, Q, r, h, c => c [] f [] H HF rfl r (Step.refl r.sub) .nil h
  | x :: xs, k, g, σ, H, HF, ρ, f, Q, r, h, c => by
    have h2 : ROk K mg g H HF (W σ) ((x ρ f).bind fun rv f1 => match toArg rv with
        | some a => (cVals xs ρ f1).bind fun as f2 => k (a :: as) f2
        | none => .no) P := by
      have e : ((cVals (x :: xs) ρ f).bind k) = ((x ρ f).bind fun rv f1 => match toArg rv with
          | some a => (cVals xs ρ f1).bind fun as f2 => k (a :: as) f2
          | none => .no) := by
        show ((x ρ f).bind _).bind k = _
        rw [bind_bind]
        congr 1
        funext rv f1
        cases toArg rv with
        | none => rfl
        | some a => exact bind_bind _ _ _
      rw [← e]
      exact h
    have go : ∀ {a : RV} {f1 : Feed} {v : V} {G GF : Hp}, Rel K g σ G GF ρ f1 → Step g H HF G GF → ARel K g GF v a → ROk K mg g G GF (W σ) ((cVals xs ρ f1).bind fun as f2 => k (a :: as) f2) P → argT K mg W xs σ G fun vs H1 => Q (v :: vs) H1 :=
      fun {a f1 v G GF} r1 s1 ha q1 => vals_read xs r1 q1 fun as f2 vs I IF hl r2 s2 drs q3 => c (a :: as) f2 (v :: vs) I IF (congrArg (· + 1) hl) r2 (s1.trans r1.feed s2) (.cons (ha.mono s2.le) drs) q3
    refine ⟨g, HF, ρ, f, r, h2.of_bind.mono fun rv f1 q v G GF s hf rr => ?_⟩
    cases rv with
    | dat d => exact go (a := .dat d) (r.step s hf) s rr (ROk.later q hf s)
    | feed => exact go (a := .feed) (r.step s hf) s rr (ROk.later q hf s)
    | own ds =>
      obtain ⟨IF, s2, h3, dr⟩ := rr.frz hf s (d := .list ds) rfl
      exact go (a := .dat (.list ds)) (r.step s2 h3) s2 dr (ROk.later q h3 s2)
    | lent i ds => exact (show False from q).elim
end
section
variable {X : Cx} {W : Wish} {k : Nat} {f : Addr} {fd : FuncData} {ps : List Str} {F : Fn} {x : Str} {p pos : Pos} {e : Expr} {es : List Expr} {xs : List Ex}
theorem de_call (G : FnG X.prog X.w X.K X.mg X.base CX0 k f fd ps (spD X.K X.mg ps.length F)) (gd : X.A.guards = some []) (hr : Room k X.A) (hg : Gl X x) (hm : X.mg x = some (.ref f)) (hk : PySem.W.keepIn X.K (.ref f) = true) (hb : Binds X.K fd ps [])
    (ha : DA X W (e :: es) xs) (hno : ∀ as f c v f2, F as f ≠ .ex c v f2) (hn : xs.length = ps.length := by rfl) (hdb : (x == ("__debug__" : Str)) = false := by decide) (he : starEach (e :: es) X.env = (false, eval e X.env) :: starEach es X.env := by rfl) (hpl : (backTo pos (starEach es X.env)).any (·.1) = false := by rfl) :
    DE X W (.Call (.Name x p) (e :: es) [] pos) (cCall F xs) := pe_mono (callG (E := fun _ _ _ => False) G gd hr hg hm hk hb pass0 ha hdb he hpl) fun σ H Q ⟨g, HF, ρ, fe, rel, q⟩ =>
  vals_read xs rel q fun as f1 vs I IF hl r1 s1 drs q1 => ⟨hl.trans hn, g, IF, as, f1, ⟨r1.sub, r1.feed, drs⟩, by
    cases z : F as f1 with
    | no =>
      rw [z] at q1
      exact q1
    | ex c v f =>
      rw [z] at q1
      exact (show False from hno as f1 c v f z).elim
    | ok rv f2 =>
      rw [z] at q1
      exact fun v J JF s2 h2 rr => (show Fin X.K g σ H HF Q rv f2 from q1) v J JF (s1.trans r1.feed s2) h2 (rr.any.back r1.feed s1)⟩
end
end Dn
end
section
set_option maxHeartbeats 4000000
namespace Dn
open PySem PySem.Spec L2
def SqB (K : PySem.W.Frag) : Bool → Hp → Addr → List V → Prop
  | true => SqL K
  | false => SqT K
def HsB : Bool → Heap → Addr → Array Value → Prop
  | true => fun h a its => h.IsList a its
  | false => fun h a its => h.IsTuple a its
def ItB : Bool → Heap → Addr → Addr → Nat → Prop
  | true => fun h i a n => h.IsListIter i a n
  | false => fun h i a n => h.IsTupleIter i a n
theorem ItB.at {b : Bool} {h h' : Heap} {it a : Addr} {n : Nat} (x : ItB b h it a n) (k : ∀ o, h.get? it = some o → h'.get? it = some o) : ItB b h' it a n := by
  cases b with
  | true => exact Heap.IsListIter.at x k
  | false => exact Heap.IsTupleIter.at x k
theorem ItB.obj {b : Bool} {h : Heap} {it a : Addr} {n : Nat} (x : ItB b h it a n) : ∃ o v w, h.get? it = some o ∧ o.data = .fields #[v, w] := by
  cases b with
  | true => obtain ⟨o, e, _, d⟩ := (x : h.IsListIter it a n); exact ⟨o, _, _, e, d⟩
  | false => obtain ⟨o, e, _, d⟩ := (x : h.IsTupleIter it a n); exact ⟨o, _, _, e, d⟩
theorem drawsB {prog : Program} {w : World} {A : Around} (b : Bool) (hh : A.handled = none) (it l : Addr) (hne : l ≠ it) (items : Array Value) :
    Draws prog w A it [it, l] items.size (fun i v => items[i]? = some v) (fun i h => ItB b h it l i ∧ HsB b h l items) := by
  cases b with
  | true => exact Draws.list hh it l hne items
  | false => exact Draws.tuple hh it l hne items
theorem seqB {X : Cx} {pins : List (Addr × Obj)} {σ : L2.St} {H : Hp} {s : Shared} (I : Inv X pins σ H s) {b : Bool} {a : Addr} {xs : List V} (h : SqB X.K b H a xs) :
    ∃ its, Vals xs its ∧ HsB b s.heap a its.toArray := by
  cases b with
  | true =>
    obtain ⟨its, rv, p, _⟩ := I.list h
    exact ⟨its, rv, p.isList⟩
  | false =>
    obtain ⟨its, rv, p, _⟩ := I.tuple h
    exact ⟨its, rv, p⟩
theorem seqB_inj {X : Cx} {pins : List (Addr × Obj)} {σ : L2.St} {H : Hp} {s : Shared} (I : Inv X pins σ H s) {b : Bool} {a : Addr} {xs ys : List V} (h : SqB X.K b H a xs) (h2 : SqB X.K b H a ys) : xs = ys := by
  cases b with
  | true => exact I.list_inj h h2
  | false => exact I.tuple_inj h h2
theorem HsB.lt {b : Bool} {h : Heap} {a : Addr} {its : Array Value} (x : HsB b h a its) : a < h.objs.size := by
  cases b with
  | true => obtain ⟨o, e, _⟩ := (x : h.IsList a its); exact Heap.lt_size e
  | false => obtain ⟨o, e, _⟩ := (x : h.IsTuple a its); exact Heap.lt_size e
def ItzB (K : PySem.W.Frag) (p q : Bool) (a b : Addr) : It :=
  ⟨fun i H => ∃ (xs ys : List V) (x y : V), SqB K p H a xs ∧ SqB K q H b ys ∧ xs[i]? = some x ∧ ys[i]? = some y,
    fun i H v H' => ∃ T x y, v = .ref T ∧ H T = none ∧ H' = upd H T (.tup [x, y]) ∧ (∀ xs, SqB K p H a xs → xs[i]? = some x) ∧ ∀ ys, SqB K q H b ys → ys[i]? = some y,
    fun i H => ∃ xs ys : List V, SqB K p H a xs ∧ SqB K q H b ys ∧ (xs.length = i ∧ i ≤ ys.length ∨ ys.length = i ∧ i ≤ xs.length)⟩
theorem turn_zipB {P : Program} {w : World} {K : PySem.W.Frag} {elts : List Expr} {kk : Nat} {tpos : Pos} {p q : Bool} {a b z TI TO i1 i2 : Addr} (S : ZipSep2 z TI TO i1 i2 [i1, a] [i2, b]) (n1 : a ≠ i1) (n2 : b ≠ i2) :
    Turn P w K (.Tuple elts kk tpos) (ItzB K p q a b) [z, TI, TO, i1, i2] z (fun i h => IsZip h z TI TO .none ∧ IsTupOf2 h TI (.ref i1) (.ref i2) ∧ (∃ x y, IsTupOf2 h TO x y) ∧ ItB p h i1 a i ∧ ItB q h i2 b i) where
  mem := by simp
  obj := fun i h st c hc => by
    obtain ⟨hz, hTI, ⟨x, y, hTO⟩, h1, h2⟩ := st
    obtain ⟨o1, v1, w1, e1, d1⟩ := h1.obj
    obtain ⟨o2, v2, w2, e2, d2⟩ := h2.obj
    have e' : c = z ∨ c = TI ∨ c = TO ∨ c = i1 ∨ c = i2 := by simpa using hc
    rcases e' with q | q | q | q | q
    · rw [q]; exact ⟨_, hz, fun v q => nomatch q⟩
    · rw [q]; exact ⟨_, hTI, fun v q => nomatch q⟩
    · rw [q]; exact ⟨_, hTO, fun v q => nomatch q⟩
    · rw [q]; exact ⟨o1, e1, fun v q => by rw [d1] at q; cases q⟩
    · rw [q]; exact ⟨o2, e2, fun v q => by rw [d2] at q; cases q⟩
  keep := fun i h h' st k => by
    obtain ⟨hz, hTI, ⟨x, y, hTO⟩, h1, h2⟩ := st
    exact ⟨k z (by simp) _ hz, k TI (by simp) _ hTI, ⟨x, y, k TO (by simp) _ hTO⟩, h1.at fun o q => k i1 (by simp) o q, h2.at fun o q => k i2 (by simp) o q⟩
  item := by
    intro X hP hw hK hc i pins s σ H E I hf st hg
    subst hP hw hK
    obtain ⟨hz, hTI, ⟨x0, y0, hTO⟩, h1, h2⟩ := st
    obtain ⟨xs, ys, x, y, hqx, hqy, hx, hy⟩ := hg
    obtain ⟨its, rv, p1⟩ := seqB I hqx
    obtain ⟨its2, rv2, p2⟩ := seqB I hqy
    obtain ⟨u, hu, ru⟩ := rv.get hx
    obtain ⟨u2, hu2, ru2⟩ := rv2.get hy
    have hzl : z < s.heap.objs.size := Heap.lt_size hz
    have t1 : i < its.toArray.size := by
      rw [List.size_toArray]
      exact (List.getElem?_eq_some_iff.mp hu).1
    have t2 : i < its2.toArray.size := by
      rw [List.size_toArray]
      exact (List.getElem?_eq_some_iff.mp hu2).1
    refine wpAny_pyNext_zipD2_item S (drawsB (A := X.A.in1) p (I.ok.hd hc) i1 a n1 its.toArray) (drawsB (A := X.A.in1) q (I.ok.hd hc) i2 b n2 its2.toArray) hz hTI hTO ⟨h1, p1⟩ ⟨h2, p2⟩ t1 t2 fun x1 x2 h' tk y1 y2 z' TO' h1' h2' hT hsz hk => ?_
    have e1 : x1 = u := by
      have h3 : its.toArray[i]? = some u := by simpa using hu
      rw [h3] at y1
      exact (Option.some.inj y1).symm
    have e2 : x2 = u2 := by
      have h3 : its2.toArray[i]? = some u2 := by simpa using hu2
      rw [h3] at y2
      exact (Option.some.inj y2).symm
    subst e1 e2
    refine ⟨_, rfl, wpAny_letOwnedTupleGo_zip (s := { s with heap := h', toks := tk }) z' fun h'' z'' sb => ?_⟩
    have hT2 : h''.get? s.heap.objs.size = some { cls := .type "tuple", data := .seq #[x1, x2] } := (sb.2 _ (Nat.ne_of_gt hzl)).trans hT
    have new : ObjOk X.prog X.w (upd H s.heap.objs.size (.tup [x, y])) h'' s.heap.objs.size (.tup [x, y]) :=
      ⟨by show 2 ≤ sizeLine; decide, [x1, x2], .cons ru (.cons ru2 .nil), ⟨_, hT2, rfl, _, rfl⟩⟩
    have I1 : Inv X pins σ (upd H s.heap.objs.size (.tup [x, y])) { s with heap := h'', toks := tk } :=
      I.turnedNew (t' := tk) (ch := [z, TI, TO, i1, i2]) (fun c o hb q => (sb.2 c (fun q' => hb (by simp [q']))).trans (hk c o (fun q' => hb (by simp [q'])) (fun q' => hb (by simp [q'])) (fun q' => hb (by simp [q'])) (fun q' => hb (by simp [q'])) q)) hf (Nat.le_refl _) new
    refine ⟨.ref s.heap.objs.size, _, I1, rfl, ⟨_, x, y, rfl, I.hok.fresh (Nat.le_refl _), rfl, fun l hl => by rw [seqB_inj I hl hqx]; exact hx, fun l hl => by rw [seqB_inj I hl hqy]; exact hy⟩, ⟨z'', ?_, ⟨x1, x2, ?_⟩, ?_, ?_⟩, fun c hcm => ?_⟩
    · exact (sb.2 _ S.TIz).trans (hk _ _ S.TIz S.TITO S.TIi1 S.TIi2 hTI)
    · exact (sb.2 _ S.TOz).trans TO'
    · exact h1'.1.at fun o q => (sb.2 _ (Ne.symm S.zi1)).trans q
    · exact h2'.1.at fun o q => (sb.2 _ (Ne.symm S.zi2)).trans q
    · have hlt : c < s.heap.objs.size := by
        have e' : c = z ∨ c = TI ∨ c = TO ∨ c = i1 ∨ c = i2 := by simpa using hcm
        rcases e' with q | q | q | q | q
        · rw [q]; exact hzl
        · rw [q]; exact Heap.lt_size hTI
        · rw [q]; exact Heap.lt_size hTO
        · rw [q]; obtain ⟨_, _, _, e1, _⟩ := h1.obj; exact Heap.lt_size e1
        · rw [q]; obtain ⟨_, _, _, e2, _⟩ := h2.obj; exact Heap.lt_size e2
      rw [upd_ne (Nat.ne_of_lt hlt)]
      exact (hf c hcm).1
  done := by
    intro X hP hw hK hc i pins s σ H E I hf st hg
    subst hP hw hK
    obtain ⟨hz, hTI, ⟨x0, y0, hTO⟩, h1, h2⟩ := st
    obtain ⟨xs, ys, hqx, hqy, hend⟩ := hg
    obtain ⟨its, rv, p1⟩ := seqB I hqx
    obtain ⟨its2, rv2, p2⟩ := seqB I hqy
    have l1 := rv.length
    have l2 := rv2.length
    have z1 : its.toArray.size = its.length := List.size_toArray ..
    have z2 : its2.toArray.size = its2.length := List.size_toArray ..
    exact wpAny_pyNext_zipD2_end S (drawsB (A := X.A.in1) p (I.ok.hd hc) i1 a n1 its.toArray) (drawsB (A := X.A.in1) q (I.ok.hd hc) i2 b n2 its2.toArray) hz hTI hTO ⟨h1, p1⟩ ⟨h2, p2⟩ (by omega) (by omega) (by omega) fun h' tk hk => ⟨rfl, I.turnedL (t' := tk) (ch := [z, TI, TO, i1, i2]) (fun c o hb q =>
      hk c o (fun q' => hb (by simp [q'])) (fun q' => hb (by simp [q'])) (fun q' => hb (by simp [q'])) (fun q' => hb (by simp [q'])) q) hf⟩
  self := fun A i s Q E st h => wpAny_pyIter_zip st.1 h
abbrev ziH1 (p : Bool) (h : Heap) (l1 : Addr) : Heap := h.push { cls := .type (if p then "list_iterator" else "tuple_iterator"), data := .fields #[.ref l1, .int 0 0] }
theorem ziOf {p : Bool} {h : Heap} {i l : Addr} (g : h.get? i = some { cls := .type (if p then "list_iterator" else "tuple_iterator"), data := .fields #[.ref l, .int 0 0] }) : ItB p h i l 0 := by
  cases p with
  | true => exact ⟨_, g, rfl, rfl⟩
  | false => exact ⟨_, g, rfl, rfl⟩
abbrev ziH2 (p q : Bool) (h : Heap) (l1 l2 : Addr) : Heap := ziH1 q (ziH1 p h l1) l2
abbrev ziH3 (p q : Bool) (h : Heap) (l1 l2 : Addr) : Heap := (ziH2 p q h l1 l2).push { cls := .type "tuple", data := .seq #[.ref h.objs.size, .ref (ziH1 p h l1).objs.size] }
abbrev ziH4 (p q : Bool) (h : Heap) (l1 l2 : Addr) : Heap := (ziH3 p q h l1 l2).push { cls := .type "tuple", data := .seq #[.none, .none] }
abbrev ziH5 (p q : Bool) (h : Heap) (l1 l2 : Addr) : Heap := (ziH4 p q h l1 l2).push { cls := .type "zip", data := .fields #[.none, .bool false, .bool false, .ref (ziH2 p q h l1 l2).objs.size, .ref (ziH3 p q h l1 l2).objs.size] }
theorem meets_zi (p q : Bool) (l1 l2 : Addr) (xs ys : Array Value) :
    Meets (Builtin.«zip.__new__» ⟨[.type "zip", .ref l1, .ref l2], []⟩) (fun _ R s => HsB p s.heap l1 xs ∧ HsB q s.heap l2 ys ∧
      R (.ok (.ret (.ref (ziH4 p q s.heap l1 l2).objs.size))) { s with heap := ziH5 p q s.heap l1 l2 }) := by
  cases p <;> cases q
  · exact RZ.meets_zipT_new l1 l2 xs ys
  · exact .of_wp fun prog w A R s h => by
      obtain ⟨hp, g, d, tk, os⟩ := s; obtain ⟨hl1, hl2, h⟩ := h
      have hsub := sub_zip
      have hL1 : Heap.IsTuple (Shared.heap ⟨hp, g, d, tk, os⟩) l1 xs := hl1
      have hL2 : Heap.IsList (Shared.heap ⟨hp.push { cls := .type "tuple_iterator", data := .fields #[.ref l1, .int 0 0] }, g, d, tk, os⟩) l2 ys := Heap.IsList.push hl2 _
      wp_walk using wpAny_pyIter_tuple hL1, wpAny_pyIter_list hL2
      exact ⟨_, rfl, h⟩
  · exact .of_wp fun prog w A R s h => by
      obtain ⟨hp, g, d, tk, os⟩ := s; obtain ⟨hl1, hl2, h⟩ := h
      have hsub := sub_zip
      have hL1 : Heap.IsList (Shared.heap ⟨hp, g, d, tk, os⟩) l1 xs := hl1
      have hL2 : Heap.IsTuple (Shared.heap ⟨hp.push { cls := .type "list_iterator", data := .fields #[.ref l1, .int 0 0] }, g, d, tk, os⟩) l2 ys := Heap.IsTuple.push hl2 _
      wp_walk using wpAny_pyIter_list hL1, wpAny_pyIter_tuple hL2
      exact ⟨_, rfl, h⟩
  · exact meets_zip_new l1 l2 xs ys
section
variable {prog : Program} {w : World} {A : Around} {E : Value → Shared → Prop} {s : Shared}
theorem call_zi {p q : Bool} {l1 l2 : Addr} {xs ys : Array Value} {Q : Value → Shared → Prop} (hl1 : HsB p s.heap l1 xs) (hl2 : HsB q s.heap l2 ys)
    (h : ∀ h', IsZip h' (s.heap.objs.size + 4) (s.heap.objs.size + 2) (s.heap.objs.size + 3) .none → IsTupOf2 h' (s.heap.objs.size + 2) (.ref s.heap.objs.size) (.ref (s.heap.objs.size + 1)) →
      IsTupOf2 h' (s.heap.objs.size + 3) .none .none → ItB p h' s.heap.objs.size l1 0 → ItB q h' (s.heap.objs.size + 1) l2 0 → h'.objs.size = s.heap.objs.size + 5 →
      (∀ c o, s.heap.get? c = some o → h'.get? c = some o) → Q (.ref (s.heap.objs.size + 4)) { s with heap := h' }) :
    wpAny (model prog w) A (call (.type "zip") [.ref l1, .ref l2]) Q E s := by
  refine callType_new F.called_zip (by decide) (F.typeCall_zip_2 _ _) (F.newCall_zip_2 _ _) (fun obj => F.args_object_init_3 obj _ _) F.entry_zip_new
    (meets_zi p q l1 l2 xs ys) ⟨hl1, hl2, ?_⟩
  have z1 : (ziH1 p s.heap l1).objs.size = s.heap.objs.size + 1 := Heap.size_push ..
  have z2 : (ziH2 p q s.heap l1 l2).objs.size = s.heap.objs.size + 2 := by rw [Heap.size_push, z1]
  have z3 : (ziH3 p q s.heap l1 l2).objs.size = s.heap.objs.size + 3 := by rw [Heap.size_push, z2]
  have z4 : (ziH4 p q s.heap l1 l2).objs.size = s.heap.objs.size + 4 := by rw [Heap.size_push, z3]
  have z5 : (ziH5 p q s.heap l1 l2).objs.size = s.heap.objs.size + 5 := by rw [Heap.size_push, z4]
  have g5 : (ziH5 p q s.heap l1 l2).get? (ziH4 p q s.heap l1 l2).objs.size = some _ := Heap.get?_push_size _ rfl
  have g4 : (ziH5 p q s.heap l1 l2).get? (ziH3 p q s.heap l1 l2).objs.size = some _ := Heap.get?_push_of_some _ (Heap.get?_push_size _ rfl)
  have g3 : (ziH5 p q s.heap l1 l2).get? (ziH2 p q s.heap l1 l2).objs.size = some _ := Heap.get?_push_of_some _ (Heap.get?_push_of_some _ (Heap.get?_push_size _ rfl))
  have g2 : (ziH5 p q s.heap l1 l2).get? (ziH1 p s.heap l1).objs.size = some _ := Heap.get?_push_of_some _ (Heap.get?_push_of_some _ (Heap.get?_push_of_some _ (Heap.get?_push_size _ rfl)))
  have g1 : (ziH5 p q s.heap l1 l2).get? s.heap.objs.size = some _ := Heap.get?_push_of_some _ (Heap.get?_push_of_some _ (Heap.get?_push_of_some _ (Heap.get?_push_of_some _ (Heap.get?_push_size _ rfl))))
  show _ ∧ _
  rw [z2, z3, z4] at g5
  rw [z1, z2] at g3
  rw [z3] at g4
  rw [z1] at g2
  rw [z4]
  exact ⟨⟨_, g5, rfl⟩, h _ g5 g3 g4 (ziOf g1) (ziOf g2) z5 fun c o x =>
    Heap.get?_push_of_some _ (Heap.get?_push_of_some _ (Heap.get?_push_of_some _ (Heap.get?_push_of_some _ (Heap.get?_push_of_some _ x))))⟩
end
theorem zi_ne {m : Nat} {l : List Nat} (h : ∀ x ∈ l, x ≠ m) : m ∉ l := fun q => h m q rfl
theorem zi_sep {n a b : Nat} (la : a < n) (lb : b < n) : ZipSep2 (n + 4) (n + 2) (n + 3) n (n + 1) [n, a] [n + 1, b] where
  TIz := by show n + 2 ≠ n + 4; omega
  TOz := by show n + 3 ≠ n + 4; omega
  TITO := by show n + 2 ≠ n + 3; omega
  TIi1 := by show n + 2 ≠ n; omega
  mem1 := List.mem_cons_self ..
  zf1 := zi_ne (by rintro x (_ | ⟨_, _ | ⟨_, q⟩⟩) <;> first | omega | cases q)
  Tf1 := zi_ne (by rintro x (_ | ⟨_, _ | ⟨_, q⟩⟩) <;> first | omega | cases q)
  TIi2 := by show n + 2 ≠ n + 1; omega
  mem2 := List.mem_cons_self ..
  zf2 := zi_ne (by rintro x (_ | ⟨_, _ | ⟨_, q⟩⟩) <;> first | omega | cases q)
  Tf2 := zi_ne (by rintro x (_ | ⟨_, _ | ⟨_, q⟩⟩) <;> first | omega | cases q)
  sep1_2 := zi_ne (by rintro x (_ | ⟨_, _ | ⟨_, q⟩⟩) <;> first | omega | cases q)
  sep2_1 := zi_ne (by rintro x (_ | ⟨_, _ | ⟨_, q⟩⟩) <;> first | omega | cases q)
def iZipB (K : PySem.W.Frag) (ta : TA) : TI := fun σ H R => ta σ H fun vs H1 => ∃ p q a b xs ys, vs = [.ref a, .ref b] ∧ SqB K p H1 a xs ∧ SqB K q H1 b ys ∧ R (ItzB K p q a b) H1
theorem pi_zipB {X : Cx} {e e2 : Expr} {ta : TA} {p pos tpos : Pos} {elts : List Expr} {kk : Nat} (hg : Gl X "zip") (hm : X.mg "zip" = none) (ha : PA X [e, e2] ta)
    (hs : starEach [e, e2] X.env = (false, eval e X.env) :: starEach [e2] X.env := by rfl) (hpl : (backTo pos (starEach [e2] X.env)).any (·.1) = false := by rfl) :
    PI X (.Tuple elts kk tpos) (.Call (.Name "zip" p) [e, e2] [] pos) (iZipB X.K ta) := by
  refine ⟨fun pins s σ H R I h => ?_⟩
  refine PyProof.Rows.Call_ (ld_blt I hg hm PyProof.Rows.boot_zip (PyProof.Rows.callWith_type1 (thn (ha.run pos pins s σ H _ I h) fun us s1 ⟨vs, H1, I1, r1, q1⟩ => ?_) hs hpl))
  obtain ⟨p, q, a, b, xs, ys, ex, hqx, hqy, q1⟩ := q1
  subst ex
  cases r1 with
  | cons r rr =>
    cases rr with
    | cons r' rr =>
      cases rr
      cases r
      cases r'
      have fresh5 : ∀ c, c ∈ [s1.heap.objs.size + 4, s1.heap.objs.size + 2, s1.heap.objs.size + 3, s1.heap.objs.size, s1.heap.objs.size + 1] → FpOk X pins H1 c := fun c hcm => by
        have e' : c = s1.heap.objs.size + 4 ∨ c = s1.heap.objs.size + 2 ∨ c = s1.heap.objs.size + 3 ∨ c = s1.heap.objs.size ∨ c = s1.heap.objs.size + 1 := by simpa using hcm
        have hle : s1.heap.objs.size ≤ c := by
          rcases e' with z | z | z | z | z
          · rw [z]; exact Nat.le_add_right _ _
          · rw [z]; exact Nat.le_add_right _ _
          · rw [z]; exact Nat.le_add_right _ _
          · rw [z]; exact Nat.le_refl _
          · rw [z]; exact Nat.le_add_right _ _
        exact I1.fpOk hle (I1.hok.fresh hle)
      obtain ⟨its, rv, p1⟩ := seqB I1 hqx
      obtain ⟨its2, rv2, p2⟩ := seqB I1 hqy
      refine call_zi p1 p2 fun h' hz hTI hTO h1 h2 hsz hk => wpAny_pyIter_zip hz ?_
      have I2 : Inv X pins σ H1 { s1 with heap := h' } := I1.kept (t' := s1.toks) hk
      have la := p1.lt
      have lb := p2.lt
      have S : ZipSep2 (s1.heap.objs.size + 4) (s1.heap.objs.size + 2) (s1.heap.objs.size + 3) s1.heap.objs.size (s1.heap.objs.size + 1) [s1.heap.objs.size, a] [s1.heap.objs.size + 1, b] := zi_sep la lb
      exact ⟨s1.heap.objs.size + 4, [s1.heap.objs.size + 4, s1.heap.objs.size + 2, s1.heap.objs.size + 3, s1.heap.objs.size, s1.heap.objs.size + 1], _, _, H1, rfl, I2, turn_zipB S (Nat.ne_of_lt la) (Nat.ne_of_lt (Nat.lt_succ_of_lt lb)), ⟨hz, hTI, ⟨_, _, hTO⟩, h1, h2⟩, fresh5, q1⟩
end Dn
end
section
set_option maxHeartbeats 4000000
namespace Dn
open PySem PySem.Spec L2
open PySem.AutoSeq1 (wpAny_loadPart')
theorem enumT_new (l : Addr) (its : Array Value) (n : Nat) (dct : Option Addr) (sl : Array (Option Value)) :
    Meets (Builtin.«enumerate.__new__» ⟨[.type "enumerate", .ref l], []⟩) (fun _ R s =>
      s.heap.get? l = some { cls := .type "tuple", dict := dct, data := .seq its n, slots := sl } ∧
      R (.ok (.ret (.ref (s.heap.push { cls := .type "tuple_iterator", data := .fields #[.ref l, .int 0 0] }).objs.size)))
        { s with heap := Heap.push (s.heap.push { cls := .type "tuple_iterator", data := .fields #[.ref l, .int 0 0] }) { cls := .type "enumerate", data := .fields #[.none, .bool false, .ref s.heap.objs.size, rawInt 0, .none, .none] } }) :=
  .of_wp fun prog w A R s h => by
    obtain ⟨hp, g, d, tk, os⟩ := s
    obtain ⟨hl, h⟩ := h
    have hsub := sub_enumerate
    have hL : Heap.IsTuple (Shared.heap ⟨hp, g, d, tk, os⟩) l its := ⟨_, hl, rfl, n, rfl⟩
    wp_walk using wpAny_loadPart' hl
    refine wpAny_stack_any fun st => wpAny_pure ?_
    split
    · rename_i c _ _ _ _ _
      cases (c == Value.type "enumerate") <;>
        (wp_walk using wpAny_loadPart' hl, wpAny_pyIter_tuple hL
         exact ⟨_, rfl, h⟩)
    · wp_walk using wpAny_loadPart' hl, wpAny_pyIter_tuple hL
      exact ⟨_, rfl, h⟩
section
variable {prog : Program} {w : World} {A : Around} {E : Value → Shared → Prop} {s : Shared}
theorem enumT_call {l : Addr} {its : Array Value} {Q : Value → Shared → Prop} (hL : s.heap.IsTuple l its)
    (h : ∀ G, IsEnum G (s.heap.objs.size + 1) s.heap.objs.size 0 .none → G.IsTupleIter s.heap.objs.size l 0 → (∀ b o, s.heap.get? b = some o → G.get? b = some o) →
      Q (.ref (s.heap.objs.size + 1)) { s with heap := G }) : wpAny (model prog w) A (call (.type "enumerate") [.ref l]) Q E s := by
  obtain ⟨⟨c, dct, dt, sl⟩, hl, hc, n, hd⟩ := hL
  obtain rfl : c = .type "tuple" := hc
  obtain rfl : dt = .seq its n := hd
  refine callType_new F.called_enumerate (by decide) (F.typeCall_enumerate_1 _) (F.newCall_enumerate_1 _)
    (fun obj => F.args_object_init_2 obj _) F.entry_enumerate_new (enumT_new l its n dct sl) ⟨hl, ?_⟩
  have hz : (s.heap.push { cls := .type "tuple_iterator", data := .fields #[.ref l, .int 0 0] }).objs.size = s.heap.objs.size + 1 := Heap.size_push ..
  have he := Heap.get?_push_size (s.heap.push { cls := .type "tuple_iterator", data := .fields #[.ref l, .int 0 0] })
    (o := { cls := .type "enumerate", data := .fields #[.none, .bool false, .ref s.heap.objs.size, rawInt 0, .none, .none] }) rfl
  show _ ∧ _
  rw [hz] at he ⊢
  exact ⟨⟨_, he, rfl⟩, h _ he ⟨_, Heap.get?_push_of_some _ (Heap.get?_push_size _ rfl), rfl, rfl⟩ fun b o x => Heap.get?_push_of_some _ (Heap.get?_push_of_some _ x)⟩
end
/-- the tuple at a, each item in a new pair -/
def IteT (K : PySem.W.Frag) (a : Addr) : It where
  go i H := ∃ (xs : List V) (x : V), SqT K H a xs ∧ xs[i]? = some x
  yld i H v G := ∃ T x, v = .ref T ∧ H T = none ∧ G = upd H T (.tup [.int (i : Nat), x]) ∧ ∀ xs, SqT K H a xs → xs[i]? = some x
  stop i H := ∃ xs : List V, SqT K H a xs ∧ xs.length = i
theorem turn_enumT {P : Program} {w : World} {K : PySem.W.Frag} {elts : List Expr} {kk : Nat} {tpos : Pos} (a e it : Addr) :
    Turn P w K (.Tuple elts kk tpos) (IteT K a) [e, it] e (fun i h => (∃ old, IsEnum h e it ((i : Nat) : Int) old) ∧ h.IsTupleIter it a i ∧ e ≠ it ∧ a ≠ it ∧ a ≠ e) where
  mem := by simp
  obj := fun i h st b hb => by
    obtain ⟨⟨old, he⟩, ⟨o, ho, hc, hd⟩, _⟩ := st
    rcases (by simpa using hb : b = e ∨ b = it) with z | z
    · subst z
      exact ⟨_, he, fun v q => nomatch q⟩
    · subst z
      exact ⟨o, ho, fun v q => by rw [hd] at q; cases q⟩
  keep := fun i h h2 st k => by
    obtain ⟨⟨old, he⟩, hi, hne⟩ := st
    exact ⟨⟨old, k e (by simp) _ he⟩, hi.at fun o q => k it (by simp) o q, hne⟩
  item := by
    intro X hP hw hK hc i pins s σ H E I hf st hg
    subst hP hw hK
    obtain ⟨⟨old, he⟩, hit, hne, ha1, ha2⟩ := st
    obtain ⟨xs, x, hq, hx⟩ := hg
    obtain ⟨its, rv, p, hz⟩ := I.tuple hq
    obtain ⟨u, hu, ru⟩ := rv.get hx
    have hel : e < s.heap.objs.size := Heap.lt_size he
    have hil : it < s.heap.objs.size := by
      obtain ⟨_, q, _⟩ := hit
      exact Heap.lt_size q
    have hlt : i < its.toArray.size := by
      rw [List.size_toArray]
      exact (List.getElem?_eq_some_iff.mp hu).1
    have hef : e ∉ [it, a] := fun m => by
      rcases (by simpa using m : e = it ∨ e = a) with z | z
      · exact hne z
      · exact ha2 z.symm
    refine wpAny_pyNext_enum_itemD (Draws.tuple (A := X.A.in1) (I.ok.hd hc) it a ha1 its.toArray) he ⟨hit, p⟩ hlt hne hef fun y G tk hy ho hit2 hT hsz hk => ?_
    have ey : y = u := by
      have h2 : its.toArray[i]? = some u := by simpa using hu
      rw [h2] at hy
      exact (Option.some.inj hy).symm
    subst ey
    refine ⟨_, rfl, wpAny_letOwnedTupleGo_enum (s := { s with heap := G, toks := tk + 1 }) ho fun G2 he2 sb => ?_⟩
    have hT2 : G2.get? s.heap.objs.size = some { cls := .type "tuple", data := .seq #[.int i tk, y] } := (sb.2 _ (Nat.ne_of_gt hel)).trans hT
    have new : ObjOk X.prog X.w (upd H s.heap.objs.size (.tup [.int (i : Nat), x])) G2 s.heap.objs.size (.tup [.int (i : Nat), x]) :=
      ⟨by show 2 ≤ sizeLine; decide, [.int i tk, y], .cons ⟨_, rfl⟩ (.cons ru .nil), ⟨_, hT2, rfl, _, rfl⟩⟩
    have I1 : Inv X pins σ (upd H s.heap.objs.size (.tup [.int (i : Nat), x])) { s with heap := G2, toks := tk + 1 } :=
      I.turnedNew (ch := [e, it]) (fun b ob hb q => (sb.2 b (fun z => hb (by simp [z]))).trans (hk b ob (fun z => hb (by simp [z])) (fun z => hb (by simp [z])) q)) hf (Nat.le_refl _) new
    refine ⟨.ref s.heap.objs.size, _, I1, rfl, ⟨_, x, rfl, I.hok.fresh (Nat.le_refl _), rfl, fun ys hy => by rw [I.tuple_inj hy hq]; exact hx⟩, ⟨⟨y, ?_⟩, hit2.1.at fun o q => (sb.2 it (Ne.symm hne)).trans q, hne, ha1, ha2⟩, fun b hb => ?_⟩
    · rw [show ((i + 1 : Nat) : Int) = (i : Int) + 1 by omega]
      exact he2
    · have hb2 : b < s.heap.objs.size := by
        rcases (by simpa using hb : b = e ∨ b = it) with z | z
        · rw [z]; exact hel
        · rw [z]; exact hil
      rw [upd_ne (Nat.ne_of_lt hb2)]
      exact (hf b hb).1
  done := by
    intro X hP hw hK hc i pins s σ H E I hf st hg
    subst hP hw hK
    obtain ⟨⟨old, he⟩, hit, hne, ha1, ha2⟩ := st
    obtain ⟨xs, hq, hx⟩ := hg
    obtain ⟨its, rv, p, hz⟩ := I.tuple hq
    obtain ⟨f0, f1, f2, f3, f4, f5⟩ := hf it (by simp)
    have hn : i = its.toArray.size := by
      rw [List.size_toArray, ← rv.length]
      exact hx.symm
    refine wpAny_pyNext_enum_endD (Draws.tuple (A := X.A.in1) (I.ok.hd hc) it a ha1 its.toArray) he ⟨by rw [← hn]; exact hit, p⟩ fun G eb => ⟨rfl, I.turned (t' := s.toks) (fun b o hb q => eb b o hb q) f0 f1 f3 f4 f5⟩
  self := fun A i s Q E st h => by
    obtain ⟨⟨_, he⟩, _⟩ := st
    exact wpAny_pyIter_enum he h
def iEnumA (K : PySem.W.Frag) (ta : TE) : TI := fun σ H Z => ta σ H fun v H1 => ∃ w, [v] = [w] ∧ ∃ a xs, w = .ref a ∧ ((SqL K H1 a xs ∧ Z (Ite K a) H1) ∨ (SqT K H1 a xs ∧ Z (IteT K a) H1))
theorem pi_enumA {X : Cx} {e : Expr} {ta : TE} {p pos tpos : Pos} {elts : List Expr} {kk : Nat} (hg : Gl X "enumerate") (hm : X.mg "enumerate" = none) (ha : PE X e ta) (hs : starEach [e] X.env = (false, eval e X.env) :: starEach [] X.env := by rfl) :
    PI X (.Tuple elts kk tpos) (.Call (.Name "enumerate" p) [e] [] pos) (iEnumA X.K ta) := by
  refine ⟨fun pins s σ H Z I h => ?_⟩
  have ha2 := (pa_cons ha pa_nil hs).run pos pins s σ H (fun vs G => ∃ v, vs = [v] ∧ ∃ a xs, v = .ref a ∧ ((SqL X.K G a xs ∧ Z (Ite X.K a) G) ∨ (SqT X.K G a xs ∧ Z (IteT X.K a) G))) I ?_
  · refine PyProof.Rows.Call_ (ld_blt I hg hm PyProof.Rows.boot_enumerate (PyProof.Rows.callWith_type1 (thn ha2 fun us s1 ⟨vs, H1, I1, r1, v, e1, a, xs, e2, q⟩ => ?_) hs rfl))
    subst e1
    subst e2
    obtain ⟨u, eu, ru⟩ := vals1 r1
    subst eu
    cases ru
    have fresh : ∀ b ∈ [s1.heap.objs.size + 1, s1.heap.objs.size], FpOk X pins H1 b := fun b hb => by
      have hle : s1.heap.objs.size ≤ b := by
        rcases (by simpa using hb : b = s1.heap.objs.size + 1 ∨ b = s1.heap.objs.size) with z | z
        · rw [z]; exact Nat.le_add_right _ _
        · rw [z]; exact Nat.le_refl _
      exact I1.fpOk hle (I1.hok.fresh hle)
    rcases q with ⟨hq, q⟩ | ⟨hq, q⟩
    · obtain ⟨its, rv, p', hz⟩ := I1.list hq
      refine call_enumerate_list p'.isList fun G he hit hsz hk => wpAny_pyIter_enum he ?_
      exact ⟨s1.heap.objs.size + 1, [s1.heap.objs.size + 1, s1.heap.objs.size], _, _, H1, rfl, I1.kept (t' := s1.toks) hk, turn_enum a (s1.heap.objs.size + 1) s1.heap.objs.size, ⟨⟨.none, he⟩, hit, Nat.succ_ne_self _⟩, fresh, q⟩
    · obtain ⟨its, rv, p', hz⟩ := I1.tuple hq
      have hlt : a < s1.heap.objs.size := by
        obtain ⟨o, ho, _⟩ := p'
        exact Heap.lt_size ho
      refine enumT_call (show s1.heap.IsTuple a its.toArray from p') fun G he hit hk => wpAny_pyIter_enum he ?_
      exact ⟨s1.heap.objs.size + 1, [s1.heap.objs.size + 1, s1.heap.objs.size], _, _, H1, rfl, I1.kept (t' := s1.toks) hk, turn_enumT a (s1.heap.objs.size + 1) s1.heap.objs.size, ⟨⟨.none, he⟩, hit, Nat.succ_ne_self _, Nat.ne_of_lt hlt, Nat.ne_of_lt (Nat.lt_succ_of_lt hlt)⟩, fresh, q⟩
  · exact h
def pairsD (ds : List PyData) : List PyData := ds.mapIdx fun i d => .tuple [.int (i : Nat), d]
theorem pairsD_get {ds : List PyData} {i : Nat} {d : PyData} (h : ds[i]? = some d) : (pairsD ds)[i]? = some (.tuple [.int (i : Nat), d]) := by
  unfold pairsD
  rw [List.getElem?_mapIdx, h]
  rfl
theorem pairsD_length (ds : List PyData) : (pairsD ds).length = ds.length := by
  unfold pairsD
  rw [List.length_mapIdx]
theorem new_pair {K : PySem.W.Frag} {I IF : Hp} {T : Addr} {xs : List V} {ds : List PyData} (l : Le IF I) (h : I T = none) (r : DRs K IF xs ds) : ∃ IF2, New I IF (upd I T (.tup xs)) IF2 ∧ DR K IF2 (.ref T) (.tuple ds) := by
  have hf : IF T = none := by
    cases z : IF T with
    | none => rfl
    | some o =>
      rw [l _ _ z] at h
      cases h
  have l2 : Le IF (upd IF T (.tup xs)) := fun a o e => by
    rw [upd_ne (ne_of_none e hf)]
    exact e
  refine ⟨upd IF T (.tup xs), ⟨fun a o e => ?_, l2, fun a x y => ?_, fun a o e => ?_⟩, .tup (.inl (.inl upd_same)) (r.mono l2)⟩
  · rw [upd_ne (ne_of_none e h)]
    exact e
  · rw [upd_ne (fun z => x.some (by rw [z]; exact h))]
    exact y
  · by_cases z : a = T
    · subst z
      rw [upd_same] at e ⊢
      exact e
    · rw [upd_ne z] at e ⊢
      exact l _ _ e
section
variable {K : PySem.W.Frag} {H : Hp} {a b : Addr} {vs ws : List V} {ds es : List PyData}
theorem yields_enumL (h : H a = some (.lst vs)) (r : DRs K H vs ds) : Yields K (Ite K a) H (pairsD ds) where
  go := fun i I IF l1 l2 hi => by
    rw [pairsD_length, ← r.length] at hi
    exact ⟨vs, vs[i], .inl (.inl (l2 _ _ (l1 _ _ h))), List.getElem?_eq_getElem hi⟩
  yld := fun i I IF x I2 l1 l2 hi y => by
    rw [pairsD_length] at hi
    obtain ⟨T, v, rfl, hT, rfl, fx⟩ := y
    obtain ⟨v2, e1, e2⟩ := r.get (List.getElem?_eq_getElem hi)
    have ex := fx vs (.inl (.inl (l2 _ _ (l1 _ _ h))))
    rw [e1] at ex
    cases ex
    obtain ⟨IF2, n, dr⟩ := new_pair l2 hT (.cons (.int (i : Nat)) (.cons (e2.mono l1) .nil))
    exact ⟨IF2, _, pairsD_get (List.getElem?_eq_getElem hi), n, dr⟩
  stop := fun i I IF l1 l2 hi => ⟨vs, .inl (.inl (l2 _ _ (l1 _ _ h))), by rw [r.length]; rw [pairsD_length] at hi; omega⟩
theorem yields_enumT (h : SqT K H a vs) (r : DRs K H vs ds) : Yields K (IteT K a) H (pairsD ds) where
  go := fun i I IF l1 l2 hi => by
    rw [pairsD_length, ← r.length] at hi
    exact ⟨vs, vs[i], (l1.trans l2).sqT h, List.getElem?_eq_getElem hi⟩
  yld := fun i I IF x I2 l1 l2 hi y => by
    rw [pairsD_length] at hi
    obtain ⟨T, v, rfl, hT, rfl, fx⟩ := y
    obtain ⟨v2, e1, e2⟩ := r.get (List.getElem?_eq_getElem hi)
    have ex := fx vs ((l1.trans l2).sqT h)
    rw [e1] at ex
    cases ex
    obtain ⟨IF2, n, dr⟩ := new_pair l2 hT (.cons (.int (i : Nat)) (.cons (e2.mono l1) .nil))
    exact ⟨IF2, _, pairsD_get (List.getElem?_eq_getElem hi), n, dr⟩
  stop := fun i I IF l1 l2 hi => ⟨vs, (l1.trans l2).sqT h, by rw [r.length]; rw [pairsD_length] at hi; exact hi.symm⟩
end
def zipD : List PyData → List PyData → List PyData
  | d :: ds, e :: es => .tuple [d, e] :: zipD ds es
  | _, _ => []
theorem zipD_get : ∀ {ds es : List PyData} {i : Nat} {d e : PyData}, ds[i]? = some d → es[i]? = some e → (zipD ds es)[i]? = some (.tuple [d, e])
  | d :: ds, e :: es, 0, _, _, h, k => by
    cases h
    cases k
    rfl
  | d :: ds, e :: es, i + 1, _, _, h, k => zipD_get (ds := ds) (es := es) (i := i) h k
  | [], _, _, _, _, h, _ => by simp at h
  | _ :: _, [], _, _, _, _, k => by simp at k
theorem zipD_length : ∀ ds es : List PyData, (zipD ds es).length = min ds.length es.length
  | [], [] => rfl
  | [], _ :: _ => by simp [zipD]
  | _ :: _, [] => by simp [zipD]
  | _ :: ds, _ :: es => by
    simp only [zipD, List.length_cons, zipD_length ds es]
    omega
section
variable {K : PySem.W.Frag} {H : Hp} {a b : Addr} {vs ws : List V} {ds es : List PyData}
theorem yields_zipB {p q : Bool} (h : ∀ I, Le H I → SqB K p I a vs) (r : DRs K H vs ds) (h2 : ∀ I, Le H I → SqB K q I b ws) (r2 : DRs K H ws es) : Yields K (ItzB K p q a b) H (zipD ds es) where
  go := fun i I IF l1 l2 hi => by
    rw [zipD_length, ← r.length, ← r2.length] at hi
    exact ⟨vs, ws, vs[i], ws[i], h _ (l1.trans l2), h2 _ (l1.trans l2), List.getElem?_eq_getElem (by omega), List.getElem?_eq_getElem (by omega)⟩
  yld := fun i I IF x I2 l1 l2 hi y => by
    rw [zipD_length] at hi
    have hi1 : i < ds.length := by omega
    have hi2 : i < es.length := by omega
    obtain ⟨T, v, w, rfl, hT, rfl, fx, fy⟩ := y
    obtain ⟨v2, e1, e2⟩ := r.get (List.getElem?_eq_getElem hi1)
    obtain ⟨w2, e3, e4⟩ := r2.get (List.getElem?_eq_getElem hi2)
    have ex := fx vs (h _ (l1.trans l2))
    rw [e1] at ex
    cases ex
    have ey := fy ws (h2 _ (l1.trans l2))
    rw [e3] at ey
    cases ey
    obtain ⟨IF2, n, dr⟩ := new_pair l2 hT (.cons (e2.mono l1) (.cons (e4.mono l1) .nil))
    exact ⟨IF2, _, zipD_get (List.getElem?_eq_getElem hi1) (List.getElem?_eq_getElem hi2), n, dr⟩
  stop := fun i I IF l1 l2 hi => ⟨vs, ws, h _ (l1.trans l2), h2 _ (l1.trans l2), by rw [zipD_length] at hi; rw [r.length, r2.length]; omega⟩
end
def iEnum (e : Ex) : Ix := fun ρ f => dt (e ρ f) fun d f1 => match seqOf d with
  | some ds => .ok (pairsD ds) f1
  | none => .no
def iZip (a b : Ex) : Ix := fun ρ f => dt (a ρ f) fun d f1 => dt (b ρ f1) fun e f2 => match d, e with
  | .list ds, .list es => .ok (zipD ds es) f2
  | .tuple ds, .tuple es => .ok (zipD ds es) f2
  | .tuple ds, .list es => .ok (zipD ds es) f2
  | .list ds, .tuple es => .ok (zipD ds es) f2
  | _, _ => .no
section
variable {X : Cx} {W : Wish} {e e2 : Expr} {x y : Ex} {pos p tpos : Pos} {elts : List Expr} {kk : Nat}
theorem di_enum (hg : Gl X "enumerate") (hm : X.mg "enumerate" = none) (h : DE X W e x) (hs : starEach [e] X.env = (false, eval e X.env) :: starEach [] X.env := by rfl) : DI X W (.Tuple elts kk tpos) (.Call (.Name "enumerate" p) [e] [] pos) (iEnum x) :=
  pi_mono (pi_enumA hg hm h hs) fun σ H Z ⟨g, HF, ρ, f, rel, q⟩ => tD_dt rel q fun d f1 v G GF r1 s1 dr q1 => by
    cases d <;> try exact (show False from q1).elim
    · cases dr with
      | lst h1 h2 => exact ⟨_, rfl, _, _, rfl, .inl ⟨.inl (.inl (r1.sub _ _ h1)), q1 _ G GF s1 r1.feed (yields_enumL h1 h2)⟩⟩
    · cases dr with
      | tup h1 h2 => exact ⟨_, rfl, _, _, rfl, .inr ⟨r1.sub.sqT h1, q1 _ G GF s1 r1.feed (yields_enumT h1 h2)⟩⟩
theorem di_zip (hg : Gl X "zip") (hm : X.mg "zip" = none) (h : DE X W e x) (h2 : DE X W e2 y) (hs : starEach [e, e2] X.env = (false, eval e X.env) :: starEach [e2] X.env := by rfl)
    (hs2 : starEach [e2] X.env = (false, eval e2 X.env) :: starEach [] X.env := by rfl) (hpl : (backTo pos (starEach [e2] X.env)).any (·.1) = false := by rfl) : DI X W (.Tuple elts kk tpos) (.Call (.Name "zip" p) [e, e2] [] pos) (iZip x y) :=
  pi_mono (pi_zipB hg hm (pa_cons h (pa_cons h2 pa_nil hs2) hs) hs hpl) fun σ H Z ⟨g, HF, ρ, f, rel, q⟩ => tD_dt rel q fun d f1 v G GF r1 s1 dr q1 => tD_dt r1 q1 fun e f2 w I IF r2 s2 er q2 => by
    have dr2 := dr.mono s2.le
    cases d <;> cases e <;> try exact (show False from q2).elim
    · cases dr2 with
      | lst h1 h2 =>
        cases er with
        | lst h3 h4 => exact ⟨true, true, _, _, _, _, rfl, .inl (.inl (r2.sub _ _ h1)), .inl (.inl (r2.sub _ _ h3)), q2 _ I IF (s1.trans r1.feed s2) r2.feed (yields_zipB (fun I l => .inl (.inl (l _ _ h1))) h2 (fun I l => .inl (.inl (l _ _ h3))) h4)⟩
    · cases dr2 with
      | lst h1 h2 =>
        cases er with
        | tup h3 h4 => exact ⟨true, false, _, _, _, _, rfl, .inl (.inl (r2.sub _ _ h1)), r2.sub.sqT h3, q2 _ I IF (s1.trans r1.feed s2) r2.feed (yields_zipB (fun I l => .inl (.inl (l _ _ h1))) h2 (fun I l => l.sqT h3) h4)⟩
    · cases dr2 with
      | tup h1 h2 =>
        cases er with
        | lst h3 h4 => exact ⟨false, true, _, _, _, _, rfl, r2.sub.sqT h1, .inl (.inl (r2.sub _ _ h3)), q2 _ I IF (s1.trans r1.feed s2) r2.feed (yields_zipB (fun I l => l.sqT h1) h2 (fun I l => .inl (.inl (l _ _ h3))) h4)⟩
    · cases dr2 with
      | tup h1 h2 =>
        cases er with
        | tup h3 h4 => exact ⟨false, false, _, _, _, _, rfl, r2.sub.sqT h1, r2.sub.sqT h3, q2 _ I IF (s1.trans r1.feed s2) r2.feed (yields_zipB (fun I l => l.sqT h1) h2 (fun I l => l.sqT h3) h4)⟩
end
end Dn
end
section
set_option maxHeartbeats 4000000
namespace Dn
open PySem PySem.Spec L2
mutual
theorem DR.dpN {K : PySem.W.Frag} {H : Hp} : ∀ {v : V} {d : PyData}, DR K H v d → d.hasDict = false → Dp K H v d
  | _, _, .non, _ => .non
  | _, _, .bl b, _ => .bl b
  | _, _, .int i, _ => .int i
  | _, _, .str x, _ => .str x
  | _, _, .lst h r, c => .lst (.inl (.inl h)) (DRs.dpN r (by simpa [PyData.hasDict] using c))
  | _, _, .tup h r, c => .tup h (DRs.dpN r (by simpa [PyData.hasDict] using c))
  | _, _, .dic _ _ _, c => by simp [PyData.hasDict] at c
  | _, _, .exc _ _ _ _, c => by simp [PyData.hasDict] at c
  | _, _, .dit _ _ _, c => by simp [PyData.hasDict] at c
theorem DRs.dpN {K : PySem.W.Frag} {H : Hp} : ∀ {vs : List V} {ds : List PyData}, DRs K H vs ds → PyData.hasDictAll ds = false → DpAll K H vs ds
  | _, _, .nil, _ => .nil
  | _, _, .cons h r, c => by
    have c2 := Bool.or_eq_false_iff.mp (show (PyData.hasDict _ || PyData.hasDictAll _) = false from c)
    exact .cons (DR.dpN h c2.1) (DRs.dpN r c2.2)
end
theorem Top.dpN {K : PySem.W.Frag} {g : Gh} {H HF : Hp} {v : V} {d : PyData} (t : Top K g H HF v d) (l : Le HF H) (c : d.hasDict = false) : Dp K H v d := by
  rcases t with h | ⟨p, vs, ds, rfl, rfl, _, h4, h5⟩
  · exact (h.mono l).dpN c
  · exact .lst (.inl (.inl h4)) ((h5.mono l).dpN (by simpa [PyData.hasDict] using c))
def rRepr (K : PySem.W.Frag) : List V → Hp → VK → Prop := fun xs H Q => ∃ x d, xs = [x] ∧ Dp K H x d ∧ d.showable = true ∧ d.hasDict = false ∧ d.depth ≤ 60 ∧ d.shown.length ≤ sizeLine ∧ Q (.str d.shown) H
theorem call_repr {X : Cx} (hg : X.A.guards = some []) (hu : X.A.units + 64 < cLine) : CallR X (.builtin "repr") (rRepr X.K) := by
  intro pins s σ H xs us Q I rs h
  obtain ⟨x, d, e1, dp, sh, nd, dep, len, q⟩ := h
  subst e1
  obtain ⟨u, e2, ru⟩ := vals1 rs
  subst e2
  have fin : ∀ (G : Heap) (t : Nat) (tk : Tok), (∀ b o, s.heap.get? b = some o → G.get? b = some o) → EP X pins σ Q (.str d.shown tk) { s with heap := G, toks := t } :=
    fun G t tk k => ⟨.str d.shown, H, I.kept (t' := t) k, ⟨tk, rfl⟩, q⟩
  obtain ⟨as, r⟩ := Dp.reads I d x u dp ru
  cases dp with
  | non =>
    cases ru
    exact PySem.P.repr_of_none (fin s.heap _ _ fun _ _ e => e)
  | bl b =>
    cases ru
    refine PySem.P.repr_of_bool ?_
    have z := fin s.heap (s.toks + 1) s.toks fun _ _ e => e
    cases b <;> exact z
  | int i =>
    obtain ⟨t, rfl⟩ := ru
    exact PySem.P.repr_of_int (by simpa [PyData.showable] using sh) (fin s.heap _ _ fun _ _ e => e)
  | str y =>
    obtain ⟨t, rfl⟩ := ru
    exact PySem.P.repr_of_str (fin s.heap _ _ fun _ _ e => e) (by simpa [PyData.shown] using len)
  | lst h1 h2 =>
    cases ru
    exact repr_of_reads' r sh (PyData.noDict_hsm nd) hg (by omega) (fun _ _ e => e) (fun G tk t k => fin G t tk k) len
  | tup h1 h2 =>
    cases ru
    exact repr_of_reads' r sh (PyData.noDict_hsm nd) hg (by omega) (fun _ _ e => e) (fun G tk t k => fin G t tk k) len
def shows (d : PyData) : Bool := d.showable && !d.hasDict && decide (d.depth ≤ 60) && decide (d.shown.length ≤ 10000000)
def oRepr : Op1 := fun d => if shows d = true then some (.dat (.str d.shown)) else none
theorem oRepr_ok {K : PySem.W.Frag} : UnOk K (fun v H Q => rRepr K [v] H Q) oRepr := fun g H HF f x d rv a t z Q k => by
  obtain ⟨c, rfl⟩ := ite_some z
  unfold shows at c
  simp only [Bool.and_eq_true, Bool.not_eq_true', decide_eq_true_eq] at c
  exact ⟨x, d, rfl, t.dpN a.sub c.1.1.2, c.1.1.1, c.1.1.2, c.1.2, Nat.le_trans c.2 (by decide), k.now a (.str _)⟩
def tyName : PyData → String
  | .none => "NoneType"
  | .bool _ => "bool"
  | .int _ => "int"
  | .str _ => "str"
  | .list _ => "list"
  | .tuple _ => "tuple"
  | .dict _ => "dict"
/-- no exception -/
def okTy : PyData → Bool
  | .dict ((.none, _) :: _) => false
  | .dict ((.bool true, _) :: _) => false
  | _ => true
theorem Top.ty {K : PySem.W.Frag} {g : Gh} {H HF : Hp} {v : V} {d : PyData} (t : Top K g H HF v d) (l : Le HF H) (ok : okTy d = true) : TyX K H v (.type (tyName d)) := by
  rcases t with h | ⟨p, vs, ds, rfl, rfl, _, h4, h5⟩
  · cases h with
    | non => exact .base .non
    | bl b => exact .base (.bl b)
    | int i => exact .base (.int i)
    | str x => exact .base (.str x)
    | lst h r => exact .base (.lst (l _ _ h))
    | dic h _ _ => exact .base (.dK (l _ _ h))
    | exc _ _ _ _ => cases ok
    | dit _ _ _ => cases ok
    | tup h r =>
      rcases h with (h | ⟨o, h⟩) | ⟨o, its, n, h1, h2, _⟩
      · exact .base (.tup (l _ _ h))
      · exact .fTuple (l _ _ h)
      · exact .kTuple h1 h2
  · exact .base (.lst h4)
/-- T's own and what counts as one -/
def isOf (T : String) (d : PyData) : Bool := tyName d == T || (T == "int" && tyName d == "bool")
def oIsi (T : String) : Op1 := fun d => if okTy d = true then some (.dat (.bool (isOf T d))) else none
section
variable {X : Cx} {W : Wish} {fa : Ex} {e : Expr} {p p2 pos : Pos}
theorem de_glob {x : Str} {v : V} {u : Value} {d : PyData} (hg : Gl X x) (hm : X.mg x = some u) (r : RelV v u) (hd : ∀ HF, DR X.K HF v d) (hdb : (x == ("__debug__" : Str)) = false := by decide) : DE X W (.Name x p) (cC d) :=
  de_const (pe_glob hg hm r hdb) hd
end
theorem DR.ratK {K : PySem.W.Frag} {a : Addr} {od : Option Addr} {i j : Int} {t u : Tok} {n : Nat} {sl : Array (Option Value)} (h : K.lookup a = some ⟨.type "tuple", od, .seq #[.int i t, .int j u] n, sl⟩) (HF : Hp) : DR K HF (.ref a) (.tuple [.int i, .int j]) :=
  .tup (xs := [.int i, .int j]) (.inr ⟨_, #[.int i t, .int j u], n, h, rfl, rfl, by show 2 ≤ sizeLine; decide, .cons ⟨t, rfl⟩ (.cons ⟨u, rfl⟩ .nil)⟩) (.cons (.int i) (.cons (.int j) .nil))
def Feed.get (f : Feed) (k : Str) : Option RV :=
  if k = "turn" then some (.dat (.int f.turn)) else if k = "at" then some (.dat (.int f.spot)) else if k = "left" then some (.dat (.int f.left)) else if k = "cells" then some (.dat (.list (f.cells.map .int))) else none
def Feed.put (f : Feed) (k : Str) (i : Int) : Option Feed :=
  if k = "turn" then some { f with turn := i } else if k = "at" then some { f with spot := i } else if k = "left" then some { f with left := i } else none
def cFeed (k : Str) (e : Ex) : Ex := fun ρ f => (e ρ f).bind fun rv f1 => match rv with
  | .feed => give (f1.get k) f1
  | _ => .no
theorem kne {a b : Str} (h : ¬ a = b) : ¬ (Sum.inr a : Key) = Sum.inr b := fun e => h (Sum.inr.inj e)
theorem feed_at {g : Gh} {H HF : Hp} {f : Feed} (h : FeedAt g H HF f) : DGet H g.fa (.str "turn") (some (.int f.turn)) ∧ DGet H g.fa (.str "at") (some (.int f.spot)) ∧ DGet H g.fa (.str "left") (some (.int f.left)) ∧ DGet H g.fa (.str "cells") (some (.ref g.ca)) := by
  refine ⟨.inl ⟨_, Sum.inr "turn", .inl h.d, rfl, ?_⟩, .inl ⟨_, Sum.inr "at", .inl h.d, rfl, ?_⟩, .inl ⟨_, Sum.inr "left", .inl h.d, rfl, ?_⟩, .inl ⟨_, Sum.inr "cells", .inl h.d, rfl, ?_⟩⟩
  · rw [valV_neg (kne (a := "cells") (b := "turn") (by decide)), valV_neg (kne (a := "at") (b := "turn") (by decide)), valV_neg (kne (a := "left") (b := "turn") (by decide)), valV_pos rfl]
  · rw [valV_neg (kne (a := "cells") (b := "at") (by decide)), valV_pos rfl]
  · rw [valV_neg (kne (a := "cells") (b := "left") (by decide)), valV_neg (kne (a := "at") (b := "left") (by decide)), valV_pos rfl]
  · rw [valV_pos rfl]
theorem feed_get {K : PySem.W.Frag} {g : Gh} {H HF : Hp} {f : Feed} {k : Str} {rv : RV} (h : FeedAt g H HF f) (e : f.get k = some rv) : ∃ v d, rv = .dat d ∧ DGet H g.fa (.str k) (some v) ∧ DR K HF v d := by
  obtain ⟨h1, h2, h3, h4⟩ := feed_at h
  unfold Feed.get at e
  split at e
  · rename_i c
    cases e
    subst c
    exact ⟨_, _, rfl, h1, .int _⟩
  · split at e
    · rename_i c
      cases e
      subst c
      exact ⟨_, _, rfl, h2, .int _⟩
    · split at e
      · rename_i c
        cases e
        subst c
        exact ⟨_, _, rfl, h3, .int _⟩
      · split at e
        · rename_i c
          cases e
          subst c
          exact ⟨_, _, rfl, h4, .lst h.c (DRs.ints _)⟩
        · cases e
theorem feed_put {g : Gh} {H HF : Hp} {f f2 : Feed} {k : Str} {i : Int} (h : FeedAt g H HF f) (e : f.put k i = some f2) : DPut H g.fa (.str k) (.int i) (upd H g.fa (feedO g f2)) := by
  have go : ∀ kvs : List (Key × V), putK [((Sum.inr "cells" : Key), V.ref g.ca), (Sum.inr "at", .int f.spot), (Sum.inr "left", .int f.left), (Sum.inr "turn", .int f.turn)] (Sum.inr k) (.int i) = kvs → feedO g f2 = .dK kvs → DPut H g.fa (.str k) (.int i) (upd H g.fa (feedO g f2)) := fun kvs e1 e2 => by
    rw [e2]
    subst e1
    exact .inl ⟨_, Sum.inr k, h.d, rfl, by show 4 < sizeLine; decide, rfl⟩
  unfold Feed.put at e
  split at e
  · rename_i c
    cases e
    subst c
    exact go _ rfl rfl
  · split at e
    · rename_i c
      cases e
      subst c
      exact go _ rfl rfl
    · split at e
      · rename_i c
        cases e
        subst c
        exact go _ rfl rfl
      · cases e
theorem feed_read {K : PySem.W.Frag} {mg : Str → Option Value} {W : Wish} {k : Str} {x : Ex} {σ : St} {H : Hp} {Q : VK} (h : tD K mg W (cFeed k x) σ H Q) : tDGet (tD K mg W x) (tC (.str k)) σ H Q := by
  obtain ⟨g, HF, ρ, f, rel, q⟩ := h
  refine tD_bind rel q fun rv f1 v G GF r1 s1 rr q1 => ?_
  cases rv with
  | feed =>
    obtain ⟨rv2, z, k2⟩ := give_end r1.feed s1 q1
    obtain ⟨u, d, rfl, dg, dr⟩ := feed_get (K := K) r1.feed z
    exact ⟨g.fa, u, rr, dg, k2.now ⟨r1.sub, r1.feed⟩ dr⟩
  | _ => exact (show False from q1).elim
theorem de_feed {X : Cx} {W : Wish} {o : Expr} {x : Ex} {k : Str} {j : Nat} {kp pos : Pos} (hu : X.A.units + 1 < cLine) (ho : DE X W o x) (hs : NoSl (.Constant (.str k) j kp)) : DE X W (.Subscript o (.Constant (.str k) j kp) pos) (cFeed k x) :=
  pe_mono (pe_dget hu ho pe_str hs) fun _ _ _ h => feed_read h
/-- feed[k] = e -/
def sFeed (k : Str) (o e : Ex) : Sm := fun ρ f => pk (e ρ f) fun d f1 => (o ρ f1).bind fun rv f2 => match d, rv with
  | .int i, .feed => match f2.put k i with
    | some f3 => .ok (.nx ρ) f3
    | none => .no
  | _, _ => .no
theorem Feed.put_cells {f f2 : Feed} {k : Str} {i : Int} (e : f.put k i = some f2) : f2.cells = f.cells := by
  unfold Feed.put at e
  split at e
  · cases e; rfl
  · split at e
    · cases e; rfl
    · split at e
      · cases e; rfl
      · cases e
theorem fput_read {K : PySem.W.Frag} {mg : Str → Option Value} {E : XK} {k : Str} {x o : Ex} {D : Ends} {σ : St} {H : Hp} (h : tDS K mg E (sFeed k o x) D σ H) : sDPut (tD K mg (fun _ => E) o) (tC (.str k)) (tD K mg (fun _ => E) x) D σ H := by
  obtain ⟨g, HF, ρ, f, rel, q⟩ := h
  refine tD_Spk rel q fun d f1 v G GF r1 s1 t1 q1 => tD_S r1 q1 fun rv f2 w I IF r2 s2 rr q2 => ?_
  cases d <;> try exact (show False from q2).elim
  rename_i i
  cases rv with
  | feed =>
    simp only at q2
    cases z : f2.put k i with
    | none =>
      simp only [z] at q2
      exact (show False from q2).elim
    | some f3 =>
      simp only [z] at q2
      have ev := t1.int
      subst ev
      refine ⟨g.fa, _, rr, feed_put r2.feed z, (show FinS K g D (.nx ρ) f3 from q2) σ _ IF ⟨fun a y e => ?_, ⟨upd_same, r2.feed.nf, ?_⟩, fun a y na e => ?_, r2.le, r2.new, r2.len, fun j s e => ?_, r2.sep, r2.sepD, r2.bd.to (fun i dss e => ⟨⟨dss, e⟩, rfl⟩) (fun j ds e => ⟨⟨ds, e⟩, rfl⟩) fun a dss p2 qs e1 e2 e3 => by
        obtain ⟨p3, q3, z1, z2⟩ := r2.slot a _ e1
        rw [e2] at z1
        cases z1
        rw [upd_ne (ne_fa r2.feed z2.1)] at e3
        exact e3⟩⟩
      · rw [upd_ne (ne_of_none e r2.feed.nf)]
        exact r2.sub a y e
      · rw [Feed.put_cells z]
        exact r2.feed.c
      · rw [upd_ne na]
        exact r2.ext a y na e
      · have kk := r2.slot j s e
        cases s with
        | emp => trivial
        | dat d => exact kk
        | own ds =>
          obtain ⟨p, vs, z1, z2, z3, z4, z5⟩ := kk
          exact ⟨p, vs, z1, z2, z3, by rw [upd_ne (ne_fa r2.feed z4)]; exact z4, z5⟩
        | feed => exact kk
        | scr ns => exact kk
        | dct q =>
          obtain ⟨p, z1, z2, z3, z4⟩ := kk
          exact ⟨p, z1, z2, z3, z4.mono (fun o e => by rw [upd_ne (z4.ne r2.feed)]; exact e) (Le.refl _)⟩
        | key ks => exact kk
        | brd dss =>
          obtain ⟨p, qs, z1, z2⟩ := kk
          exact ⟨p, qs, z1, z2.upd (fun m => by
            obtain ⟨us, z⟩ := z2.live m
            exact ne_fa r2.feed z rfl)⟩
  | _ => exact (show False from q2).elim
theorem ds_feed {X : Cx} {E : XK} {o e : Expr} {x y : Ex} {k : Str} {j : Nat} {kp pos pos2 : Pos} (hu : X.A.units + 1 < cLine) (ho : DE X (fun _ => E) o x) (he : DE X (fun _ => E) e y)
    (hs : swapsWith e (some (.Subscript o (.Constant (.str k) j kp) pos2)) pos.line X.env = pure false := by rfl) : DS X E (.Assign [.Subscript o (.Constant (.str k) j kp) pos2] e pos) (sFeed k x y) :=
  ps_mono (ps_dput hu ho pe_str he hs) fun _ _ _ h => fput_read h
end Dn
end
section
set_option maxHeartbeats 4000000
namespace Dn
open PySem PySem.Spec L2
def spFeed (K : PySem.W.Frag) : Sp := fun vs H Q _ => ∃ (a : Addr) (ns : List Int), vs = [.ref a] ∧ SqL K H a (ns.map V.int) ∧ ns.length ≤ 63 ∧
  ∀ (fa ca : Addr) (G : Hp), Le H G → fa ≠ ca → G fa = some (.dK [(Sum.inr "cells", .ref ca), (Sum.inr "at", .int 0), (Sum.inr "left", .int 0), (Sum.inr "turn", .int 0)]) → G ca = some (.lst (ns.map V.int)) → Q (.ref fa) G
theorem le_new {H : Hp} {p : Addr} {o : HO} (h : H p = none) : Le H (upd H p o) := fun a x e => by
  rw [upd_ne (ne_of_none e h)]
  exact e
theorem cut63 {ns : List Int} (h : ns.length ≤ 63) : cutV (ns.map V.int) none (some 63) = ns.map V.int := by
  unfold cutV
  rw [HT.sIx_none]
  have e : HT.sIx (ns.map V.int).length (ns.map V.int).length (some 63) = (ns.map V.int).length := by
    have := HT.sIx_nat (ns.map V.int).length (ns.map V.int).length 63
    rw [show ((63 : Nat) : Int) = 63 from rfl] at this
    rw [this, List.length_map]
    omega
  rw [e, Nat.sub_zero, List.drop_zero, List.take_length]
theorem feed_made {K : PySem.W.Frag} {vs : List V} {H : Hp} {Q : VK} {E : XK} (h : spFeed K vs H Q E) :
    tRet (tDisp [(tC (.str "cells"), tCB (fun xs H Q => ∃ p ys, xs = [.ref p] ∧ (SqL K H p ys ∨ SqT K H p ys) ∧ ∀ l, H l = none → Q (.ref l) (upd H l (.lst ys))) (tCons (tSl (rSlL K) (tVar 0) tNoPart (tPart (tC (.int 63)))) tNil)),
      (tC (.str "at"), tC (.int 0)), (tC (.str "left"), tC (.int 0)), (tC (.str "turn"), tC (.int 0))]) { nx := fun _ G => Q .non G, rt := Q } (L2.start ["_law_script"] vs) H := by
  obtain ⟨a, ns, rfl, hs, hl, q⟩ := h
  intro p hp
  have l1 : Le H (upd H p (.dK [])) := le_new hp
  have hs1 : SqL K (upd H p (.dK [])) a (ns.map V.int) := by
    rcases hs with (h | ⟨o, h⟩) | h
    · exact .inl (.inl (l1 _ _ h))
    · exact .inl (.inr ⟨o, l1 _ _ h⟩)
    · exact .inr h
  refine ⟨.ref a, rfl, 63, rfl, a, ns.map V.int, rfl, hs1, fun c hc => ⟨c, _, rfl, .inl (.inl (.inl upd_same)), fun l hl2 => ?_⟩⟩
  rw [cut63 hl] at hl2 ⊢
  have l2 := le_new (o := .lst (ns.map V.int)) hc
  have l3 := le_new (o := .lst (ns.map V.int)) hl2
  have ep := l3 _ _ (l2 _ _ (upd_same (H := H) (a := p) (o := .dK [])))
  have npl : p ≠ l := fun z => by
    have e2 := l2 _ _ (upd_same (H := H) (a := p) (o := .dK []))
    exact ne_of_none e2 hl2 z
  refine ⟨ep, [(Sum.inr "cells", .ref l), (Sum.inr "at", .int 0), (Sum.inr "left", .int 0), (Sum.inr "turn", .int 0)], rfl, by show 4 ≤ 15; decide, ?_⟩
  have em : mergeK [] [((Sum.inr "cells" : Key), V.ref l), (Sum.inr "at", .int 0), (Sum.inr "left", .int 0), (Sum.inr "turn", .int 0)] = [((Sum.inr "cells" : Key), V.ref l), (Sum.inr "at", .int 0), (Sum.inr "left", .int 0), (Sum.inr "turn", .int 0)] := rfl
  rw [em]
  refine q p l _ (fun x o e => ?_) npl upd_same ?_
  · have e2 := l3 _ _ (l2 _ _ (l1 _ _ e))
    rw [upd_ne (ne_of_none e hp)]
    exact e2
  · rw [upd_ne npl.symm]
    exact upd_same
def spLaw (K : PySem.W.Frag) : Sp := fun vs H Q _ => ∃ (a : Addr) (ns : List Int), vs = [.ref a] ∧ SqL K H a (ns.map V.int) ∧ ns.length ≤ 63 ∧ ∀ G, Q (.bl true) G
def feed0 (ns : List Int) : Feed := ⟨ns, 0, 0, 0⟩
theorem law_rest {K : PySem.W.Frag} {mg : Str → Option Value} {s : Sm} {n : Nat} {fa ca a : Addr} {ns : List Int} {H : Hp} {Q : VK} (N : List Str) (hN : N.length = n + 2) (hfc : fa ≠ ca)
    (h1 : H fa = some (.dK [(Sum.inr "cells", .ref ca), (Sum.inr "at", .int 0), (Sum.inr "left", .int 0), (Sum.inr "turn", .int 0)])) (h2 : H ca = some (.lst (ns.map V.int)))
    (fin : ∃ f, s (.emp :: .feed :: List.replicate n .emp) (feed0 ns) = .ok (.rt (.dat (.bool true))) f) (q : ∀ G, Q (.bl true) G) :
    tDS K mg (fun _ _ _ => False) s { nx := fun _ G => Q .non G, rt := Q } ((L2.start N [.ref a]).set 1 (some (.ref fa))) H := by
  obtain ⟨f, e⟩ := fin
  have hs : (L2.start N [.ref a]).set 1 (some (.ref fa)) = some (.ref a) :: some (.ref fa) :: List.replicate n none := by
    unfold L2.start
    rw [hN]
    rfl
  rw [hs]
  refine ⟨⟨fa, ca, H, fun b => if b = ca then H ca else none⟩, fun b => if b = ca then H ca else none, .emp :: .feed :: List.replicate n .emp, feed0 ns, ⟨fun b o z => ?_, ⟨h1, ?_, ?_⟩, fun _ _ _ z => z, Le.refl _, fun _ _ z => z, ?_, fun i x z => ?_, fun i j ds es z => ?_, fun i j ds es z => ?_, BdSep.noBd fun i ds z => ?_⟩, ?_⟩
  · by_cases c : b = ca
    · rw [if_pos c] at z
      rw [c]
      exact z
    · rw [if_neg c] at z
      cases z
  · exact if_neg hfc
  · show (if ca = ca then H ca else none) = _
    rw [if_pos rfl]
    exact h2
  · simp
  · match i, z with
    | 0, z => cases z; trivial
    | 1, z => cases z; rfl
    | i + 2, z =>
      have z2 : (List.replicate n Slot.emp)[i]? = some x := z
      rw [rep_get z2]
      trivial
  · match i, z with
    | 0, z => cases z
    | 1, z => cases z
    | i + 2, z =>
      have z2 : (List.replicate n Slot.emp)[i]? = some (.own ds) := z
      cases rep_get z2
  · match i, z with
    | 0, z => cases z
    | 1, z => cases z
    | i + 2, z =>
      have z2 : (List.replicate n Slot.emp)[i]? = some (.dct ds) := z
      cases rep_get z2
  · match i, z with
    | 0, z => cases z
    | 1, z => cases z
    | i + 2, z =>
      have z2 : (List.replicate n Slot.emp)[i]? = some (.brd ds) := z
      cases rep_get z2
  · rw [e]
    intro v G GF r
    cases (show DR K GF v (.bool true) from r.val)
    exact q G
section
variable {P : Program} {w : World} {K : PySem.W.Frag} {mg mb : Str → Option Value} {k : Nat} {fa a : Addr} {fd : FuncData} {x : Str} {s : Shared} {vs : List Value} {ns : List Int}
/-- the call of the law's def, at the heap behind the top -/
theorem law_go (KX : K.In s.heap) (hns : s.heap.Ns mainGlobals mg) (hb : s.heap.Ns builtinsNs mb) (hbb : ∀ x : Str, x ≠ "__name__" → mb x = bootBuiltins x) (hlim : s.heap.NoLimit) (hg : s.gens = #[])
    (ha : s.heap.get? a = some { cls := .type "list", data := .seq vs.toArray }) (hi : PyProof.Rows.IntsAre vs ns) (hl : ns.length ≤ 63) (hr : Room k callerA)
    (F : ∀ base : Heap, K.In base → base.Ns mainGlobals mg → FnG P w K mg base CX0 k fa fd [x] (spLaw K)) (bnd : ∀ (s : Shared) (u : Value), BindsTo s fd ⟨[u], []⟩ [(x, u)]) :
    codeAny (model P w) callerA (.call (.ref fa) ⟨[.ref a], []⟩) (fun r s2 => r = .ok (.ret (.bool true)) ∧ OldK s.heap s2.heap ∧ s2.os = s.os ∧ PyProof.Rows.AllBare s2.gens) s := by
  have rv := L2.vals_ints hi
  have go : ∀ H : Hp, Only H → SqL K H a (ns.map V.int) → HOk P w H s.heap → (∀ b, H b ≠ none → b = a ∧ K.lookup a = none) →
      codeAny (model P w) callerA (.call (.ref fa) ⟨[.ref a], []⟩) (fun r s2 => r = .ok (.ret (.bool true)) ∧ OldK s.heap s2.heap ∧ s2.os = s.os ∧ PyProof.Rows.AllBare s2.gens) s := by
    intro H hO hS hok hA
    have nodict : ∀ {b : Addr} {o : Obj} {es : Array DictEntry} {ep : Nat}, s.heap.get? b = some o → o.data = .dict es ep → H b = none := by
      intro b o es ep e d
      cases q : H b with
      | none => rfl
      | some u =>
        obtain ⟨e2, _⟩ := hA b (by rw [q]; exact Option.some_ne_none _)
        subst e2
        rw [ha] at e
        cases e
        cases (show Data.seq vs.toArray _ = Data.dict es ep from d)
    have nsB : ∀ {b : Addr} {m : Str → Option Value}, s.heap.Ns b m → (hidT s.heap H).Ns b m := by
      rintro b m ⟨o, es, ep, e, d, r⟩
      exact ⟨o, es, ep, hidT_get e (nodict e d), d, r⟩
    have KB : K.In (hidT s.heap H) := by
      intro b o e
      refine hidT_get (KX b o e) ?_
      cases q : H b with
      | none => rfl
      | some u =>
        obtain ⟨e2, e3⟩ := hA b (by rw [q]; exact Option.some_ne_none _)
        subst e2
        rw [e3] at e
        cases e
    obtain ⟨mc, n1, n2⟩ := hlim
    have env : Env0 P w K mg (hidT s.heap H) callerA [] s H := {
      frames := rfl
      mod := ⟨KB, nsB hns, ⟨mb, nsB hb, hbb⟩, ⟨mc, nsB n1, n2⟩⟩
      bs := fun b o e => of_hidT e
      bsz := Nat.le_of_eq (hidT_size _ _)
      funs := trivial
      frf := fun b hb => by cases (show b ∈ ([] : List Addr) from hb)
      hok := hok
      bare := .of_eq hg }
    refine codeAny_mono ((F _ KB (nsB hns)).go callerA [] s H ⟨[.ref a], []⟩ [.ref a] [.ref a] (fun v _ => v = .bl true) (fun _ _ _ => False) rfl hr env (bnd s (.ref a)) (.cons rfl .nil) ⟨a, ns, rfl, hS, hl, fun _ => rfl⟩) ?_
    intro r s2 h
    cases r with
    | error e => exact (show False from h).elim
    | ok fl =>
      cases fl with
      | next => exact (show False from h).elim
      | brk => exact (show False from h).elim
      | cont => exact (show False from h).elim
      | ret u =>
        obtain ⟨v, G, os, bare, un, hok2, r2, q⟩ := h
        obtain rfl : v = .bl true := q
        obtain rfl : u = Value.bool true := r2
        refine ⟨rfl, OldK.of_keep ?_, os, bare⟩
        intro b o e
        cases q : H b with
        | none => exact un.keep b o e q (fun z => by cases (show b ∈ ([] : List Addr) from z)) (fun z => by cases z)
        | some u =>
          rcases hO b with z | ⟨ob, xs, z⟩
          · rw [q] at z
            cases z
          · have e1 := (hok b _ z).1
            have e2 := (hok2 b _ (un.frzs b ob _ z)).1
            rw [e] at e1
            cases e1
            exact e2
  cases hk : K.lookup a with
  | some o =>
    have e := KX a o hk
    rw [ha] at e
    cases e
    refine go (fun _ => none) (fun _ => .inl rfl) (.inr ⟨_, vs.toArray, _, hk, rfl, rfl, rfl, ?_, rv⟩) (fun b u z => by cases z) (fun b z => absurd rfl z)
    rw [List.size_toArray, hi.length]
    exact Nat.le_trans hl (by decide)
  | none =>
    let o : Obj := { cls := .type "list", data := .seq vs.toArray }
    refine go (fun b => if b = a then some (.frz o (.lst (ns.map V.int))) else none) (fun b => ?_) (.inl (.inr ⟨o, if_pos rfl⟩)) (fun b u z => ?_) (fun b z => ?_)
    · by_cases c : b = a
      · exact .inr ⟨_, _, if_pos c⟩
      · exact .inl (if_neg c)
    · by_cases c : b = a
      · subst c
        replace z : (if b = b then some (HO.frz o (.lst (ns.map V.int))) else none) = some u := z
        rw [if_pos rfl] at z
        cases z
        exact ⟨ha, by rw [List.length_map]; exact Nat.le_trans hl (by decide), vs, _, rv, ha⟩
      · replace z : (if b = a then some (HO.frz o (.lst (ns.map V.int))) else none) = some u := z
        rw [if_neg c] at z
        cases z
    · by_cases c : b = a
      · exact ⟨c, hk⟩
      · exact absurd (if_neg c) z
end
/-- what k_head leaves -/
theorem walkG {l : PySem.W.OpenLaw} {k : Nat} {q : Program} {loose : List Str} {XP : (Str → Option Value) → Heap → Prop} {YP : World → Heap → Prop} {d : DefRec} {K : Params → PySem.W.Frag} {x : Str}
    (hn : l.most = some 63) (hdf : d.params.defaults = []) (hr : Room k callerA) (hY : ∀ (w : World) (h : Heap), YP w h → (K w.params).In h)
    (F : ∀ (w : World) (mg : Str → Option Value) (fa : Addr) (h : Heap), (K w.params).In h → h.Ns mainGlobals mg → mg d.name = some (.ref fa) →
      ∃ fd : FuncData, (∀ (s : Shared) (u : Value), BindsTo s fd ⟨[u], []⟩ [(x, u)]) ∧
        ∀ base : Heap, (K w.params).In base → base.Ns mainGlobals mg → FnG l.prog w (K w.params) mg base CX0 k fa fd [x] (spLaw (K w.params))) :
    PySem.W.WalkO q loose XP YP l.row.toRowW d [] (fun f vs => PySem.call f vs) := by
  refine Att.attach_call hn hdf ?_
  intro w s0 s1 mg mb fa o pm cd doc a vs ns G Y ho hd hcd hmg hobj hints hlen hg
  obtain ⟨fd, hb, hF⟩ := F w mg fa _ (hY w _ Y) G.T.g hmg
  exact law_go (hY w _ Y) G.T.g G.T.b G.T.builtins G.T.nolimit hg hobj hints hlen hr hF hb
end Dn
end
section
set_option maxHeartbeats 4000000
namespace Dn
open PySem PySem.Spec L2
section
variable {X : Cx} {W : Wish} {a b : Expr} {fa fb : Ex} {pos : Pos}
theorem de_add (ha : DE X W a fa) (hb : DE X W b fb) : DE X W (.BinOp a .Add b pos) (cBin oAdd fa fb) := de_bin (op_add.or (op_cat.or (op_catA.or op_add_str))) (intsI_ok.or (catL_ok.or (catT_ok.or catS_ok))) ha hb
theorem de_sub (ha : DE X W a fa) (hb : DE X W b fb) : DE X W (.BinOp a .Sub b pos) (cBin oSub fa fb) := de_bin op_sub intsI_ok ha hb
theorem mulC_of {i j : Int} (h : mulC i j = true) : CMulW i j := show i.natAbs.log2 + j.natAbs.log2 < 1000000 from of_decide_eq_true h
theorem divC_of {i j : Int} (h : divC i j = true) : CDivW i j := by
  obtain ⟨h1, h2⟩ := Bool.and_eq_true_iff.mp h
  exact ⟨of_decide_eq_true h1, of_decide_eq_true h2⟩
theorem powC_of {i j : Int} (h : powC i j = true) : CPow i j := by
  obtain ⟨h1, h2⟩ := Bool.and_eq_true_iff.mp h
  obtain ⟨h3, h4⟩ := Bool.and_eq_true_iff.mp h1
  exact ⟨of_decide_eq_true h3, of_decide_eq_true h4, of_decide_eq_true h2⟩
theorem de_mul (ha : DE X W a fa) (hb : DE X W b fb) : DE X W (.BinOp a .Mult b pos) (cBin oMul fa fb) := de_bin (op_mulW.or (op_rep.or op_repA)) ((intsOp_ok fun _ _ => mulC_of).or (repL_ok.or repT_ok)) ha hb
theorem de_fdiv (ha : DE X W a fa) (hb : DE X W b fb) : DE X W (.BinOp a .FloorDiv b pos) (cBin oDiv fa fb) := de_bin op_fdivW (intsOp_ok fun _ _ => divC_of) ha hb
theorem de_mod (ha : DE X W a fa) (hb : DE X W b fb) : DE X W (.BinOp a .Mod b pos) (cBin oMod fa fb) := de_bin op_mod (intsOp_ok fun _ _ h => of_decide_eq_true h) ha hb
theorem de_pow (ha : DE X W a fa) (hb : DE X W b fb) : DE X W (.BinOp a .Pow b pos) (cBin oPow fa fb) := de_bin op_pow (intsOp_ok fun _ _ => powC_of) ha hb
theorem de_neg (ha : DE X W a fa) : DE X W (.UnaryOp .USub a pos) (cUn oNeg fa) := de_un un_neg oNeg_ok ha
theorem op_eqA (hu : X.A.units + 64 < cLine) : OpR X (compareOp .Eq) (fun x y H Q => rEq x y H Q ∨ rEqD X.K x y H Q) := op_eq.or (op_eqD hu)
theorem op_neA (hu : X.A.units + 64 < cLine) : OpR X (compareOp .NotEq) (fun x y H Q => rNe x y H Q ∨ rNeD X.K x y H Q) := op_ne.or (op_neD hu)
theorem de_gt (ha : DE X W a fa) (hb : DE X W b fb) : DE X W (.Compare a [.Gt] [b] pos) (cBin oGt fa fb) := de_cmp op_gt intsB_ok ha hb (nomark _)
theorem de_in (ha : DE X W a fa) (hb : DE X W b fb) (hm : behindInMarks .In b = false := by rfl) : DE X W (.Compare a [.In] [b] pos) (cBin (oInF false) fa fb) := de_cmp op_in_seq oInF_ok ha hb hm
theorem de_nin (ha : DE X W a fa) (hb : DE X W b fb) (hm : behindInMarks .NotIn b = false := by rfl) : DE X W (.Compare a [.NotIn] [b] pos) (cBin (oInF true) fa fb) := de_cmp op_notIn_seq oInF_ok ha hb hm
theorem dt_eq (hu : X.A.units + 64 < cLine) (ha : DE X W a fa) (hb : DE X W b fb) : DT X W (.Compare a [.Eq] [b] pos) (cT (cBin oEq fa fb)) := dt_cmp (op_eqA hu) oEq_ok ha hb (nomark _)
theorem dt_ne (hu : X.A.units + 64 < cLine) (ha : DE X W a fa) (hb : DE X W b fb) : DT X W (.Compare a [.NotEq] [b] pos) (cT (cBin oNe fa fb)) := dt_cmp (op_neA hu) oNe_ok ha hb (nomark _)
theorem dt_lt (ha : DE X W a fa) (hb : DE X W b fb) : DT X W (.Compare a [.Lt] [b] pos) (cT (cBin oLt fa fb)) := dt_cmp op_lt intsB_ok ha hb (nomark _)
theorem dt_gt (ha : DE X W a fa) (hb : DE X W b fb) : DT X W (.Compare a [.Gt] [b] pos) (cT (cBin oGt fa fb)) := dt_cmp op_gt intsB_ok ha hb (nomark _)
theorem dt_ge (ha : DE X W a fa) (hb : DE X W b fb) : DT X W (.Compare a [.GtE] [b] pos) (cT (cBin oGe fa fb)) := dt_cmp op_ge intsB_ok ha hb (nomark _)
theorem dt_nin (ha : DE X W a fa) (hb : DE X W b fb) (hm : behindInMarks .NotIn b = false := by rfl) : DT X W (.Compare a [.NotIn] [b] pos) (cT (cBin (oInF true) fa fb)) := dt_cmp op_notIn_seq oInF_ok ha hb hm
theorem dt_isN (ha : DE X W a fa) {j p2} : DT X W (.Compare a [.Is] [.Constant .none j p2] pos) (cT (cBin (oIsN false) fa (cC .none))) := dt_cmp op_isN isN_ok ha de_non (nomark _)
theorem dt_notN (ha : DE X W a fa) {j p2} : DT X W (.Compare a [.IsNot] [.Constant .none j p2] pos) (cT (cBin (oIsN true) fa (cC .none))) := dt_cmp op_notN notN_ok ha de_non (nomark _)
end
section
variable {X : Cx} {W : Wish} {a b : Expr} {fa fb : Ex} {p pos : Pos}
theorem de_abs (hg : Gl X "abs") (hm : X.mg "abs" = none) (ha : DE X W a fa) (he : starEach [a] X.env = (false, eval a X.env) :: starEach [] X.env := by rfl) : DE X W (.Call (.Name "abs" p) [a] [] pos) (cUn oAbs fa) :=
  de_call1 call_abs oAbs_ok hg hm (by decide +kernel) ha (by decide) (by decide) he
theorem de_len (hg : Gl X "len") (hm : X.mg "len" = none) (ha : DE X W a fa) (he : starEach [a] X.env = (false, eval a X.env) :: starEach [] X.env := by rfl) : DE X W (.Call (.Name "len" p) [a] [] pos) (cUn oLen fa) :=
  de_call1 call_len_seq oLen_ok hg hm (by decide +kernel) ha (by decide) (by decide) he
theorem de_sum (hc : X.calm = true) (hg : Gl X "sum") (hm : X.mg "sum" = none) (ha : DE X W a fa) (he : starEach [a] X.env = (false, eval a X.env) :: starEach [] X.env := by rfl) : DE X W (.Call (.Name "sum" p) [a] [] pos) (cUn oSum fa) :=
  de_call1 (cr_sum hc) oSum_ok hg hm (by decide +kernel) ha (by decide) (by decide) he
theorem de_repr (gd : X.A.guards = some []) (hu : X.A.units + 64 < cLine) (hg : Gl X "repr") (hm : X.mg "repr" = none) (ha : DE X W a fa) (he : starEach [a] X.env = (false, eval a X.env) :: starEach [] X.env := by rfl) : DE X W (.Call (.Name "repr" p) [a] [] pos) (cUn oRepr fa) :=
  de_call1 (call_repr gd hu) oRepr_ok hg hm (by decide +kernel) ha (by decide) (by decide) he
theorem de_int1 (hg : Gl X "int") (hm : X.mg "int" = none) (ha : DE X W a fa) (he : starEach [a] X.env = (false, eval a X.env) :: starEach [] X.env := by rfl) : DE X W (.Call (.Name "int" p) [a] [] pos) (cUn oInt fa) :=
  de_callTy1 call_int1 oInt_ok hg hm (by decide +kernel) ha (by decide) (by decide) he
theorem de_tuple (hg : Gl X "tuple") (hm : X.mg "tuple" = none) (ha : DE X W a fa) (he : starEach [a] X.env = (false, eval a X.env) :: starEach [] X.env := by rfl) : DE X W (.Call (.Name "tuple" p) [a] [] pos) (cUn oTuple fa) :=
  de_callTy1 call_tuple_of oTuple_ok hg hm (by decide +kernel) ha (by decide) (by decide) he
theorem de_min2 (hc : X.calm = true) (hg : Gl X "min") (hm : X.mg "min" = none) (ha : DE X W a fa) (hb : DE X W b fb) (he : starEach [a, b] X.env = (false, eval a X.env) :: starEach [b] X.env := by rfl)
    (he2 : starEach [b] X.env = (false, eval b X.env) :: starEach [] X.env := by rfl) (hpl : (backTo pos (starEach [b] X.env)).any (·.1) = false := by rfl) : DE X W (.Call (.Name "min" p) [a, b] [] pos) (cBin oMin fa fb) :=
  de_call2 (call_min2 hc) oMin_ok hg hm (by decide +kernel) ha hb (by decide) (by decide) he he2 hpl
end
def boolsOf : List PyData → Option (List Bool)
  | [] => some []
  | .bool b :: r => (boolsOf r).map (b :: ·)
  | _ :: _ => none
theorem boolsOf_some : ∀ {ds : List PyData} {bs : List Bool}, boolsOf ds = some bs → ds = bs.map PyData.bool
  | [], bs, h => by cases h; rfl
  | d :: r, bs, h => by
    cases d <;> try cases h
    rename_i b
    cases q : boolsOf r with
    | none =>
      simp only [boolsOf, q] at h
      cases h
    | some ms =>
      simp only [boolsOf, q] at h
      cases h
      rw [List.map_cons, ← boolsOf_some q]
theorem DRs.toBools {K : PySem.W.Frag} {H : Hp} : ∀ {bs : List Bool} {vs : List V}, DRs K H vs (bs.map PyData.bool) → vs = bs.map V.bl
  | [], _, .nil => rfl
  | b :: r, _, .cons h t => by
    cases h
    rw [List.map_cons, ← DRs.toBools t]
def oAll : Op1 := fun d => match d with
  | .list xs => (boolsOf xs).map fun bs => .dat (.bool (bs.all id))
  | _ => none
theorem oAll_ok {K : PySem.W.Frag} : UnOk K (fun v H Q => rAll K [v] H Q) oAll := fun g H HF f x d rv a t z Q k => by
  cases d <;> try cases z
  rename_i xs
  unfold oAll at z
  cases q : boolsOf xs with
  | none => simp only [q] at z; cases z
  | some bs =>
    simp only [q] at z
    cases z
    have e1 := boolsOf_some q
    subst e1
    obtain ⟨p, vs, rfl, hp, rp⟩ := t.lst a.sub
    have v1 := rp.toBools
    subst v1
    exact ⟨p, bs, rfl, .inl (.inl hp), k.now a (.bl _)⟩
theorem de_all {X : Cx} {W : Wish} {a : Expr} {fa : Ex} {p pos : Pos} (hc : X.calm = true) (hg : Gl X "all") (hm : X.mg "all" = none) (ha : DE X W a fa) (he : starEach [a] X.env = (false, eval a X.env) :: starEach [] X.env := by rfl) : DE X W (.Call (.Name "all" p) [a] [] pos) (cUn oAll fa) :=
  de_call1 (cr_all hc) oAll_ok hg hm (by decide +kernel) ha (by decide) (by decide) he
section
variable {X : Cx} {es : List Expr} {l : List Nat} {i : Nat} {y : Str} {pos : Pos}
abbrev DG (X : Cx) (tg : Expr) (T : Tgt) : Prop := PG X tg (T.rd X.K)
theorem dg_one (hN : X.N.Nodup) (hi : X.N[i]? = some y) (hx : Loc X.env.scope y) (hf : X.fn y = true ∨ X.env.scope.names.lookup y = some .local := by first | exact .inl rfl | exact .inr rfl | assumption) : DG X (.Name y pos) (.one i) := pg_name hN hi hx hf
theorem dga_nil : PGs X [] (gAll []) := pgs_nil
theorem dga_cons {e : Expr} (h : PG X e (gName i)) (h2 : PGs X es (gAll l)) (hs : (assignEach (e :: es) X.env).map (·.2) = assign e X.env :: (assignEach es X.env).map (·.2) := by rfl) : PGs X (e :: es) (gAll (i :: l)) := pgs_cons h h2 hs
theorem dg_many {k : Nat} (hc : X.calm = true) (h : PGs X es (gAll l)) (hn : (assignEach es X.env).length = l.length := by rfl) (hst : (assignEach es X.env).findIdx? (·.1) = none := by rfl) : DG X (.Tuple es k pos) (.many l) := pg_tup hc h hn hst
end
def Has (P : Program) (w : World) (K : PySem.W.Frag) (mg : Str → Option Value) (base : Heap) (k : Nat) (x : Str) (ps : List Str) (F : Fn) : Prop :=
  ∃ f fd, mg x = some (.ref f) ∧ PySem.W.keepIn K (.ref f) = true ∧ Binds K fd ps [] ∧ FnG P w K mg base CX0 k f fd ps (spD K mg ps.length F) ∧ ∀ as f c v f2, F as f ≠ .ex c v f2
/-- its text as it stands behind the top -/
structure Src (K : PySem.W.Frag) (mg : Str → Option Value) (x qual : Str) (st : Stmt) (ps : List Str) : Prop where
  src : ∃ f fd, mg x = some (.ref f) ∧ Fun K qual qual st f fd ∧ Binds K fd ps []
theorem has_mk {P : Program} {w : World} {K : PySem.W.Frag} {mg : Str → Option Value} {base : Heap} {x qual : Str} {st : Stmt} {N ps : List Str} {k : Nat} {s : Sm} (T : Src K mg x qual st ps) (S : FnScope N ps (defScope st))
    (body : ∀ (f : Addr) (cdv : Value) (A : Around) (outer : List Env) (s0 : Shared) (H : Hp) (E : XK), A.guards = some [] → Room k (A.deeper (PyProof.Rows.envOfC qual (defScope st) s0.heap.objs.size f cdv)) →
      DSs (cxOf CX0 P w K mg base N qual (defScope st) f cdv A outer s0 H E).nox (fun _ _ _ => False) (defBody st) s) : Has P w K mg base (k + 1) x ps (dBody N.length s) := by
  obtain ⟨f, fd, hm, F, hb⟩ := T.src
  exact ⟨f, fd, hm, F.kp, hb, fnD F S fun X _ _ _ _ _ _ ⟨cdv, A, outer, s0, H, E, gd, room, e⟩ => e ▸ body f cdv A outer s0 H E gd room, dBody_noex _ _⟩
theorem de_has {X : Cx} {W : Wish} {k : Nat} {x : Str} {ps : List Str} {F : Fn} {p pos : Pos} {e : Expr} {es : List Expr} {xs : List Ex} (h : Has X.prog X.w X.K X.mg X.base k x ps F) (gd : X.A.guards = some []) (hr : Room k X.A) (hg : Gl X x)
    (ha : DA X W (e :: es) xs) (hn : xs.length = ps.length := by rfl) (hdb : (x == ("__debug__" : Str)) = false := by decide) (he : starEach (e :: es) X.env = (false, eval e X.env) :: starEach es X.env := by rfl) (hpl : (backTo pos (starEach es X.env)).any (·.1) = false := by rfl) :
    DE X W (.Call (.Name x p) (e :: es) [] pos) (cCall F xs) := by
  obtain ⟨f, fd, hm, hk, hb, G, hno⟩ := h
  exact de_call G gd hr hg hm hk hb ha hno hn hdb he hpl
end Dn
end
section
set_option maxHeartbeats 4000000
namespace Dn
open PySem PySem.Spec L2
theorem hu1 {n : Nat} (h : n + 64 < cLine) : n + 1 < cLine := by omega
theorem src_mk {K : PySem.W.Frag} {h : Heap} {mg : Str → Option Value} {x qual : Str} {st : Stmt} {ps : List Str} {f : Addr} {od an : Option Addr} {sl : Array (Option Value)} {oc kV dc pm cd ct : Value} (X : K.In h) (G : h.Ns mainGlobals mg)
    (a1 : PySem.W.nsIn K mainGlobals x = some (some (.ref f))) (l1 : K.lookup f = some ⟨oc, od, .func (PySem.W.fnOf qual qual (defArgs st) (defBody st) (defScope st) .none kV dc pm an cd ct), sl⟩) (c1 : PySem.W.codeIn K cd qual = true) (k1 : PySem.W.keepIn K (.ref f) = true)
    (hb : ∀ (kV doc pm : Value) (an : Option Addr) (cdv ct : Value) (us : List Value), us.length = ps.length → bindArgs (PySem.W.fnOf qual qual (defArgs st) (defBody st) (defScope st) .none kV doc pm an cdv ct) ⟨us, []⟩ = pure (ps.zip us)) : Src K mg x qual st ps :=
  ⟨⟨f, _, PySem.W.mg_of X G a1, fun_mk l1 c1 k1, (fun_mk l1 c1 k1).binds hb⟩⟩
theorem rat_mk {K : PySem.W.Frag} {h : Heap} {mg : Str → Option Value} {x : Str} {a : Addr} {od : Option Addr} {i j : Int} {t u : Tok} {n : Nat} {sl : Array (Option Value)} (X : K.In h) (G : h.Ns mainGlobals mg) (e : PySem.W.nsIn K mainGlobals x = some (some (.ref a))) (l : K.lookup a = some ⟨.type "tuple", od, .seq #[.int i t, .int j u] n, sl⟩) :
    ∃ a, mg x = some (.ref a) ∧ ∀ HF, DR K HF (.ref a) (.tuple [.int i, .int j]) := ⟨a, PySem.W.mg_of X G e, DR.ratK l⟩
theorem int_mk {K : PySem.W.Frag} {h : Heap} {mg : Str → Option Value} {x : Str} {i : Int} {t : Tok} (X : K.In h) (G : h.Ns mainGlobals mg) (e : PySem.W.nsIn K mainGlobals x = some (some (.int i t))) : ∃ t, mg x = some (.int i t) := ⟨t, PySem.W.mg_of X G e⟩
end Dn
end
section
set_option maxHeartbeats 4000000
namespace Dn
open PySem PySem.Spec L2
section
variable {X : Cx} {W : Wish} {a b : Expr} {fa fb : Ex} {pos : Pos}
end
def sPar3 (i j l : Nat) (a b c : Ex) : Sm := fun ρ f => (cArgs [a, b, c] ρ f).bind fun ds f1 => match ds with
  | [d, e, h] => .ok (.nx (((ρ.set i (.dat d)).set j (.dat e)).set l (.dat h))) f1
  | _ => .no
section
variable {X : Cx} {E : XK} {pos : Pos}
end
def downD (lo : Int) (n : Nat) : List PyData := (List.range n).map fun (k : Nat) => .int (lo + (k : Nat) * (-1))
theorem downD_length {lo : Int} {n : Nat} : (downD lo n).length = n := by simp [downD]
theorem downD_get {lo : Int} {n i : Nat} (h : i < n) : (downD lo n)[i]? = some (.int (lo + (i : Nat) * (-1))) := by
  unfold downD
  rw [List.getElem?_map, List.getElem?_range h]
  rfl
theorem yields_down {K : PySem.W.Frag} {GF : Hp} {lo : Int} {n : Nat} : Yields K (Itc lo (-1) n) GF (downD lo n) where
  go := fun i I IF l1 l2 hi => by
    rw [downD_length] at hi
    exact hi
  yld := fun i I IF x I2 l1 l2 hi y => by
    rw [downD_length] at hi
    obtain ⟨e1, e2⟩ := y
    subst e1
    subst e2
    exact ⟨IF, _, downD_get hi, New.refl l2, .int _⟩
  stop := fun i I IF l1 l2 hi => by
    rw [downD_length] at hi
    exact Nat.le_of_eq hi.symm
def iDown (a b c : Ex) : Ix := fun ρ f => pk (a ρ f) fun d f1 => pk (b ρ f1) fun d2 f2 => pk (c ρ f2) fun d3 f3 => match d, d2, d3 with
  | .int i, .int j, .int k => if (smallI i && smallI j && decide (k = -1)) = true then .ok (downD i (i - j).toNat) f3 else .no
  | _, _, _ => .no
section
variable {X : Cx} {W : Wish} {tg : Expr} {p pos : Pos} {e e2 e3 : Expr} {x y z : Ex}
theorem di_down (hg : Gl X "range") (hm : X.mg "range" = none) (h : DE X W e x) (h2 : DE X W e2 y) (h3 : DE X W e3 z) (hs : starEach [e, e2, e3] X.env = (false, eval e X.env) :: starEach [e2, e3] X.env := by rfl)
    (hs2 : starEach [e2, e3] X.env = (false, eval e2 X.env) :: starEach [e3] X.env := by rfl) (hs3 : starEach [e3] X.env = (false, eval e3 X.env) :: starEach [] X.env := by rfl) (hpl : (backTo pos (starEach [e2, e3] X.env)).any (·.1) = false := by rfl) :
    DI X W tg (.Call (.Name "range" p) [e, e2, e3] [] pos) (iDown x y z) :=
  pi_mono (pi_range3 hg hm (pa_cons h (pa_cons h2 (pa_cons h3 pa_nil hs3) hs2) hs) hs hpl) fun σ H Z ⟨g, HF, ρ, f, rel, q⟩ => tD_pk rel q fun d f1 v G GF r1 s1 t1 q1 => tD_pk r1 q1 fun d2 f2 w I IF r2 s2 t2 q2 => tD_pk r2 q2 fun d3 f3 u J JF r3 s3 t3 q3 => by
    cases d <;> cases d2 <;> cases d3 <;> try exact (show False from q3).elim
    rename_i i j k
    simp only at q3
    by_cases c : (smallI i && smallI j && decide (k = -1)) = true
    · rw [if_pos c] at q3
      obtain ⟨c0, c3⟩ := Bool.and_eq_true_iff.mp c
      obtain ⟨c1, c2⟩ := Bool.and_eq_true_iff.mp c0
      have e1 := t1.int
      have e2 := t2.int
      have e3 := t3.int
      have e4 : k = -1 := of_decide_eq_true c3
      subst e1
      subst e2
      subst e3
      subst e4
      exact ⟨i, j, -1, (i - j).toNat, rfl, RgC.neg (smallI_of c1).1 (smallI_of c1).2 (smallI_of c2).1 (smallI_of c2).2, (show ∀ J G2 GF2, Step g H HF G2 GF2 → FeedAt g G2 GF2 f3 → Yields X.K J GF2 (downD i (i - j).toNat) → Z J G2 from q3) _ J JF (s1.trans r1.feed (s2.trans r2.feed s3)) r3.feed yields_down⟩
    · rw [if_neg c] at q3
      exact (show False from q3).elim
end
def popped (i : Nat) (ρ : Rho) : Option (PyData × Rho) := match ρ[i]? with
  | some (.own ds) => match ds[ds.length - 1]? with
    | some d => some (d, ρ.set i (.own ds.dropLast))
    | none => none
  | _ => none
def sPop (i : Nat) (T : Tgt) : Sm := fun ρ f => match popped i ρ with
  | some (d, ρ1) => match T.put d ρ1 with
    | some ρ2 => .ok (.nx ρ2) f
    | none => .no
  | none => .no
def sPopD (i : Nat) : Sm := fun ρ f => match popped i ρ with
  | some (_, ρ1) => .ok (.nx ρ1) f
  | none => .no
theorem DRs.dropLast {K : PySem.W.Frag} {H : Hp} {vs : List V} {ds : List PyData} (r : DRs K H vs ds) : DRs K H vs.dropLast ds.dropLast := by
  rw [List.dropLast_eq_take, List.dropLast_eq_take, r.length]
  exact r.take _
section
variable {X : Cx} {E : XK} {o : Expr} {i : Nat} {apos cpos pos : Pos}
end
theorem vals_ints : ∀ {ns : List Int} {us : List Value}, Vals (ns.map V.int) us → ∃ ps : List (Int × Tok), ps.map (·.1) = ns ∧ us = ps.map fun p => .int p.1 p.2
  | [], _, .nil => ⟨[], rfl, rfl⟩
  | n :: ns, _, .cons h t => by
    obtain ⟨ps, e1, e2⟩ := vals_ints t
    obtain ⟨tk, rfl⟩ := h
    exact ⟨(n, tk) :: ps, by rw [List.map_cons, e1], by rw [List.map_cons, e2]⟩
end Dn
end
section
set_option maxHeartbeats 4000000
namespace Dn
open PySem PySem.Spec L2
mutual
/-- no list in it -/
def flat : PyData → Bool
  | .list _ => false
  | .tuple ds => flatAll ds
  | .dict (_ :: _) => false
  | _ => true
def flatAll : List PyData → Bool
  | [] => true
  | d :: ds => flat d && flatAll ds
end
section
variable {K : PySem.W.Frag} {G G2 : Hp} {p : Addr}
end
def keepF : RV → Feed → R RV
  | .dat d, f => if flat d then .ok (.dat d) f else .no
  | .own ds, f => if flatAll ds then .ok (.own ds) f else .no
  | _, _ => .no
/-- a call: xs, then the growing list i -/
def cCallL (F : Fn) (xs : List Ex) (i : Nat) : Ex := fun ρ f => (cVals xs ρ f).bind fun as f1 => match ρ[i]? with
  | some (.own ds) => (F (as ++ [.dat (.list ds)]) f1).bind keepF
  | _ => .no
section
variable {K : PySem.W.Frag} {mg : Str → Option Value} {W : Wish}
end
section
variable {X : Cx} {W : Wish} {k : Nat} {f : Addr} {fd : FuncData} {ps : List Str} {F : Fn} {x : Str} {p pos : Pos} {e : Expr} {es : List Expr} {xs : List Ex} {i : Nat}
end
end Dn
end
section
set_option maxHeartbeats 4000000
namespace Dn
open PySem PySem.Spec L2
section
variable {X : Cx} {W : Wish} {a b : Expr} {fa fb : Ex} {pos : Pos}
end
end Dn
end
section
set_option maxHeartbeats 4000000
namespace Dn
open PySem PySem.Spec L2
section
variable {X : Cx} {e : Expr} {es : List Expr} {ta : TA} {p1 p2 pos : Pos}
end
section
variable {X : Cx} {pins : List (Addr × Obj)} {σ : St} {H1 H2 : Hp} {Q : XK} {hp hp2 h2 : Heap} {g1 g2 : Array GenState} {d1 d2 : Drawn} {t1 t2 : Nat} {os1 os2 : OsState} {a C : Addr}
end
section
variable {X : Cx} {x : Str} {e : Expr} {es : List Expr} {ta : TA} {p pos : Pos} {C fI : Addr} {k : Nat} {fd : FuncData} {ps : List Str} {sp : Sp}
end
section
variable {K : PySem.W.Frag} {C : Addr} {vs : List V} {H : Hp} {Q : VK} {E : XK} {s x y : Str}
end
def sRaise (x : Str) (fs : List Str) (xs : List Ex) : Sm := fun ρ f => (cArgs xs ρ f).bind fun ds f1 => if ds.length = fs.length ∧ fs.length ≤ 900 then .ex x (fs.zip ds).reverse f1 else .no
section
variable {X : Cx} {E : XK} {x : Str} {fs : List Str} {e : Expr} {es : List Expr} {xs : List Ex} {p pos pos2 : Pos}
end
section
variable {P : Program} {w : World} {K : PySem.W.Frag} {mg : Str → Option Value} {base : Heap}
end
def dEndX : R Ctl → R RV := fun r => r.bind fun c f1 => match c with
  | .nx _ => .ok (.dat .none) f1
  | .rt v => .ok v.up f1
  | _ => .no
def dBodyX (n : Nat) (s : Sm) : Fn := fun as f => dEndX (s (as.map fnSlot ++ List.replicate (n - as.length) .emp) f)
section
variable {X : Cx} {k : Nat} {x : Str} {ps : List Str} {F : Fn} {p pos : Pos} {e : Expr} {es : List Expr} {xs : List Ex} {W : Wish}
end
end Dn
end
section
set_option maxHeartbeats 4000000
namespace Dn
open PySem PySem.Spec L2
def sTryS0 (i : Nat) (x : Ex) (names : List Str) (su : Sm) : Sm := fun ρ f => match x ρ f with
  | .no => .no
  | .ok rv f1 => match slotOf rv with
    | some s => .ok (.nx (ρ.set i s)) f1
    | none => .no
  | .ex c _ f1 => if names.contains c then noEx (su ρ f1) else .no
section
variable {K : PySem.W.Frag} {mg : Str → Option Value} {g : Gh} {E E2 : XK}
end
section
variable {X : Cx} {E : XK} {n y : Str} {e : Expr} {pn2 pos pos' pos2 np : Pos} {b₀ : Stmt} {suite : List Stmt} {x : Ex} {i : Nat} {su : Sm} {cv : Value} {names : List Str}
end
def excD (c : Str) (vs : List (Str × PyData)) : PyData := .dict ((.none, .str c) :: vs.map fun p => (.str p.1, p.2))
/-- the name goes -/
def drp (j : Nat) (r : R Ctl) : R Ctl := r.bind fun c f => match c with
  | .nx ρ => .ok (.nx (ρ.set j .emp)) f
  | .bk ρ => .ok (.bk (ρ.set j .emp)) f
  | .ct ρ => .ok (.ct (ρ.set j .emp)) f
  | .rt v => .ok (.rt v) f
def caught (j : Nat) (names : List Str) (su : Sm) (c : Str) (vs : List (Str × PyData)) (ρ : Rho) (f : Feed) : R Ctl :=
  if names.contains c then drp j (noEx (su (ρ.set j (.dat (excD c vs))) f)) else .no
def sTryS (i j : Nat) (x : Ex) (names : List Str) (su : Sm) : Sm := fun ρ f => match x ρ f with
  | .no => .no
  | .ok rv f1 => match slotOf rv with
    | some s => .ok (.nx (ρ.set i s)) f1
    | none => .no
  | .ex c vs f1 => caught j names su c vs ρ f1
def sTryR (j : Nat) (x : Ex) (names : List Str) (su : Sm) : Sm := fun ρ f => match x ρ f with
  | .no => .no
  | .ok rv f1 => .ok (.rt rv) f1
  | .ex c vs f1 => caught j names su c vs ρ f1
section
variable {X : Cx} {pins : List (Addr × Obj)} {σ : St} {H : Hp} {sI s s' : Shared} {B : Heap}
end
section
variable {X : Cx} {x n : Str} {c : Value} {i : Nat} {body suite : List Stmt} {b₀ : Stmt} {np pos pos' : Pos} {tb : WX → TS} {ts : TS}
end
end Dn
end
section
set_option maxHeartbeats 4000000
namespace Dn
open PySem PySem.Spec L2
def errNames : List Str := ["NoRatio", "NoAge", "NoBeat", "NoPaper", "TooMany", "NoText", "NoLines", "NoName", "NoRow", "FreshError"]
def errFields : List Str := ["age", "beat", "word", "place", "at", "row", "name"]
def exSub (c t : Str) : Bool := t == "ValueError" || t == "FreshError" || c == t
def isAll (K : PySem.W.Frag) (t : Str) (cv : Value) : Bool := K.all fun p => match errNm K p.1 with
    | some c => !(errNames.contains c) || (decide (PySem.W.kitOne K (.ref p.1) cv = some (exSub c t)) && decide (PySem.W.exmOne K (.ref p.1) cv = some (exSub c t)))
    | none => true
theorem errNm_mem {K : PySem.W.Frag} {C : Addr} {c : Str} (h : errNm K C = some c) : ∃ o, (C, o) ∈ K := by
  unfold errNm at h
  cases z : K.lookup C with
  | none =>
    unfold PySem.W.clsIn at h
    rw [z] at h
    cases h
  | some o =>
    refine ⟨o, ?_⟩
    clear h
    induction K with
    | nil => cases z
    | cons p K ih =>
      obtain ⟨b, u⟩ := p
      by_cases e : C = b
      · subst e
        simp [List.lookup] at z
        subst z
        exact List.mem_cons_self
      · have e2 : (C == b) = false := by simpa using e
        simp only [List.lookup, e2] at z
        exact List.mem_cons_of_mem _ (ih z)
theorem isAll_of {K : PySem.W.Frag} {C : Addr} {c t : Str} {cv : Value} (h : isAll K t cv = true) (e : errNm K C = some c) (hc : errNames.contains c = true) : PySem.W.kitOne K (.ref C) cv = some (exSub c t) ∧ PySem.W.exmOne K (.ref C) cv = some (exSub c t) := by
  obtain ⟨o, m⟩ := errNm_mem e
  unfold isAll at h
  have h2 := List.all_eq_true.mp h _ m
  simp only [e, hc, Bool.not_true, Bool.false_or, Bool.and_eq_true, decide_eq_true_eq] at h2
  exact h2
section
variable {X : Cx} {pins : List (Addr × Obj)} {σ : St} {H : Hp} {s : Shared} {a C : Addr} {od : Option Addr} {xs : List (Str × V)} {c : Str}
end
def excNm : PyData → Option Str
  | .dict ((.none, .str c) :: _) => if errNames.contains c then some c else none
  | _ => none
def oIsE (t : Str) : Op1 := fun d => (excNm d).map fun c => .dat (.bool (exSub c t))
def oIsEs (ts : List Str) : Op1 := fun d => (excNm d).map fun c => .dat (.bool (ts.any (exSub c)))
def fldGet (k : Str) : List (PyData × PyData) → Option PyData
  | (.str n, d) :: r => if k = n then some d else fldGet k r
  | _ => none
def oFld (k : Str) : Op1 := fun d => match d with
  | .dict ((.none, .str c) :: r) => if errNames.contains c ∧ errFields.contains k then (fldGet k r).map .dat else none
  | _ => none
theorem Top.exc {K : PySem.W.Frag} {g : Gh} {H HF : Hp} {v : V} {c : Str} {r : List (PyData × PyData)} (t : Top K g H HF v (.dict ((.none, .str c) :: r))) (l : Le HF H) : ∃ a C od xs ds, v = .ref a ∧ H a = some (ExH a C od) ∧ errNm K C = some c ∧ XdH H od xs ∧ DRs K HF (xs.map (·.2)) ds ∧ r = fldD xs ds := by
  rcases t with h | ⟨p, vs, ds, rfl, e, _⟩
  · cases h with
    | @dic _ xs _ h e r =>
      clear r
      cases xs with
      | nil => simp at e
      | cons x xs =>
        obtain ⟨x1 | x1, x2⟩ := x <;> simp [keyD] at e
    | exc h1 h2 h3 h4 => exact ⟨_, _, _, _, _, rfl, l _ _ h1, h2, h3.mono l, h4, rfl⟩
  · cases e
section
variable {X : Cx} {W : Wish} {fa : Ex} {e : Expr} {p p2 pos : Pos}
end
inductive ClsE (X : Cx) : List Expr → List Str → List Addr → Prop where
  | nil : ClsE X [] [] []
  | cons {t : Str} {p : Pos} {C : Addr} {es : List Expr} {ts : List Str} {Cs : List Addr} : Gl X t → X.mg t = some (.ref C) → isAll X.K t (.ref C) = true → (t == ("__debug__" : Str)) = false →
      starEach (.Name t p :: es) X.env = (false, eval (.Name t p) X.env) :: starEach es X.env → ClsE X es ts Cs → ClsE X (.Name t p :: es) (t :: ts) (C :: Cs)
theorem ClsE.pa {X : Cx} : ∀ {es : List Expr} {ts : List Str} {Cs : List Addr}, ClsE X es ts Cs → PA X es fun _ H Q => Q (Cs.map V.ref) H
  | _, _, _, .nil => pa_nil
  | _, _, _, .cons hg hm _ hdb he r => pa_cons (pe_glob (v := .ref _) hg hm rfl hdb) r.pa he
theorem ClsE.any {X : Cx} {C : Addr} {c : Str} (en : errNm X.K C = some c) (hc : errNames.contains c = true) : ∀ {es : List Expr} {ts : List Str} {Cs : List Addr}, ClsE X es ts Cs → PySem.W.kitAny X.K (.ref C) (Cs.map Value.ref) = some (ts.any (exSub c))
  | _, _, _, .nil => rfl
  | _, _, _, .cons (t := t) (ts := ts) hg hm al _ _ r => by
    have ih := r.any en hc
    have k := (isAll_of al en hc).1
    show PySem.W.kitAny X.K (.ref C) (Value.ref _ :: _) = some (exSub c t || ts.any (exSub c))
    unfold PySem.W.kitAny
    rw [k]
    cases exSub c t with
    | true => rfl
    | false => exact ih
section
variable {X : Cx} {W : Wish} {fa : Ex} {e : Expr} {p p2 p3 pos : Pos} {es : List Expr} {ts : List Str}
end
theorem Rel.drop {K : PySem.W.Frag} {g : Gh} {σ : St} {H HF : Hp} {ρ : Rho} {f : Feed} (r : Rel K g σ H HF ρ f) (j : Nat) : Rel K g (σ.set j none) H HF (ρ.set j .emp) f := r.wiped [j]
section
variable {X : Cx} {E : XK} {n y t : Str} {e : Expr} {pn2 pos pos' pos2 np : Pos} {b₀ : Stmt} {suite : List Stmt} {x : Ex} {i j : Nat} {su : Sm} {cv : Value} {names : List Str}
end
end Dn
namespace Dn
open PySem PySem.Spec L2
/-- a class of refusals and its __init__, as they stand behind the top -/
structure ErrS (K : PySem.W.Frag) (mg : Str → Option Value) (x : Str) (fs : List Str) (q : Str) (st : Stmt) : Prop where
  ex : ∃ C fI fd, mg x = some (.ref C) ∧ OexC K C ∧ (∀ f ∈ fs, PySem.W.findIn K (.ref C) f = some none) ∧ PySem.W.findIn K (.ref C) "__init__" = some (some (.ref fI)) ∧ PySem.W.typeIn K (.ref fI) = some (.type "function") ∧
    Fun K "__init__" q st fI fd ∧ Binds K fd (("self" : Str) :: fs) [] ∧ errNm K C = some x
section
variable {P : Program} {w : World} {K : PySem.W.Frag} {mg : Str → Option Value} {base : Heap} {x q : Str} {st : Stmt}
end
theorem ErrS.nm {K : PySem.W.Frag} {mg : Str → Option Value} {x q : Str} {fs : List Str} {st : Stmt} (S : ErrS K mg x fs q st) : ∃ C, mg x = some (.ref C) ∧ errNm K C = some x := by
  obtain ⟨C, _, _, h, _, _, _, _, _, _, e⟩ := S.ex
  exact ⟨C, h, e⟩
end Dn
end
namespace Dn
open PySem PySem.Spec L2
section
variable {α β : Type}
theorem nr {γ : Sort _} {a b : γ} (h : a = b) : a = b := h
theorem nri {a b : Prop} (h : a ↔ b) : a ↔ b := h
/-- it comes to something of this kind -/
def Ev (r : R α) (P : α → Feed → Prop) : Prop := ∃ a f, r = .ok a f ∧ P a f
theorem Ev.mono {r : R α} {P Q : α → Feed → Prop} (h : Ev r P) (m : ∀ a f, P a f → Q a f) : Ev r Q := by
  obtain ⟨a, f, e, p⟩ := h
  exact ⟨a, f, e, m a f p⟩
@[simp] theorem ev_ok {a : α} {f : Feed} {P : α → Feed → Prop} : Ev (.ok a f) P ↔ P a f := by
  constructor
  · rintro ⟨b, g, e, p⟩
    cases e
    exact p
  · exact fun p => ⟨a, f, rfl, p⟩
@[simp] theorem ev_no {P : α → Feed → Prop} : Ev (.no) P ↔ False := by
  constructor
  · rintro ⟨b, g, e, p⟩
    cases e
  · exact False.elim
@[simp] theorem ev_bind {r : R α} {k : α → Feed → R β} {P : β → Feed → Prop} : Ev (r.bind k) P ↔ Ev r fun a f => Ev (k a f) P := by
  cases r with
  | no => exact ⟨fun ⟨_, _, e, _⟩ => (by cases e), fun ⟨_, _, e, _⟩ => (by cases e)⟩
  | ex c v f => exact ⟨fun ⟨_, _, e, _⟩ => (by cases e), fun ⟨_, _, e, _⟩ => (by cases e)⟩
  | ok a f => exact ⟨fun h => ev_ok.mpr h, fun h => ev_ok.mp h⟩
@[simp] theorem bind_ok {a : α} {f : Feed} {k : α → Feed → R β} : (R.ok a f).bind k = k a f := nr rfl
@[simp] theorem pk_ok_dat {d : PyData} {f : Feed} {k : PyData → Feed → R β} : pk (.ok (.dat d) f) k = k d f := nr rfl
@[simp] theorem pk_ok_own {d : List PyData} {f : Feed} {k : PyData → Feed → R β} : pk (.ok (.own d) f) k = k (.list d) f := nr rfl
@[simp] theorem pk_ok_lent {i : Nat} {d : List PyData} {f : Feed} {k : PyData → Feed → R β} : pk (.ok (.lent i d) f) k = k (.list d) f := nr rfl
@[simp] theorem dt_ok_dat {d : PyData} {f : Feed} {k : PyData → Feed → R β} : dt (.ok (.dat d) f) k = k d f := nr rfl
@[simp] theorem dt_ok_own {d : List PyData} {f : Feed} {k : PyData → Feed → R β} : dt (.ok (.own d) f) k = k (.list d) f := nr rfl
section
variable {γ : Type} {r : R RV} {k : PyData → Feed → R RV} {k2 : PyData → Feed → R γ} {q : α → Feed → R RV} {k3 : RV → Feed → R γ} {ra : R α}
@[simp] theorem pk_pk : pk (pk r k) k2 = pk r fun d f => pk (k d f) k2 := by
  unfold pk
  cases r with
  | no => rfl
  | ex c v f => rfl
  | ok a f =>
    simp only [R.bind]
    cases a.peek <;> rfl
@[simp] theorem pk_dt : pk (dt r k) k2 = dt r fun d f => pk (k d f) k2 := by
  unfold pk dt
  cases r with
  | no => rfl
  | ex c v f => rfl
  | ok a f =>
    simp only [R.bind]
    cases a.data <;> rfl
@[simp] theorem dt_pk : dt (pk r k) k2 = pk r fun d f => dt (k d f) k2 := by
  unfold pk dt
  cases r with
  | no => rfl
  | ex c v f => rfl
  | ok a f =>
    simp only [R.bind]
    cases a.peek <;> rfl
@[simp] theorem dt_dt : dt (dt r k) k2 = dt r fun d f => dt (k d f) k2 := by
  unfold dt
  cases r with
  | no => rfl
  | ex c v f => rfl
  | ok a f =>
    simp only [R.bind]
    cases a.data <;> rfl
@[simp] theorem pk_bind2 : pk (ra.bind q) k2 = ra.bind fun a f => pk (q a f) k2 := by
  cases ra <;> rfl
@[simp] theorem dt_bind2 : dt (ra.bind q) k2 = ra.bind fun a f => dt (q a f) k2 := by
  cases ra <;> rfl
@[simp] theorem bind_bind2 {k4 : β → Feed → R γ} {q4 : α → Feed → R β} : (ra.bind q4).bind k4 = ra.bind fun a f => (q4 a f).bind k4 := by
  cases ra <;> rfl
@[simp] theorem bind_pk {k4 : β → Feed → R γ} {k5 : PyData → Feed → R β} : (pk r k5).bind k4 = pk r fun d f => (k5 d f).bind k4 := by
  unfold pk
  cases r with
  | no => rfl
  | ex c v f => rfl
  | ok a f =>
    simp only [R.bind]
    cases a.peek <;> rfl
@[simp] theorem bind_dt {k4 : β → Feed → R γ} {k5 : PyData → Feed → R β} : (dt r k5).bind k4 = dt r fun d f => (k5 d f).bind k4 := by
  unfold dt
  cases r with
  | no => rfl
  | ex c v f => rfl
  | ok a f =>
    simp only [R.bind]
    cases a.data <;> rfl
end
@[simp] theorem noEx_ok2 {a : α} {f : Feed} : noEx (.ok a f) = .ok a f := nr rfl
end
section
variable {ρ : Rho} {f : Feed} {d : PyData} {ds : List PyData} {i : Nat} {a b c : Ex} {β : Type}
@[simp] theorem give_some {rv : RV} : give (some rv) f = .ok rv f := nr rfl
@[simp] theorem give_none : give none f = .no := nr rfl
@[simp] theorem give_ite {p : Prop} [Decidable p] {x y : Option RV} : give (if p then x else y) f = if p then give x f else give y f := by
  split <;> rfl
variable {x y : Int} {s t : Str} {p q : Bool} {xs ys : List PyData}
@[simp] theorem oAdd_int : oAdd (.int x) (.int y) = some (.dat (.int (x + y))) := nr rfl
@[simp] theorem oAdd_list : oAdd (.list xs) (.list ys) = if xs.length + ys.length ≤ 100000 then some (.own (xs ++ ys)) else none := by
  unfold oAdd catL
  simp [intsOp]
  split <;> rfl
@[simp] theorem oAdd_tuple : oAdd (.tuple xs) (.tuple ys) = if xs.length + ys.length ≤ 100000 then some (.dat (.tuple (xs ++ ys))) else none := by
  unfold oAdd catT
  simp [intsOp, catL]
  split <;> rfl
@[simp] theorem oAdd_str : oAdd (.str s) (.str t) = if s.length + t.length ≤ 100000 then some (.dat (.str (s ++ t))) else none := by
  unfold oAdd catS
  simp [intsOp, catL, catT]
@[simp] theorem oSub_int : oSub (.int x) (.int y) = some (.dat (.int (x - y))) := nr rfl
theorem oMul_int (h : mulC x y = true) : oMul (.int x) (.int y) = some (.dat (.int (x * y))) := by
  unfold oMul intsOp
  simp [h]
@[simp] theorem oMul_list : oMul (.list xs) (.int x) = if -1000 ≤ x ∧ x ≤ 1000 ∧ xs.length ≤ 1000 then some (.own (List.replicate x.toNat xs).flatten) else none := by
  unfold oMul repL
  simp [intsOp, repT]
@[simp] theorem oMul_tuple : oMul (.tuple xs) (.int x) = if -1000 ≤ x ∧ x ≤ 1000 ∧ xs.length ≤ 1000 then some (.dat (.tuple (List.replicate x.toNat xs).flatten)) else none := by
  unfold oMul repT
  simp [intsOp, repL]
theorem oDiv_int (h : 0 < y) (h2 : y.natAbs.log2 < 9000) : oDiv (.int x) (.int y) = some (.dat (.int (x / y))) := by
  unfold oDiv intsOp divC
  simp [h, h2]
theorem oMod_int (h : 0 < y) : oMod (.int x) (.int y) = some (.dat (.int (x % y))) := by
  unfold oMod intsOp modC
  simp [h]
theorem oPow_int (h : 0 ≤ y) (h2 : y ≤ 1000000) (h3 : x.natAbs < 2 ^ 64) : oPow (.int x) (.int y) = some (.dat (.int (x ^ y.toNat))) := by
  unfold oPow intsOp powC
  simp only [h, h2, h3, decide_true, Bool.and_self, if_true]
@[simp] theorem oLt_int : oLt (.int x) (.int y) = some (.dat (.bool (decide (x < y)))) := nr rfl
@[simp] theorem oLe_int : oLe (.int x) (.int y) = some (.dat (.bool (decide (x ≤ y)))) := nr rfl
@[simp] theorem oGt_int : oGt (.int x) (.int y) = some (.dat (.bool (decide (y < x)))) := nr rfl
@[simp] theorem oGe_int : oGe (.int x) (.int y) = some (.dat (.bool (decide (y ≤ x)))) := nr rfl
@[simp] theorem oLeA_int : oLeA (.int x) (.int y) = some (.dat (.bool (decide (x ≤ y)))) := nr rfl
@[simp] theorem oEq_str : oEq (.str s) (.str t) = some (.dat (.bool (decide (s = t)))) := rfl
@[simp] theorem oNe_str : oNe (.str s) (.str t) = some (.dat (.bool (!decide (s = t)))) := rfl
theorem eqv_str : PyData.eqv (.str s) (.str t) = decide (s = t) := by
  simp only [PyData.eqv]
  by_cases h : s = t
  · subst h
    simp
  · simp [h]
theorem oEq_of {d e : PyData} (h : SeqAt.shaped d = true) (h2 : SeqAt.shaped e = true) : oEq d e = some (.dat (.bool (PyData.eqv d e))) := by
  have q : eqD d e = some (.dat (.bool (PyData.eqv d e))) := by
    unfold eqD
    simp [h, h2]
  unfold oEq
  rw [q]
  cases d <;> cases e <;> first | rfl | (rw [eqv_str]; rfl)
theorem oNe_of {d e : PyData} (h : SeqAt.shaped d = true) (h2 : SeqAt.shaped e = true) : oNe d e = some (.dat (.bool (!PyData.eqv d e))) := by
  have q : neD d e = some (.dat (.bool (!PyData.eqv d e))) := by
    unfold neD
    simp [h, h2]
  unfold oNe
  rw [q]
  cases d <;> cases e <;> first | rfl | (rw [eqv_str]; rfl)
@[simp] theorem oEq_int : oEq (.int x) (.int y) = some (.dat (.bool (decide (x = y)))) := by
  rw [oEq_of rfl rfl]
  rfl
@[simp] theorem oNe_int : oNe (.int x) (.int y) = some (.dat (.bool (!decide (x = y)))) := by
  rw [oNe_of rfl rfl]
  rfl
@[simp] theorem oNeg_int : oNeg (.int x) = some (.dat (.int (-x))) := nr rfl
@[simp] theorem oAbs_int : oAbs (.int x) = some (.dat (.int x.natAbs)) := by
  show some (RV.dat (.int (if x < 0 then -x else x))) = _
  have e : (if x < 0 then -x else x) = (x.natAbs : Int) := by split <;> omega
  rw [e]
@[simp] theorem oInt_int : oInt (.int x) = some (.dat (.int x)) := nr rfl
@[simp] theorem oInt_bool : oInt (.bool p) = some (.dat (.int (if p then 1 else 0))) := nr rfl
@[simp] theorem oLen_list : oLen (.list xs) = some (.dat (.int xs.length)) := nr rfl
@[simp] theorem oLen_tuple : oLen (.tuple xs) = some (.dat (.int xs.length)) := nr rfl
@[simp] theorem oTuple_list : oTuple (.list xs) = some (.dat (.tuple xs)) := nr rfl
@[simp] theorem oTuple_tuple : oTuple (.tuple xs) = some (.dat (.tuple xs)) := nr rfl
@[simp] theorem oList_list : oList (.list xs) = some (.own xs) := nr rfl
@[simp] theorem oList_tuple : oList (.tuple xs) = some (.own xs) := nr rfl
@[simp] theorem oMax_int : oMax (.int x) (.int y) = some (.dat (.int (max x y))) := by
  show some (RV.dat (.int (if y > x then y else x))) = _
  have e : (if y > x then y else x) = max x y := by split <;> omega
  rw [e]
@[simp] theorem oMin_int : oMin (.int x) (.int y) = some (.dat (.int (min x y))) := by
  show some (RV.dat (.int (if y < x then y else x))) = _
  have e : (if y < x then y else x) = min x y := by split <;> omega
  rw [e]
@[simp] theorem intsOf_ints : ∀ ns : List Int, intsOf (ns.map .int) = some ns
  | [] => rfl
  | n :: r => by
    show (intsOf (r.map .int)).map (n :: ·) = _
    rw [intsOf_ints r]
    rfl
@[simp] theorem oSum_ints {ns : List Int} : oSum (.list (ns.map .int)) = some (.dat (.int ns.sum)) := by
  show (intsOf (ns.map .int)).map _ = _
  rw [intsOf_ints]
  rfl
@[simp] theorem boolsOf_bools : ∀ ns : List Bool, boolsOf (ns.map .bool) = some ns
  | [] => rfl
  | n :: r => by
    show (boolsOf (r.map .bool)).map (n :: ·) = _
    rw [boolsOf_bools r]
    rfl
@[simp] theorem oAll_bools {ns : List Bool} : oAll (.list (ns.map .bool)) = some (.dat (.bool (ns.all id))) := by
  show (boolsOf (ns.map .bool)).map _ = _
  rw [boolsOf_bools]
  rfl
@[simp] theorem cNot_bool : cNot (.bool p) = some (.dat (.bool (!p))) := nr rfl
@[simp] theorem okTy_int {i : Int} : okTy (.int i) = true := nr rfl
@[simp] theorem okTy_bool {i : Bool} : okTy (.bool i) = true := nr rfl
@[simp] theorem okTy_str {i : Str} : okTy (.str i) = true := nr rfl
@[simp] theorem okTy_none : okTy .none = true := nr rfl
@[simp] theorem okTy_list {ds : List PyData} : okTy (.list ds) = true := nr rfl
@[simp] theorem okTy_tuple {ds : List PyData} : okTy (.tuple ds) = true := nr rfl
@[simp] theorem okTy_dict0 : okTy (.dict []) = true := nr rfl
@[simp] theorem oIsi_of {T : String} (h : okTy d = true) : oIsi T d = some (.dat (.bool (isOf T d))) := by
  unfold oIsi
  rw [if_pos h]
@[simp] theorem oIsB_bool {n : Bool} : oIsB n (.bool p) (.bool q) = some (.dat (.bool (if n then !decide (p = q) else decide (p = q)))) := nr rfl
@[simp] theorem oIsN_none {n : Bool} : oIsN n d .none = some (.dat (.bool (if n then !isNone d else isNone d))) := nr rfl
@[simp] theorem ixN_nat {m n : Nat} : ixN m (n : Int) = if n < m then some n else none := by
  unfold ixN
  rw [if_pos (Int.natCast_nonneg n)]
  by_cases h : n < m
  · rw [if_pos (by omega), if_pos h, Int.toNat_natCast]
  · rw [if_neg (by omega), if_neg h]
@[simp] theorem atI_nat {α : Type} {xs : List α} {n : Nat} : atI xs (n : Int) = xs[n]? := by
  unfold atI
  rw [ixN_nat]
  by_cases h : n < xs.length
  · rw [if_pos h]
    rfl
  · rw [if_neg h, List.getElem?_eq_none (by omega)]
    rfl
@[simp] theorem atI_lit {α : Type} {xs : List α} {n : Nat} : atI xs (OfNat.ofNat n : Int) = xs[n]? := atI_nat (n := n)
end
end Dn
namespace Dn
open PySem PySem.Spec L2
section
variable {ρ : Rho} {f : Feed} {a b c : Ex} {s s2 : Sm} {t u : Tx} {i j : Nat}
@[simp] theorem e_seq : sSeq s s2 ρ f = (s ρ f).bind fun c f1 => andThen c f1 s2 := nr rfl
@[simp] theorem e_then_nx {k : Rho → Feed → R Ctl} : andThen (.nx ρ) f k = k ρ f := nr rfl
@[simp] theorem e_then_rt {v : RV} {k : Rho → Feed → R Ctl} : andThen (.rt v) f k = .ok (.rt v) f := nr rfl
@[simp] theorem e_then_bk {k : Rho → Feed → R Ctl} : andThen (.bk ρ) f k = .ok (.bk ρ) f := nr rfl
@[simp] theorem e_then_ct {k : Rho → Feed → R Ctl} : andThen (.ct ρ) f k = .ok (.ct ρ) f := nr rfl
@[simp] theorem e_set : sSet i a ρ f = (a ρ f).bind fun rv f1 => match slotOf rv with
  | some s => .ok (.nx (ρ.set i s)) f1
  | none => .no := nr rfl
@[simp] theorem e_ret : sRet a ρ f = (a ρ f).bind fun rv f1 => .ok (.rt rv) f1 := nr rfl
@[simp] theorem e_if : sIf t s s2 ρ f = (t ρ f).bind fun c f1 => if c = true then s ρ f1 else s2 ρ f1 := nr rfl
@[simp] theorem e_drop : sDrop a ρ f = (a ρ f).bind fun _ f1 => .ok (.nx ρ) f1 := nr rfl
@[simp] theorem e_next : sNext ρ f = .ok (.nx ρ) f := nr rfl
@[simp] theorem e_break : sBreak ρ f = .ok (.bk ρ) f := nr rfl
@[simp] theorem e_cont : sCont ρ f = .ok (.ct ρ) f := nr rfl
@[simp] theorem e_no : sNo ρ f = .no := nr rfl
@[simp] theorem e_asg {T : Tgt} : sAsg T a ρ f = dt (a ρ f) fun d f1 => match T.put d ρ with
  | some ρ2 => .ok (.nx ρ2) f1
  | none => .no := nr rfl
@[simp] theorem e_par : sPar i j a b ρ f = dt (a ρ f) fun d f1 => dt (b ρ f1) fun e f2 => .ok (.nx ((ρ.set i (.dat d)).set j (.dat e))) f2 := by
  unfold sPar cArgs cArgs cArgs dt
  cases a ρ f with
  | no => rfl
  | ex => rfl
  | ok rv f1 =>
    simp only [bind_ok]
    cases rv.data with
    | none => rfl
    | some d =>
      simp only
      cases b ρ f1 with
      | no => rfl
      | ex => rfl
      | ok rv f2 =>
        simp only [bind_ok]
        cases rv.data <;> rfl
@[simp] theorem e_par3 {l : Nat} : sPar3 i j l a b c ρ f = dt (a ρ f) fun d f1 => dt (b ρ f1) fun e f2 => dt (c ρ f2) fun h f3 => .ok (.nx (((ρ.set i (.dat d)).set j (.dat e)).set l (.dat h))) f3 := by
  unfold sPar3 cArgs cArgs cArgs cArgs dt
  cases a ρ f with
  | no => rfl
  | ex => rfl
  | ok rv f1 =>
    simp only [bind_ok]
    cases rv.data with
    | none => rfl
    | some d =>
      simp only
      cases b ρ f1 with
      | no => rfl
      | ex => rfl
      | ok rv f2 =>
        simp only [bind_ok]
        cases rv.data with
        | none => rfl
        | some d =>
          simp only
          cases c ρ f2 with
          | no => rfl
          | ex => rfl
          | ok rv f2 =>
            simp only [bind_ok]
            cases rv.data <;> rfl
@[simp] theorem e_pop {T : Tgt} : sPop i T ρ f = match popped i ρ with
  | some (d, ρ1) => match T.put d ρ1 with
    | some ρ2 => .ok (.nx ρ2) f
    | none => .no
  | none => .no := nr rfl
@[simp] theorem e_popD : sPopD i ρ f = match popped i ρ with
  | some (_, ρ1) => .ok (.nx ρ1) f
  | none => .no := nr rfl
@[simp] theorem e_app : sApp i a ρ f = match ρ[i]? with
  | some (.own ds) => dt (a ρ f) fun d f1 => if ds.length < 100000 then .ok (.nx (ρ.set i (.own (ds ++ [d])))) f1 else .no
  | _ => .no := nr rfl
@[simp] theorem e_ext : sExt i a ρ f = match ρ[i]? with
  | some (.own ds) => dt (a ρ f) fun d f1 => match d with
    | .list es => if ds.length + es.length ≤ 100000 then .ok (.nx (ρ.set i (.own (ds ++ es)))) f1 else .no
    | _ => .no
  | _ => .no := nr rfl
@[simp] theorem e_put : sPut i a b ρ f = match ρ[i]? with
  | some (.own ds) => dt (b ρ f) fun d f1 => pk (a ρ f1) fun k f2 => match k with
    | .int k => match ixN ds.length k with
      | some j => .ok (.nx (ρ.set i (.own (ds.set j d)))) f2
      | none => .no
    | _ => .no
  | _ => .no := nr rfl
@[simp] theorem e_frz : sFrz i ρ f = match ρ[i]? with
  | some (.own ds) => .ok (.nx (ρ.set i (.dat (.list ds)))) f
  | _ => .ok (.nx ρ) f := nr rfl
@[simp] theorem e_for {it : Ix} {T : Tgt} : sFor it T s ρ f = (it ρ f).bind fun ds f1 => forN T s ds ρ f1 := nr rfl
@[simp] theorem e_feedS {k : Str} : sFeed k a b ρ f = pk (b ρ f) fun d f1 => (a ρ f1).bind fun rv f2 => match d, rv with
  | .int i, .feed => match f2.put k i with
    | some f3 => .ok (.nx ρ) f3
    | none => .no
  | _, _ => .no := nr rfl
@[simp] theorem e_C {d : PyData} : cC d ρ f = .ok (.dat d) f := nr rfl
@[simp] theorem e_V : cVar i ρ f = match ρ[i]? with
  | some (.dat d) => .ok (.dat d) f
  | some (.own ds) => .ok (.lent i ds) f
  | some .feed => .ok .feed f
  | some (.key ks) => .ok (.dat (.tuple (ks.map .int))) f
  | _ => .no := nr rfl
@[simp] theorem e_Bin {o : Op2} : cBin o a b ρ f = pk (a ρ f) fun x f1 => pk (b ρ f1) fun y f2 => give (o x y) f2 := nr rfl
@[simp] theorem e_Un {o : Op1} : cUn o a ρ f = pk (a ρ f) fun x f1 => give (o x) f1 := nr rfl
@[simp] theorem e_feed {k : Str} : cFeed k a ρ f = (a ρ f).bind fun rv f1 => match rv with
  | .feed => give (f1.get k) f1
  | _ => .no := nr rfl
@[simp] theorem e_And : cAnd a b ρ f = pk (a ρ f) fun d f1 => match d with
  | .bool true => b ρ f1
  | .bool false => .ok (.dat (.bool false)) f1
  | _ => .no := nr rfl
@[simp] theorem e_Or : cOr a b ρ f = pk (a ρ f) fun d f1 => match d with
  | .bool true => .ok (.dat (.bool true)) f1
  | .bool false => b ρ f1
  | _ => .no := nr rfl
@[simp] theorem e_If : cIf t a b ρ f = (t ρ f).bind fun c f1 => if c = true then a ρ f1 else b ρ f1 := nr rfl
@[simp] theorem e_Chain {o o2 : Op2} : cChain o o2 a b c ρ f = pk (a ρ f) fun x f1 => pk (b ρ f1) fun y f2 => match o x y with
  | some (.dat (.bool true)) => pk (c ρ f2) fun z f3 => give (o2 y z) f3
  | some (.dat (.bool false)) => .ok (.dat (.bool false)) f2
  | _ => .no := nr rfl
@[simp] theorem e_T : cT a ρ f = pk (a ρ f) fun d f1 => match d with
  | .bool b => .ok b f1
  | _ => .no := nr rfl
@[simp] theorem e_Yes : cYes ρ f = .ok true f := nr rfl
@[simp] theorem e_tAnd : tAndX t u ρ f = (t ρ f).bind fun b f1 => if b = true then u ρ f1 else .ok false f1 := nr rfl
@[simp] theorem e_tOr : tOrX t u ρ f = (t ρ f).bind fun b f1 => if b = true then .ok true f1 else u ρ f1 := nr rfl
@[simp] theorem e_tNot : tNotX t ρ f = (t ρ f).bind fun b f1 => .ok (!b) f1 := nr rfl
@[simp] theorem e_Args_nil : cArgs [] ρ f = .ok [] f := nr rfl
@[simp] theorem e_Args_cons {xs : List Ex} : cArgs (a :: xs) ρ f = dt (a ρ f) fun d f1 => (cArgs xs ρ f1).bind fun ds f2 => .ok (d :: ds) f2 := nr rfl
@[simp] theorem e_Vals_nil : cVals [] ρ f = .ok [] f := nr rfl
@[simp] theorem e_Vals_cons {xs : List Ex} : cVals (a :: xs) ρ f = (a ρ f).bind fun rv f1 => match toArg rv with
    | some a => (cVals xs ρ f1).bind fun as f2 => .ok (a :: as) f2
    | none => .no := nr rfl
@[simp] theorem e_Call {F : Fn} {xs : List Ex} : cCall F xs ρ f = (cVals xs ρ f).bind fun as f1 => F as f1 := nr rfl
@[simp] theorem e_Tup {xs : List Ex} : cTup xs ρ f = (cArgs xs ρ f).bind fun ds f1 => if ds.length ≤ 100000 then .ok (.dat (.tuple ds)) f1 else .no := nr rfl
@[simp] theorem e_Lst {xs : List Ex} : cLst xs ρ f = (cArgs xs ρ f).bind fun ds f1 => if ds.length ≤ 100000 then .ok (.own ds) f1 else .no := nr rfl
@[simp] theorem e_Lc {it : Ix} {T : Tgt} {vs : List Nat} : cLc it T t a vs ρ f = (it ρ f).bind fun ds f1 => (lcN T t a (wipeR ρ vs) ds [] f1).bind fun ys f2 => .ok (.own ys) f2 := nr rfl
@[simp] theorem e_wipe_nil : wipeR ρ [] = ρ := nr rfl
@[simp] theorem e_wipe_cons {v : Nat} {vs : List Nat} : wipeR ρ (v :: vs) = (wipeR ρ vs).set v .emp := nr rfl
@[simp] theorem e_iSeq : iSeq a ρ f = dt (a ρ f) fun d f1 => match seqOf d with
  | some ds => .ok ds f1
  | none => .no := nr rfl
@[simp] theorem e_iRange1 : iRange1 a ρ f = pk (a ρ f) fun d f1 => match d with
  | .int n => if smallI n = true then .ok (rangeD 0 n.toNat) f1 else .no
  | _ => .no := nr rfl
@[simp] theorem e_iRange2 : iRange2 a b ρ f = pk (a ρ f) fun d f1 => pk (b ρ f1) fun d2 f2 => match d, d2 with
  | .int i, .int j => if (smallI i && smallI j) = true then .ok (rangeD i (j - i).toNat) f2 else .no
  | _, _ => .no := nr rfl
@[simp] theorem e_iDown : iDown a b c ρ f = pk (a ρ f) fun d f1 => pk (b ρ f1) fun d2 f2 => pk (c ρ f2) fun d3 f3 => match d, d2, d3 with
  | .int i, .int j, .int k => if (smallI i && smallI j && decide (k = -1)) = true then .ok (downD i (i - j).toNat) f3 else .no
  | _, _, _ => .no := nr rfl
@[simp] theorem e_iEnum : iEnum a ρ f = dt (a ρ f) fun d f1 => match seqOf d with
  | some ds => .ok (pairsD ds) f1
  | none => .no := nr rfl
@[simp] theorem e_iZip : iZip a b ρ f = dt (a ρ f) fun d f1 => dt (b ρ f1) fun e f2 => match d, e with
  | .list ds, .list es => .ok (zipD ds es) f2
  | .tuple ds, .tuple es => .ok (zipD ds es) f2
  | .tuple ds, .list es => .ok (zipD ds es) f2
  | .list ds, .tuple es => .ok (zipD ds es) f2
  | _, _ => .no := nr rfl
@[simp] theorem e_Sl {lo hi : Option Ex} : cSl a lo hi ρ f = pk (a ρ f) fun x f1 => partX lo ρ f1 fun i f2 => partX hi ρ f2 fun j f3 => give (oSl i j x) f3 := nr rfl
@[simp] theorem e_part_none {k : Option Int → Feed → R RV} : partX none ρ f k = k none f := nr rfl
@[simp] theorem e_part_some {k : Option Int → Feed → R RV} : partX (some a) ρ f k = pk (a ρ f) fun d f1 => match d with
    | .int i => k (some i) f1
    | _ => .no := nr rfl
@[simp] theorem e_slot_dat {d : PyData} : slotOf (.dat d) = some (.dat d) := nr rfl
@[simp] theorem e_slot_own {d : List PyData} : slotOf (.own d) = some (.own d) := nr rfl
@[simp] theorem e_slot_feed : slotOf .feed = some .feed := nr rfl
@[simp] theorem e_arg_dat {d : PyData} : toArg (.dat d) = some (.dat d) := nr rfl
@[simp] theorem e_arg_own {d : List PyData} : toArg (.own d) = some (.dat (.list d)) := nr rfl
@[simp] theorem e_arg_feed : toArg .feed = some .feed := nr rfl
@[simp] theorem e_seqOf_list {xs : List PyData} : seqOf (.list xs) = some xs := nr rfl
@[simp] theorem e_seqOf_tuple {xs : List PyData} : seqOf (.tuple xs) = some xs := nr rfl
@[simp] theorem e_put_one {d : PyData} : (Tgt.one i).put d ρ = some (ρ.set i (.dat d)) := nr rfl
@[simp] theorem e_put_many {l : List Nat} {ds : List PyData} : (Tgt.many l).put (.tuple ds) ρ = if ds.length = l.length then some (setAll l ds ρ) else none := nr rfl
@[simp] theorem e_setAll_nil {l : List Nat} : setAll l [] ρ = ρ := by cases l <;> rfl
@[simp] theorem e_setAll_cons {l : List Nat} {d : PyData} {ds : List PyData} : setAll (i :: l) (d :: ds) ρ = setAll l ds (ρ.set i (.dat d)) := nr rfl
@[simp] theorem e_fnSlot_dat {d : PyData} : fnSlot (.dat d) = .dat d := nr rfl
@[simp] theorem e_fnSlot_feed : fnSlot .feed = .feed := nr rfl
@[simp] theorem e_up_dat {d : PyData} : (RV.dat d).up = .dat d := nr rfl
@[simp] theorem e_up_own {d : List PyData} : (RV.own d).up = .own d := nr rfl
@[simp] theorem e_up_lent {d : List PyData} : (RV.lent i d).up = .own d := nr rfl
@[simp] theorem e_peek_dat {d : PyData} : (RV.dat d).peek = some d := nr rfl
@[simp] theorem e_data_dat {d : PyData} : (RV.dat d).data = some d := nr rfl
@[simp] theorem e_data_own {d : List PyData} : (RV.own d).data = some (.list d) := nr rfl
@[simp] theorem e_ix_tuple {xs : List PyData} {k : Int} : oIx (.tuple xs) (.int k) = (atI xs k).map .dat := nr rfl
@[simp] theorem e_ix_list {xs : List PyData} {k : Int} : oIx (.list xs) (.int k) = (atI xs k).map .dat := nr rfl
@[simp] theorem e_sl_tuple {xs : List PyData} {lo hi : Option Int} : oSl lo hi (.tuple xs) = some (.dat (.tuple (cutD xs lo hi))) := nr rfl
@[simp] theorem e_sl_list {xs : List PyData} {lo hi : Option Int} : oSl lo hi (.list xs) = some (.own (cutD xs lo hi)) := nr rfl
@[simp] theorem e_at0 {α : Type} {x : α} {xs : List α} : atI (x :: xs) 0 = some x := atI_nat (n := 0)
@[simp] theorem e_at1 {α : Type} {x y : α} {xs : List α} : atI (x :: y :: xs) 1 = some y := atI_nat (n := 1)
@[simp] theorem e_at2 {α : Type} {x y z : α} {xs : List α} : atI (x :: y :: z :: xs) 2 = some z := atI_nat (n := 2)
@[simp] theorem e_at3 {α : Type} {x y z w : α} {xs : List α} : atI (x :: y :: z :: w :: xs) 3 = some w := atI_nat (n := 3)
@[simp] theorem give_some_map {o : Option PyData} {g : Feed} : give (o.map .dat) g = match o with
  | some d => .ok (.dat d) g
  | none => .no := by cases o <;> rfl
@[simp] theorem e_gturn {g : Feed} : g.get "turn" = some (.dat (.int g.turn)) := nr rfl
@[simp] theorem e_gat {g : Feed} : g.get "at" = some (.dat (.int g.spot)) := nr rfl
@[simp] theorem e_gleft {g : Feed} : g.get "left" = some (.dat (.int g.left)) := nr rfl
@[simp] theorem e_gcells {g : Feed} : g.get "cells" = some (.dat (.list (g.cells.map .int))) := nr rfl
@[simp] theorem e_pturn {g : Feed} {k : Int} : g.put "turn" k = some { g with turn := k } := nr rfl
@[simp] theorem e_pat {g : Feed} {k : Int} : g.put "at" k = some { g with spot := k } := nr rfl
@[simp] theorem e_pleft {g : Feed} {k : Int} : g.put "left" k = some { g with left := k } := nr rfl
end
def RetP (P : RV → Feed → Prop) : Ctl → Feed → Prop
  | .nx _, f => P (.dat .none) f
  | .rt v, f => P v.up f
  | _, _ => False
@[simp] theorem retP_nx {P : RV → Feed → Prop} {ρ : Rho} {f : Feed} : RetP P (.nx ρ) f ↔ P (.dat .none) f := nri Iff.rfl
@[simp] theorem retP_rt {P : RV → Feed → Prop} {v : RV} {f : Feed} : RetP P (.rt v) f ↔ P v.up f := nri Iff.rfl
theorem ev_dEnd {r : R Ctl} {P : RV → Feed → Prop} : Ev (dEnd r) P ↔ Ev r (RetP P) := by
  cases r with
  | no => exact ⟨fun ⟨_, _, e, _⟩ => (by cases e), fun ⟨_, _, e, _⟩ => (by cases e)⟩
  | ex c v f => exact ⟨fun ⟨_, _, e, _⟩ => (by cases e), fun ⟨_, _, e, _⟩ => (by cases e)⟩
  | ok a f =>
    cases a with
    | nx ρ => exact (ev_ok (a := RV.dat .none)).trans (ev_ok (P := RetP P) (a := Ctl.nx ρ)).symm
    | rt v => exact (ev_ok (a := v.up)).trans (ev_ok (P := RetP P) (a := Ctl.rt v)).symm
    | bk ρ => exact ⟨fun ⟨_, _, e, _⟩ => (by cases e), fun h => (ev_ok.mp h).elim⟩
    | ct ρ => exact ⟨fun ⟨_, _, e, _⟩ => (by cases e), fun h => (ev_ok.mp h).elim⟩
theorem ev_is {α : Type} {r : R α} {v : α} {f : Feed} (h : Ev r fun a g => a = v ∧ g = f) : r = .ok v f := by
  obtain ⟨a, g, e, rfl, rfl⟩ := h
  exact e
theorem Ev.of {α : Type} {r : R α} {v : α} {f : Feed} {P : α → Feed → Prop} (h : r = .ok v f) (p : P v f) : Ev r P := ⟨v, f, h, p⟩
theorem ev_ite {α : Type} {c : Prop} [Decidable c] {r s : R α} {P : α → Feed → Prop} : Ev (if c then r else s) P ↔ (c → Ev r P) ∧ (¬ c → Ev s P) := by
  by_cases h : c
  · rw [if_pos h]
    exact ⟨fun q => ⟨fun _ => q, fun z => absurd h z⟩, fun q => q.1 h⟩
  · rw [if_neg h]
    exact ⟨fun q => ⟨fun z => absurd z h, fun _ => q⟩, fun q => q.2 h⟩
def LoopP (J : Rho → Feed → Prop) (P : Ctl → Feed → Prop) : Ctl → Feed → Prop
  | .nx ρ, f => J ρ f
  | .ct ρ, f => J ρ f
  | .bk ρ, f => P (.nx ρ) f
  | .rt v, f => P (.rt v) f
@[simp] theorem loopP_nx {J : Rho → Feed → Prop} {P : Ctl → Feed → Prop} {ρ : Rho} {f : Feed} : LoopP J P (.nx ρ) f ↔ J ρ f := nri Iff.rfl
@[simp] theorem loopP_ct {J : Rho → Feed → Prop} {P : Ctl → Feed → Prop} {ρ : Rho} {f : Feed} : LoopP J P (.ct ρ) f ↔ J ρ f := nri Iff.rfl
@[simp] theorem loopP_bk {J : Rho → Feed → Prop} {P : Ctl → Feed → Prop} {ρ : Rho} {f : Feed} : LoopP J P (.bk ρ) f ↔ P (.nx ρ) f := nri Iff.rfl
@[simp] theorem loopP_rt {J : Rho → Feed → Prop} {P : Ctl → Feed → Prop} {v : RV} {f : Feed} : LoopP J P (.rt v) f ↔ P (.rt v) f := nri Iff.rfl
theorem ev_forL {T : Tgt} {s : Sm} {P : Ctl → Feed → Prop} (I : List PyData → Rho → Feed → Prop) (hs : ∀ d ds ρ f, I (d :: ds) ρ f → ∃ ρ1, T.put d ρ = some ρ1 ∧ Ev (s ρ1 f) (LoopP (I ds) P)) (he : ∀ ρ f, I [] ρ f → P (.nx ρ) f) :
    ∀ (ds : List PyData) (ρ : Rho) (f : Feed), I ds ρ f → Ev (forN T s ds ρ f) P
  | [], ρ, f, h => ev_ok.mpr (he ρ f h)
  | d :: ds, ρ, f, h => by
    obtain ⟨ρ1, e, c, f1, e2, p⟩ := hs d ds ρ f h
    unfold forN
    rw [e]
    simp only [e2, bind_ok]
    cases c with
    | nx ρ2 => exact ev_forL I hs he ds ρ2 f1 p
    | ct ρ2 => exact ev_forL I hs he ds ρ2 f1 p
    | bk ρ2 => exact ev_ok.mpr p
    | rt v => exact ev_ok.mpr p
/-- by the number of turns done -/
theorem ev_for {T : Tgt} {s : Sm} {P : Ctl → Feed → Prop} (I : Nat → Rho → Feed → Prop) {ds : List PyData} {ρ : Rho} {f : Feed} (h : I 0 ρ f)
    (hs : ∀ i d ρ f, ds[i]? = some d → I i ρ f → ∃ ρ1, T.put d ρ = some ρ1 ∧ Ev (s ρ1 f) (LoopP (I (i + 1)) P)) (he : ∀ ρ f, I ds.length ρ f → P (.nx ρ) f) : Ev (forN T s ds ρ f) P := by
  refine ev_forL (fun r ρ f => ∃ i, ds.drop i = r ∧ i ≤ ds.length ∧ I i ρ f) (fun d r ρ f z => ?_) (fun ρ f z => ?_) ds ρ f ⟨0, rfl, Nat.zero_le _, h⟩
  · obtain ⟨i, e, hi, z⟩ := z
    have g : ds[i]? = some d := by
      rw [← List.head?_drop, e]
      rfl
    have hl : i < ds.length := (List.getElem?_eq_some_iff.mp g).1
    have e2 : ds.drop (i + 1) = r := by
      rw [← List.tail_drop, e]
      rfl
    obtain ⟨ρ1, p, q⟩ := hs i d ρ f g z
    refine ⟨ρ1, p, q.mono fun c f1 w => ?_⟩
    cases c with
    | nx ρ2 => exact ⟨i + 1, e2, hl, w⟩
    | ct ρ2 => exact ⟨i + 1, e2, hl, w⟩
    | bk ρ2 => exact w
    | rt v => exact w
  · obtain ⟨i, e, hi, z⟩ := z
    have : ds.length ≤ i := List.drop_eq_nil_iff.mp e
    have e2 : i = ds.length := by omega
    subst e2
    exact he ρ f z
/-- nothing is drawn in it -/
theorem lc_pure {τ : Type} {T : Tgt} {t : Tx} {e : Ex} {ρ : Rho} {f : Feed} {xs : List τ} {enc g : τ → PyData} {p : τ → Bool} (hl : xs.length ≤ 100000)
    (h : ∀ x ∈ xs, ∃ ρ1, T.put (enc x) ρ = some ρ1 ∧ t ρ1 f = .ok (p x) f ∧ (p x = true → e ρ1 f = .ok (.dat (g x)) f)) : lcN T t e ρ (xs.map enc) [] f = .ok ((xs.filter p).map g) f := by
  have go : ∀ (r : List τ) (acc : List PyData), acc.length + r.length ≤ 100000 → (∀ x ∈ r, ∃ ρ1, T.put (enc x) ρ = some ρ1 ∧ t ρ1 f = .ok (p x) f ∧ (p x = true → e ρ1 f = .ok (.dat (g x)) f)) → lcN T t e ρ (r.map enc) acc f = .ok (acc ++ (r.filter p).map g) f := by
    intro r
    induction r with
    | nil =>
      intro acc _ _
      show R.ok acc f = _
      rw [List.filter_nil, List.map_nil, List.append_nil]
    | cons x r ih =>
      intro acc hl h
      rw [List.length_cons] at hl
      obtain ⟨ρ1, h1, h2, h3⟩ := h x List.mem_cons_self
      show lcN T t e ρ (enc x :: r.map enc) acc f = _
      unfold lcN
      rw [h1]
      simp only [h2, noEx_ok2, bind_ok]
      cases q : p x with
      | false =>
        rw [if_neg (by decide), ih acc (by omega) fun y hy => h y (List.mem_cons_of_mem _ hy), List.filter_cons_of_neg (by rw [q]; decide)]
      | true =>
        rw [if_pos rfl, h3 q, noEx_ok2, dt_ok_dat, if_pos (by omega), ih (acc ++ [g x]) (by rw [List.length_append]; show acc.length + 1 + r.length ≤ 100000; omega) fun y hy => h y (List.mem_cons_of_mem _ hy), List.filter_cons_of_pos q, List.map_cons, List.append_assoc]
        rfl
  exact go xs [] (by simpa using hl) h
theorem lc_map {τ : Type} {T : Tgt} {e : Ex} {ρ : Rho} {f : Feed} {xs : List τ} {enc g : τ → PyData} (hl : xs.length ≤ 100000)
    (h : ∀ x ∈ xs, ∃ ρ1, T.put (enc x) ρ = some ρ1 ∧ e ρ1 f = .ok (.dat (g x)) f) : lcN T cYes e ρ (xs.map enc) [] f = .ok (xs.map g) f := by
  have := lc_pure (t := cYes) (p := fun _ => true) hl fun x hx => by
    obtain ⟨ρ1, a, b⟩ := h x hx
    exact ⟨ρ1, a, rfl, fun _ => b⟩
  rw [this, List.filter_eq_self.mpr fun _ _ => rfl]
theorem whileN_more {t : Tx} {s : Sm} {n m : Nat} {ρ : Rho} {f g : Feed} {c : Ctl} (h : n ≤ m) (e : whileN t s n ρ f = .ok c g) : whileN t s m ρ f = .ok c g := by
  have q := whileN_add (show whileN t s n ρ f ≠ .no by rw [e]; exact fun z => by cases z) (m - n)
  rw [show n + (m - n) = m by omega, e] at q
  exact q
theorem sWhile_is {t : Tx} {s : Sm} {n : Nat} {ρ : Rho} {f g : Feed} {c : Ctl} (e : whileN t s n ρ f = .ok c g) : sWhile t s ρ f = .ok c g := sWhile_eq e fun z => by cases z
theorem ev_while {t : Tx} {s : Sm} {P : Ctl → Feed → Prop} (I : Nat → Rho → Feed → Prop)
    (hs : ∀ n ρ f, I n ρ f → Ev (t ρ f) fun b f1 => (b = true → Ev (s ρ f1) (LoopP (fun ρ2 f2 => ∃ m, m < n ∧ I m ρ2 f2) P)) ∧ (b = false → P (.nx ρ) f1)) {n : Nat} {ρ : Rho} {f : Feed} (h : I n ρ f) : Ev (sWhile t s ρ f) P := by
  have go : ∀ n ρ f, I n ρ f → ∃ c f2, whileN t s (n + 1) ρ f = .ok c f2 ∧ P c f2 := by
    intro n
    induction n using Nat.strongRecOn with
    | ind n ih =>
      intro ρ f h
      obtain ⟨b, f1, e, p, q⟩ := hs n ρ f h
      unfold whileN
      rw [e]
      simp only [bind_ok]
      cases b with
      | false =>
        rw [if_neg (by decide)]
        exact ⟨_, _, rfl, q rfl⟩
      | true =>
        rw [if_pos rfl]
        obtain ⟨c, f2, e2, w⟩ := p rfl
        simp only [e2, bind_ok]
        cases c with
        | bk ρ2 => exact ⟨_, _, rfl, w⟩
        | rt v => exact ⟨_, _, rfl, w⟩
        | nx ρ2 =>
          obtain ⟨m, hm, z⟩ := w
          obtain ⟨c3, f3, e3, p3⟩ := ih m hm ρ2 f2 z
          exact ⟨c3, f3, (whileN_more (by omega) e3), p3⟩
        | ct ρ2 =>
          obtain ⟨m, hm, z⟩ := w
          obtain ⟨c3, f3, e3, p3⟩ := ih m hm ρ2 f2 z
          exact ⟨c3, f3, (whileN_more (by omega) e3), p3⟩
  obtain ⟨c, f2, e, p⟩ := go n ρ f h
  exact ⟨c, f2, sWhile_is e, p⟩
end Dn
namespace Dn
open PySem PySem.Spec L2
section
variable {α β : Type} {ρ : Rho} {f : Feed} {i j : Nat} {x : Ex} {su : Sm} {names : List Str} {c : Str} {vs : List (Str × PyData)}
@[simp] theorem e_raise {fs : List Str} {xs : List Ex} : sRaise c fs xs ρ f = (cArgs xs ρ f).bind fun ds f1 => if ds.length = fs.length ∧ fs.length ≤ 900 then .ex c (fs.zip ds).reverse f1 else .no := nr rfl
@[simp] theorem bind_ex {k : α → Feed → R β} : (R.ex c vs f).bind k = .ex c vs f := nr rfl
@[simp] theorem dt_ex {k : PyData → Feed → R β} : dt (R.ex c vs f) k = .ex c vs f := nr rfl
@[simp] theorem pk_ex {k : PyData → Feed → R β} : pk (R.ex c vs f) k = .ex c vs f := nr rfl
def tryOn (i : Nat) (ρ : Rho) (h : Str → List (Str × PyData) → Feed → R Ctl) : R RV → R Ctl
  | .no => .no
  | .ok rv f1 => match slotOf rv with
    | some s => .ok (.nx (ρ.set i s)) f1
    | none => .no
  | .ex c vs f1 => h c vs f1
def tryRet (h : Str → List (Str × PyData) → Feed → R Ctl) : R RV → R Ctl
  | .no => .no
  | .ok rv f1 => .ok (.rt rv) f1
  | .ex c vs f1 => h c vs f1
@[simp] theorem e_tryS0 : sTryS0 i x names su ρ f = tryOn i ρ (fun c _ f1 => if names.contains c then noEx (su ρ f1) else .no) (x ρ f) := by
  unfold sTryS0 tryOn
  cases x ρ f <;> rfl
@[simp] theorem e_tryS : sTryS i j x names su ρ f = tryOn i ρ (fun c vs f1 => if names.contains c then drp j (noEx (su (ρ.set j (.dat (excD c vs))) f1)) else .no) (x ρ f) := by
  unfold sTryS tryOn caught
  cases x ρ f <;> rfl
@[simp] theorem e_tryR : sTryR j x names su ρ f = tryRet (fun c vs f1 => if names.contains c then drp j (noEx (su (ρ.set j (.dat (excD c vs))) f1)) else .no) (x ρ f) := by
  unfold sTryR tryRet caught
  cases x ρ f <;> rfl
variable {h : Str → List (Str × PyData) → Feed → R Ctl}
@[simp] theorem on_dat {d : PyData} : tryOn i ρ h (.ok (.dat d) f) = .ok (.nx (ρ.set i (.dat d))) f := nr rfl
@[simp] theorem on_own {d : List PyData} : tryOn i ρ h (.ok (.own d) f) = .ok (.nx (ρ.set i (.own d))) f := nr rfl
@[simp] theorem on_ex : tryOn i ρ h (.ex c vs f) = h c vs f := nr rfl
@[simp] theorem ret_ok {rv : RV} : tryRet h (.ok rv f) = .ok (.rt rv) f := nr rfl
@[simp] theorem ret_ex : tryRet h (.ex c vs f) = h c vs f := nr rfl
@[simp] theorem noEx_ok' {a : α} : noEx (.ok a f) = .ok a f := nr rfl
@[simp] theorem drp_nx : drp j (.ok (.nx ρ) f) = .ok (.nx (ρ.set j .emp)) f := nr rfl
@[simp] theorem drp_rt {v : RV} : drp j (.ok (.rt v) f) = .ok (.rt v) f := nr rfl
@[simp] theorem end_nx : dEndX (.ok (.nx ρ) f) = .ok (.dat .none) f := nr rfl
@[simp] theorem end_rt {v : RV} : dEndX (.ok (.rt v) f) = .ok v.up f := nr rfl
@[simp] theorem end_ex : dEndX (.ex c vs f) = .ex c vs f := nr rfl
@[simp] theorem e_excNm {r : List (PyData × PyData)} : excNm (.dict ((.none, .str c) :: r)) = if errNames.contains c then some c else none := nr rfl
@[simp] theorem e_excD : excD c vs = .dict ((.none, .str c) :: vs.map fun p => (.str p.1, p.2)) := nr rfl
end
end Dn
namespace Dn
open PySem PySem.Spec L2
def sUnl (l : List Nat) (e : Ex) : Sm := fun ρ f => dt (e ρ f) fun d f1 => match d with
  | .list ds => if ds.length = l.length then .ok (.nx (setAll l ds ρ)) f1 else .no
  | _ => .no
section
variable {X : Cx} {E : XK} {e : Expr} {x : Ex} {pos : Pos} {l : List Nat} {es : List Expr}
@[simp] theorem e_unl {ρ : Rho} {f : Feed} : sUnl l x ρ f = dt (x ρ f) fun d f1 => match d with
  | .list ds => if ds.length = l.length then .ok (.nx (setAll l ds ρ)) f1 else .no
  | _ => .no := nr rfl
end
end Dn
namespace Dn
open PySem PySem.Spec L2
/-- two names at once, of which one may be given a list that is to grow -/
def sParO (i j : Nat) (a b : Ex) : Sm := fun ρ f => (a ρ f).bind fun rv f1 => (b ρ f1).bind fun rw f2 => match slotOf rv, slotOf rw with
  | some s, some t => .ok (.nx ((ρ.set i s).set j t)) f2
  | _, _ => .no
section
variable {X : Cx} {E : XK} {pos : Pos}
@[simp] theorem e_parO {i j : Nat} {a b : Ex} {ρ : Rho} {f : Feed} : sParO i j a b ρ f = (a ρ f).bind fun rv f1 => (b ρ f1).bind fun rw f2 => match slotOf rv, slotOf rw with
  | some s, some t => .ok (.nx ((ρ.set i s).set j t)) f2
  | _, _ => .no := nr rfl
end
section
variable {X : Cx} {W : Wish} {a b : Expr} {fa fb : Ex} {pos : Pos}
end
end Dn
namespace HT
open PySem PySem.Spec PyProof.Rows
section
variable {prog : Program} {w : World} {A : Around} {E : Value → Shared → Prop} {s : Shared}
end
end HT
namespace Dn
open PySem PySem.Spec L2 PyProof.Rows
section
variable {X : Cx}
def oRevT : Op1
  | .tuple xs => some (.dat (.tuple xs.reverse))
  | _ => none
@[simp] theorem oRevT_tuple {xs : List PyData} : oRevT (.tuple xs) = some (.dat (.tuple xs.reverse)) := nr rfl
end
def oLstRg : Op1
  | .int n => if 0 ≤ n ∧ n ≤ 100000 then some (.own (rangeD 0 n.toNat)) else none
  | _ => none
section
variable {X : Cx} {W : Wish} {a : Expr} {fa : Ex} {p p2 pos pos2 : Pos}
end
@[simp] theorem oLstRg_int {n : Int} : oLstRg (.int n) = if 0 ≤ n ∧ n ≤ 100000 then some (.own (rangeD 0 n.toNat)) else none := nr rfl
end Dn
section
set_option maxHeartbeats 4000000
namespace TI
open PySem PySem.W PySem.Calls PyProof.Rows Builtin
section
variable {M : Model} {A : Around} {E : Value → Shared → Prop} {s : Shared}
/-- the first item of each, none of an empty one -/
inductive Firsts : List (List Int) → List (Option Value) → Prop
  | nil : Firsts [] []
  | no {ks os} : Firsts ks os → Firsts ([] :: ks) (none :: os)
  | yes {n : Int} {ns : List Int} {t : Tok} {ks os} : Firsts ks os → Firsts ((n :: ns) :: ks) (some (.int n t) :: os)
theorem first_run {v : Value} {ns : List Int} {Q : Option Value → Shared → Prop} (h : TS.TupInts s.heap v ns) (hq : ∀ o, (ns = [] → o = none) → (∀ n r, ns = n :: r → ∃ t, o = some (.int n t)) → Q o s) : wpAny M A (firstOfTuple' v) Q E s := by
  obtain ⟨a, xs, rfl, ⟨o, ho, hc, n, hd⟩, i⟩ := h
  rw [kas_first_eq]
  refine wpAny_bind (Looks.here (show Looks M s.heap (typeOf (.ref a)) o.cls from (Looks.ld ho).andThen .now) ?_)
  rw [hc, if_neg (by first | decide | simp)]
  refine wpAny_bind (listItems_at ho hd (wpAny_pure (hq _ (fun e => ?_) fun n r e => ?_)))
  · subst e
    cases q : xs.toList with
    | nil => rw [← Array.getElem?_toList, q]; rfl
    | cons y r => rw [q] at i; cases i
  · subst e
    cases q : xs.toList with
    | nil => rw [q] at i; cases i
    | cons y ys =>
      rw [q] at i
      cases i with
      | cons _ t _ => exact ⟨t, by rw [← Array.getElem?_toList, q]; rfl⟩
theorem firsts_run : ∀ (vs : List Value) (ks : List (List Int)) {Q : List (Option Value) → Shared → Prop}, Paired (fun v ns => TS.TupInts s.heap v ns) vs ks → (∀ os, Firsts ks os → Q os s) → wpAny M A (vs.mapM firstOfTuple') Q E s
  | [], _, _, .nil, h => by rw [List.mapM_nil]; exact wpAny_pure (h [] .nil)
  | v :: vs, ns :: ks, Q, .cons hv hr, h => by
    rw [List.mapM_cons]
    refine wpAny_bind (first_run hv fun o h0 h1 => ?_)
    refine wpAny_bind (firsts_run vs ks (Q := fun os s' => wpAny M A (pure (o :: os)) Q E s') hr fun os hos => wpAny_pure (h _ ?_))
    cases ns with
    | nil =>
      rw [h0 rfl]
      exact .no hos
    | cons n r =>
      obtain ⟨t, e⟩ := h1 n r rfl
      rw [e]
      exact .yes hos
theorem Firsts.len : ∀ {ks os}, Firsts ks os → os.length = ks.length
  | _, _, .nil => rfl
  | _, _, .no h => congrArg (· + 1) h.len
  | _, _, .yes h => congrArg (· + 1) h.len
theorem Firsts.all : ∀ {ks os}, Firsts ks os → os.all (·.isSome) = true → ∀ f ∈ os.filterMap id, ∃ n t, f = Value.int n t
  | _, _, .nil, _, f, hf => by simp at hf
  | _, _, .no h, e, f, hf => by simp at e
  | _, _, .yes (n := n) (t := t) h, e, f, hf => by
    rw [List.all_cons, Option.isSome_some, Bool.true_and] at e
    rw [List.filterMap_cons] at hf
    simp only [_root_.id] at hf
    rcases List.mem_cons.mp hf with rfl | hf
    · exact ⟨_, _, rfl⟩
    · exact h.all e f hf
theorem Firsts.allIff : ∀ {ks os}, Firsts ks os → os.all (·.isSome) = ks.all (fun k => !k.isEmpty)
  | _, _, .nil => rfl
  | _, _, .no h => rfl
  | _, _, .yes h => by
    rw [List.all_cons, List.all_cons, h.allIff]
    rfl
theorem Firsts.headIff : ∀ {ks os}, Firsts ks os → (os[0]?.bind id).isSome = (ks[0]?.any fun k => !k.isEmpty)
  | _, _, .nil => rfl
  | _, _, .no h => rfl
  | _, _, .yes h => rfl
/-- the three ways -/
def wayOf (ks : List (List Int)) : SortKind := if (ks.all fun k => !k.isEmpty) = true then tuples' true else if (ks[0]?.any fun k => !k.isEmpty) = true then general' else oneType'
def WayOf (κ : SortKind) : Prop := κ = tuples' true ∨ κ = general' ∨ κ = oneType'
theorem wayOf_is (ks : List (List Int)) : WayOf (wayOf ks) := by
  unfold wayOf
  split
  · exact .inl rfl
  · split
    · exact .inr (.inl rfl)
    · exact .inr (.inr rfl)
theorem kind_run {vs : List Value} {ks : List (List Int)} {Q : SortKind → Shared → Prop} (h2 : 2 ≤ vs.length) (p : Paired (fun v ns => TS.TupInts s.heap v ns) vs ks) (h : Q (wayOf ks) s) : wpAny M A (keyKind' vs.toArray) Q E s := by
  have hty : ∀ v ∈ vs, Looks M s.heap (typeOf v) (.type "tuple") := fun v hv => by
    obtain ⟨i, hi, e⟩ := List.getElem_of_mem hv
    have g : vs[i]? = some v := by rw [List.getElem?_eq_getElem hi, e]
    obtain ⟨ns, _, a, xs, rfl, ⟨o, ho, hc, n, hd⟩, _⟩ := L2.paired_get p g
    have : Looks M s.heap (typeOf (.ref a)) o.cls := (Looks.ld ho).andThen .now
    rw [hc] at this
    exact this
  rw [kat_kind_eq, List.mapM_toArray, map_eq_pure_bind]
  refine wpAny_bind (wpAny_bind (firsts_run vs ks p fun os hos => wpAny_pure ?_))
  have a1 : (os.toArray.all fun x => x.isSome) = ks.all (fun k => !k.isEmpty) := by
    rw [← hos.allIff]
    simp
  have a2 : ((os.toArray[0]?.bind id).isSome) = (ks[0]?.any fun k => !k.isEmpty) := by
    rw [← hos.headIff]
    simp
  unfold wayOf at h
  by_cases c1 : (os.toArray.all fun x => x.isSome) = true
  · rw [if_pos c1]
    rw [if_pos (a1 ▸ c1)] at h
    refine wpAny_bind (wpAny_rule ?_)
    have hall : os.all (·.isSome) = true := by simpa using c1
    have hint := hos.all hall
    have hlen : (os.filterMap id).length = os.length := by
      have : ∀ l : List (Option Value), l.all (·.isSome) = true → (l.filterMap id).length = l.length := by
        intro l
        induction l with
        | nil => intro _; rfl
        | cons x r ih =>
          intro e
          cases x with
          | none => simp at e
          | some y =>
            rw [List.filterMap_cons]
            simp only [_root_.id]
            rw [List.length_cons, List.length_cons, ih (by simpa using e)]
      exact this os hall
    have hfm : (os.toArray.filterMap id) = (os.filterMap id).toArray := by simp
    rw [hfm, oneTypeOnly'_eq, List.mapM_toArray, map_eq_pure_bind]
    refine wpAny_bind (wpAny_bind (wpAny_bind (kas_mapM (r := .type "int") _ (fun v hv Q' hq => by
      obtain ⟨n, t, rfl⟩ := hint v hv
      exact wpAny_pure hq) (wpAny_pure ?_))))
    have hall2 : ((List.map (fun _ => Value.type "int") (os.filterMap id)).toArray.all fun x => x == Value.type "int") = true := by
      simp only [List.all_toArray, List.all_map, List.all_eq_true]
      intro _ _
      rfl
    have hpos : 0 < (os.filterMap id).length := by
      rw [hlen, hos.len, ← Paired.length p]
      omega
    have h0 : (List.map (fun _ => Value.type "int") (os.filterMap id)).toArray[0]? = some (Value.type "int") := by
      simp [hpos]
    rw [h0]
    simp only [hall2, if_true]
    refine wpAny_pure (wpAny_pure ?_)
    have e : (Option.any (fun x : Value => x != .type "tuple") (some (Value.type "int"))) = true := by first | rfl | decide +kernel
    rw [e]
    exact h
  · rw [if_neg c1]
    rw [if_neg (a1 ▸ c1)] at h
    by_cases c2 : ((os.toArray[0]?.bind id).isSome) = true
    · rw [if_pos c2]
      rw [if_pos (a2 ▸ c2)] at h
      exact wpAny_pure h
    · rw [if_neg (a2 ▸ c2)] at h
      rw [if_neg c2, oneTypeOnly'_eq, List.mapM_toArray, map_eq_pure_bind]
      refine wpAny_bind (wpAny_bind (wpAny_bind (kas_mapM (r := .type "tuple") _ (fun v hv Q' hq => (hty v hv).here hq) (wpAny_pure ?_))))
      have hall2 : ((List.map (fun _ => Value.type "tuple") vs).toArray.all fun x => x == Value.type "tuple") = true := by
        simp only [List.all_toArray, List.all_map, List.all_eq_true]
        intro _ _
        rfl
      have h0 : (List.map (fun _ => Value.type "tuple") vs).toArray[0]? = some (Value.type "tuple") := by
        have : 0 < vs.length := by omega
        simp [this]
      rw [h0]
      simp only [hall2, if_true]
      exact wpAny_pure (wpAny_pure h)
end
section
variable {prog : Program} {w : World} {A : Around} {E : Value → Shared → Prop} {s : Shared}
theorem lex_run {b : Bool} {Q : Bool → Shared → Prop} : ∀ {xs ys : List Value} {ns ms : List Int} (i : Nat) {fin : Bool}, IntsAre xs ns → IntsAre ys ms → (fin = true ↔ xs.length < ys.length) → Q (HT.lexLt ns ms) s → KatLex prog w A b fin Q (xs.zip ys) i s
  | _, _, _, _, i, fin, .nil, .nil, hf, h => by
    have : fin = false := by
      cases fin with
      | false => rfl
      | true => exact absurd (hf.mp rfl) (by simp)
    rw [this]
    exact kat_nil h
  | _, _, _, _, i, fin, .nil, .cons q u hy, hf, h => by
    have : fin = true := hf.mpr (by simp)
    rw [this]
    exact kat_nil h
  | _, _, _, _, i, fin, .cons p t hx, .nil, hf, h => by
    have : fin = false := by
      cases fin with
      | false => rfl
      | true => exact absurd (hf.mp rfl) (by simp)
    rw [this]
    exact kat_nil h
  | _, _, _, _, i, fin, .cons (vs := xs) (ns := ns) p t hx, .cons (vs := ys) (ns := ms) q u hy, hf, h => by
    rw [HT.lexLt_cons] at h
    show KatLex prog w A b fin Q ((Value.int p t, Value.int q u) :: xs.zip ys) i s
    refine kat_cons (wpAny_eqBool_int ?_)
    by_cases e : p = q
    · subst e
      rw [beq_self_eq_true]
      rw [if_pos rfl] at h
      exact kat_yes (lex_run (i + 1) hx hy (by rw [hf, List.length_cons, List.length_cons]; omega) h)
    · rw [show (p == q) = false from beq_eq_false_iff_ne.mpr e]
      rw [if_neg e] at h
      exact kat_no (TS.oneLt_ints _ h)
theorem lt_call {a b : Addr} {items items2 : Array Value} {ns ms : List Int} {Q : Value → Shared → Prop} (hl : IsTup s.heap a items) (hb : IsTup s.heap b items2) (ia : IntsAre items.toList ns) (ib : IntsAre items2.toList ms) (h : Q (.bool (HT.lexLt ns ms)) s) :
    wpAny (model prog w) A (call (.builtin "tuple.__lt__") [.ref a, .ref b]) Q E s := by
  obtain ⟨⟨cls, dd, data, sl⟩, ho, hc, n, hd⟩ := id hl
  obtain ⟨⟨cls2, dd2, data2, sl2⟩, ho2, hc2, n2, hd2⟩ := id hb
  simp only at hc hd hc2 hd2
  subst hc hd hc2 hd2
  refine wpAny_call (codeAny_call_builtin PySem.F.slot_tuple_lt.plain PySem.F.entry_tuple_lt (PySem.F.slot_tuple_lt.check _ _ _ _ _ _ _ _ ⟨_, ho, rfl⟩ (PySem.F.args_tuple_lt_2 _ _) ?_))
  refine wpAny_mono (HT.tuple_lt_ints a b items items2 n n2 dd dd2 sl sl2 ns ms ia ib prog w _ (wants Q E) s ⟨ho, ho2, h⟩) (fun fin s' q => ?_) fun _ _ z => z
  cases fin with
  | done f => exact q
  | again c => exact q
theorem lt_one {f : Bool} {v u : Value} {ns ms : List Int} {Q : Bool → Shared → Prop} (hu : A.units < cLine) (hv : TS.TupInts s.heap v ns) (hw : TS.TupInts s.heap u ms) (h : Q (HT.lexLt ns ms) s) : wpAny (model prog w) A (oneLt' f v u) Q E s := by
  obtain ⟨a, xs, rfl, pa, ia⟩ := hv
  obtain ⟨b, ys, rfl, pb, ib⟩ := hw
  cases f with
  | false => exact kat_one _ _ (HT.lt_tupInts pa pb ia ib hu h)
  | true =>
    have sp : Looks (model prog w) s.heap (specialOf (.ref a) "__lt__") (some (.builtin "tuple.__lt__")) := by
      obtain ⟨o, ho, hc, n, hd⟩ := pa
      have q : Looks (model prog w) s.heap (typeOf (.ref a)) (.type "tuple") := by
        have z : Looks (model prog w) s.heap (typeOf (.ref a)) o.cls := (Looks.ld ho).andThen .now
        rwa [hc] at z
      exact q.andThen (Looks.of_pure PySem.F.slot_tuple_lt.lookup)
    rw [oneLt'_eq]
    simp only [if_true]
    refine wpAny_bind (wpAny_cRoomFor hu ?_)
    refine wpAny_bind (NtL.csib (E := E) sp (PySem.F.slot_tuple_lt.bind _) (lt_call pa pb ia ib ?_))
    exact wpAny_truthy_bool h
theorem cmp_run {κ : SortKind} (hκ : WayOf κ) {v u : Value} {ns ms : List Int} {Q : Bool → Shared → Prop} (hu : A.units < cLine) (hv : TS.TupInts s.heap v ns) (hw : TS.TupInts s.heap u ms) (h : Q (HT.lexLt ns ms) s) : wpAny (model prog w) A (keyLt' κ v u) Q E s := by
  rcases hκ with rfl | rfl | rfl
  · obtain ⟨a, xs, rfl, ⟨o, ho, hc, n, hd⟩, ia⟩ := hv
    obtain ⟨b, ys, rfl, ⟨o2, ho2, hc2, n2, hd2⟩, ib⟩ := hw
    exact kat_lt ho hd ho2 hd2 (lex_run 0 ia ib (by rw [decide_eq_true_eq, Array.length_toList, Array.length_toList]) h)
  · exact lt_one (f := false) hu hv hw h
  · exact lt_one (f := true) hu hv hw h
theorem sortable {a : Addr} {vs : List Value} (h2 : 2 ≤ vs.length) (hu : A.units < cLine) (hv : ∀ v ∈ vs, TS.TupInts s.heap v (TS.intsOf s.heap v)) (ha : ∀ o, s.heap.get? a = some o → o.cls ≠ .type "tuple") : SrtO.SortableO prog w A s a vs fun v u => HT.lexLt (TS.intsOf s.heap v) (TS.intsOf s.heap u) := by
  intro h' keep
  have hv' : ∀ v ∈ vs, TS.TupInts h' v (TS.intsOf s.heap v) := fun v hm => (hv v hm).keeps fun b o e c => keep b o (fun z => by subst z; exact ha o e c) e
  have pr : ∀ l : List Value, (∀ v ∈ l, v ∈ vs) → Paired (fun v ns => TS.TupInts h' v ns) l (l.map fun v => TS.intsOf s.heap v) := by
    intro l
    induction l with
    | nil => intro _; exact .nil
    | cons v r ih => intro q; exact .cons (hv' v (q v List.mem_cons_self)) (ih fun u hu => q u (List.mem_cons_of_mem _ hu))
  refine ⟨wayOf (vs.map fun v => TS.intsOf s.heap v), fun Q E hq => kind_run (s := { s with heap := h' }) h2 (pr vs fun _ h => h) hq, ?_⟩
  intro p q hp hq
  exact cmp_run (s := { s with heap := h' }) (Q := fun r s' => s' = { s with heap := h' } ∧ r = HT.lexLt (TS.intsOf s.heap p.1) (TS.intsOf s.heap q.1)) (wayOf_is _) hu (hv' p.1 hp) (hv' q.1 hq) ⟨rfl, rfl⟩
end
end TI
namespace L2
open PySem PySem.Spec PyProof.Rows
theorem paired_ks {K : PySem.W.Frag} {H : Hp} {h : Heap} {Ψ : V → List Int → Prop} : ∀ {xs : List V} {ks : List (List Int)} {us : List Value}, Vals xs us → Paired (fun x k => (∃ t, x = V.ref t ∧ SqT K H t (k.map V.int)) ∧ Ψ x k) xs ks →
    (∀ (t : Addr) (k : List Int), SqT K H t (k.map V.int) → TS.TupInts h (.ref t) k) → ks = us.map (TS.intsOf h) ∧ ∀ u ∈ us, ∃ t, u = Value.ref t ∧ TS.TupInts h u (TS.intsOf h u) ∧ Ψ (.ref t) (TS.intsOf h u)
  | _, _, _, .nil, .nil, _ => ⟨rfl, fun u hu => absurd hu (by simp)⟩
  | _, _, _, .cons r1 r2, .cons (b := k) ⟨⟨t, e, ht⟩, hψ⟩ p2, ti => by
    subst e
    cases r1
    have h1 := ti t k ht
    obtain ⟨e1, e2⟩ := paired_ks r2 p2 ti
    have e3 := h1.ints
    refine ⟨by rw [List.map_cons, ← e1, e3], fun u hu => ?_⟩
    rcases List.mem_cons.mp hu with rfl | hu
    · exact ⟨t, rfl, by rw [e3]; exact h1, by rw [e3]; exact hψ⟩
    · exact e2 u hu
theorem paired_out {h : Heap} {Ψ : V → List Int → Prop} : ∀ {us : List Value}, (∀ u ∈ us, ∃ t, u = Value.ref t ∧ TS.TupInts h u (TS.intsOf h u) ∧ Ψ (.ref t) (TS.intsOf h u)) → Paired Ψ (us.map backV) (us.map (TS.intsOf h))
  | [], _ => .nil
  | u :: us, hu => by
    obtain ⟨t, e, _, q⟩ := hu u List.mem_cons_self
    subst e
    exact .cons q (paired_out fun v hv => hu v (List.mem_cons_of_mem _ hv))
section
variable {X : Cx}
end
end L2
namespace Dn
open PySem PySem.Spec L2
def lexLe (a b : List Int) : Bool := !HT.lexLt b a
theorem lexLe_total (a b : List Int) : (lexLe a b || lexLe b a) = true := by
  unfold lexLe
  cases h : HT.lexLt b a with
  | false => rfl
  | true => rw [NtL.lex_asym b a h]; rfl
theorem lexLe_trans (a b c : List Int) (h1 : lexLe a b = true) (h2 : lexLe b c = true) : lexLe a c = true := by
  unfold lexLe at *
  rw [NtL.lex_tr a b c (by simpa using h1) (by simpa using h2)]
  rfl
theorem lex_eq : ∀ {a b : List Int}, HT.lexLt a b = false → HT.lexLt b a = false → a = b
  | [], [], _, _ => rfl
  | [], y :: ys, h, _ => by rw [HT.lexLt_nil_cons] at h; cases h
  | x :: xs, [], _, h => by rw [HT.lexLt_nil_cons] at h; cases h
  | x :: xs, y :: ys, h1, h2 => by
    rw [HT.lexLt_cons] at h1 h2
    by_cases e : x = y
    · subst e
      rw [if_pos rfl] at h1 h2
      rw [lex_eq h1 h2]
    · rw [if_neg e] at h1
      rw [if_neg (fun q => e q.symm)] at h2
      have a := of_decide_eq_false h1
      have b := of_decide_eq_false h2
      omega
def Srt (l : List (List Int)) : Prop := l.Pairwise fun p q => HT.lexLt q p = false
theorem srt_uniq : ∀ {l m : List (List Int)}, Srt l → Srt m → l.Perm m → l = m
  | [], m, _, _, h => (List.Perm.eq_nil h.symm).symm
  | x :: l, [], _, _, h => absurd h.length_eq (by simp)
  | x :: l, y :: m, hl, hm, h => by
    have h1 : HT.lexLt x y = false := by
      rcases List.mem_cons.mp (h.mem_iff.mp (List.mem_cons_self (a := x) (l := l))) with e | hx
      · rw [e]
        exact (NtL.swo_lexL (α := List Int) id).refl y
      · exact (List.pairwise_cons.mp hm).1 x hx
    have h2 : HT.lexLt y x = false := by
      rcases List.mem_cons.mp (h.mem_iff.mpr (List.mem_cons_self (a := y) (l := m))) with e | hy
      · rw [e]
        exact (NtL.swo_lexL (α := List Int) id).refl x
      · exact (List.pairwise_cons.mp hl).1 y hy
    have e := lex_eq h1 h2
    subst e
    rw [srt_uniq (List.pairwise_cons.mp hl).2 (List.pairwise_cons.mp hm).2 h.cons_inv]
def sortL (l : List (List Int)) : List (List Int) := l.mergeSort lexLe
theorem sortL_perm (l : List (List Int)) : (sortL l).Perm l := List.mergeSort_perm l lexLe
theorem sortL_srt (l : List (List Int)) : Srt (sortL l) := by
  have h := List.pairwise_mergeSort (le := lexLe) (fun a b c => lexLe_trans a b c) (fun a b => lexLe_total a b) l
  exact h.imp fun {a b} q => by
    unfold lexLe at q
    simpa using q
/-- a sorted list of the same items is what sorted tells -/
theorem sortL_is {l m : List (List Int)} (h : Srt m) (p : m.Perm l) : sortL l = m := srt_uniq (sortL_srt l) h ((sortL_perm l).trans p.symm)
def tupsOf : List PyData → Option (List (List Int))
  | [] => some []
  | .tuple xs :: r => match intsOf xs, tupsOf r with
    | some ns, some ks => some (ns :: ks)
    | _, _ => none
  | _ :: _ => none
abbrev tupI (ns : List Int) : PyData := .tuple (ns.map PyData.int)
theorem intsOf_map : ∀ ns : List Int, intsOf (ns.map PyData.int) = some ns
  | [] => rfl
  | n :: r => by
    rw [List.map_cons]
    unfold intsOf
    rw [intsOf_map r]
    rfl
theorem tupsOf_map : ∀ ks : List (List Int), tupsOf (ks.map tupI) = some ks
  | [] => rfl
  | k :: r => by
    rw [List.map_cons]
    unfold tupsOf
    rw [intsOf_map k, tupsOf_map r]
def oSortT : Op1
  | .list ds => match tupsOf ds with
    | some ks => some (.own ((sortL ks).map tupI))
    | none => none
  | _ => none
@[simp] theorem oSortT_list {ks : List (List Int)} : oSortT (.list (ks.map tupI)) = some (.own ((sortL ks).map tupI)) := by
  show (match tupsOf (ks.map tupI) with
    | some ks => some (RV.own ((sortL ks).map tupI))
    | none => none) = _
  rw [tupsOf_map]
end Dn
namespace L2
open PySem PySem.Spec PyProof.Rows
end L2
namespace Dn
open PySem PySem.Spec L2
end Dn
end
section
set_option maxHeartbeats 4000000
namespace Dn
open PySem PySem.Spec L2
mutual
def bare : PyData → Bool
  | .list xs => bareAll xs
  | .tuple xs => bareAll xs
  | .dict kvs => bareKv kvs
  | _ => true
def bareAll : List PyData → Bool
  | [] => true
  | x :: xs => bare x && bareAll xs
def bareKv : List (PyData × PyData) → Bool
  | [] => true
  | (k, v) :: r => bareKey k && bare v && bareKv r
def bareKey : PyData → Bool
  | .int _ => true
  | .str _ => true
  | _ => false
end
structure Rp (P : Program) (w : World) (h : Heap) (u : Value) (d : PyData) : Prop where
  ok : ∃ as bs, Reads h u d as ∧ ReadAtMost h d.depth bs ∧ ReprK P w bs h d.depth u d.shown
structure RpAll (P : Program) (w : World) (h : Heap) (us : List Value) (ds : List PyData) : Prop where
  ok : ∃ as bs, ReadsAll h us ds as ∧ ReadAtMost h (PyData.depthAll ds) bs ∧ ReprAllK P w bs h (PyData.depthAll ds) us (PyData.shownAll ds)
theorem read_up {h : Heap} {n m : Nat} {bs : List Addr} (q : ReadAtMost h n bs) (l : n ≤ m) : ReadAtMost h m bs := fun b hb => by
  obtain ⟨d, as, r, k⟩ := q b hb
  exact ⟨d, as, r, by omega⟩
theorem read_or {h : Heap} {n : Nat} {bs cs : List Addr} (q : ReadAtMost h n bs) (r : ReadAtMost h n cs) : ReadAtMost h n (bs ++ cs) := fun b hb => by
  rcases List.mem_append.mp hb with hb | hb
  · exact q b hb
  · exact r b hb
theorem read_one {h : Heap} {a : Addr} {d : PyData} {as bs : List Addr} {n : Nat} (r : Reads h (.ref a) d as) (l : n ≤ d.depth) (q : ReadAtMost h n bs) : ReadAtMost h d.depth (a :: bs) := fun b hb => by
  rcases List.mem_cons.mp hb with e | hb
  · exact ⟨d, as, e ▸ r, Nat.le_refl _⟩
  · exact read_up q l b hb
theorem read_not {h : Heap} {a : Addr} {d : PyData} {as bs : List Addr} {n : Nat} (r : Reads h (.ref a) d as) (l : n < d.depth) (q : ReadAtMost h n bs) : a ∉ bs := fun hm => by
  obtain ⟨e, cs, r2, k⟩ := q a hm
  have := (PyProof.Rows.reads_det (fun _ _ z _ => z) r r2).1
  rw [this] at k
  omega
section
variable {X : Cx} {pins : List (Addr × Obj)} {σ : St} {H : Hp} {s : Shared}
theorem pairs_kv {P : Program} {w : World} : ∀ {es : List DictEntry} {vs : List (Key × Value)}, Pairs (mixKind P w) es vs → Vals (vs.map fun p => kV p.1) (es.map (·.key)) ∧ es.map (·.val) = vs.map (·.2)
  | _, _, .nil => ⟨.nil, rfl⟩
  | _, _, .cons (e := e) (kv := kv) h1 h2 r => by
    obtain ⟨k1, k2⟩ := pairs_kv r
    refine ⟨.cons ?_ k1, by rw [List.map_cons, List.map_cons, h2, k2]⟩
    show RelV (kV kv.1) e.key
    rcases keyIs_shape (show keyIs kv.1 e.key = true from h1) with ⟨i, t, ek, ev⟩ | ⟨z, t, ek, ev⟩
    · rw [ek, ev]
      exact ⟨t, rfl⟩
    · rw [ek, ev]
      exact ⟨t, rfl⟩
theorem kv_vals : ∀ {xs : List (Key × V)} {vs : List (Key × Value)}, KV xs vs → Vals (xs.map (·.2)) (vs.map (·.2))
  | _, _, .nil => .nil
  | _, _, .cons h r => .cons h.2 (kv_vals r)
theorem kt_vals {H : Hp} : ∀ {xs : List (List Key × V)} {vs : List (List Key × Addr × Value)}, KT H xs vs → Vals (xs.map (·.2)) (vs.map (·.2.2))
  | _, _, .nil => .nil
  | _, _, .cons h r => .cons h.2.2 (kt_vals r)
/-- a dict as it lies there -/
theorem dict_at (I : Inv X pins σ H s) {a : Addr} {ks : List (PyData × PyData)} (d : DR X.K H (.ref a) (.dict ks)) (nb : bareKv ks = true) : (a == sysModules) = false ∧ ∃ o es n, s.heap.get? a = some o ∧ o.cls = .type "dict" ∧ o.data = .dict es n ∧
    ∃ vk vv, Vals vk (es.toList.map (·.key)) ∧ DRs X.K H vk (ks.map (·.1)) ∧ Vals vv (es.toList.map (·.val)) ∧ DRs X.K H vv (ks.map (·.2)) := by
  cases d with
  | @dic _ xs _ e k r =>
    obtain ⟨hz, h2, vs, kv, o, es, ep, h3, h4, h5, _, h6, _⟩ := dk_of I.hok e
    obtain ⟨q1, q2⟩ := pairs_kv h6
    refine ⟨h2, o, es, ep, h3, h4.1, h5, vs.map (fun p => kV p.1), xs.map (·.2), q1, ?_, by rw [q2]; exact kv_vals kv, r⟩
    have e2 : (vs.map fun p => kV p.1) = xs.map fun p => kV p.1 := by
      have := congrArg (List.map kV) kv.keys
      rw [List.map_map, List.map_map] at this
      exact this.symm
    rw [e2, k]
    clear hz e k r kv h6 q1 q2 e2
    induction xs with
    | nil => exact .nil
    | cons x xs ih =>
      refine .cons ?_ ih
      obtain ⟨x1, x2⟩ := x
      cases x1 with
      | inl i => exact .int i
      | inr z => exact .str z
  | exc h1 h2 h3 h4 => simp [bareKv, bareKey] at nb
  | dit h1 h2 h3 => simp [bareKv, bareKey] at nb
theorem keys_rp {K : PySem.W.Frag} (P : Program) (w : World) (h : Heap) : ∀ {ks : List (PyData × PyData)} {vk : List V} {us : List Value}, DRs K H vk (ks.map (·.1)) → Vals vk us → bareKv ks = true → PyData.showableAll (ks.map (·.1)) = true → (∀ t ∈ PyData.shownAll (ks.map (·.1)), t.length ≤ sizeLine) → RpAll P w h us (ks.map (·.1))
  | [], _, _, d, r, _, _, _ => by
    cases d
    cases r
    exact ⟨[], [], ReadsAll.nil, (fun _ z => nomatch z), by simp only [List.map_nil, PyData.shownAll]; exact .nil⟩
  | (k, v) :: ks, _, us, d, r, nb, sh, z => by
    cases d with
    | cons h1 h2 =>
      cases r with
      | cons r1 r2 =>
        have n2 : (bareKey k = true ∧ bare v = true) ∧ bareKv ks = true := by simpa [bareKv] using nb
        have s2 : k.showable = true ∧ PyData.showableAll (ks.map (·.1)) = true := by simpa [PyData.showableAll] using sh
        have zk : k.shown.length ≤ sizeLine := z _ (by simp only [List.map_cons, PyData.shownAll]; exact List.mem_cons_self)
        obtain ⟨as, bs, q1, q2, q3⟩ := (keys_rp P w h h2 r2 n2.2 s2.2 fun t ht => z t (by simp only [List.map_cons, PyData.shownAll]; exact List.mem_cons_of_mem _ ht)).ok
        rename_i u0 _
        have one : Rp P w h u0 k := by
          cases k <;> try (simp [bareKey] at n2; done)
          · cases h1
            obtain ⟨t, rfl⟩ := r1
            exact ⟨[], [], Reads.int _ t, (fun _ z => nomatch z), by simp only [PyData.shown]; exact .of_is (ReprIs.int t (by simpa [PyData.showable] using s2.1)) _ _ _⟩
          · cases h1
            obtain ⟨t, rfl⟩ := r1
            exact ⟨[], [], Reads.str _ t, (fun _ z => nomatch z), by simp only [PyData.shown]; exact .of_is (ReprIs.str _ t (by simpa only [PyData.shown] using zk)) _ _ _⟩
        obtain ⟨cs, es, k1, k2, k3⟩ := one.ok
        refine ⟨cs ++ as, es ++ bs, ReadsAll.cons k1 q1, ?_, ?_⟩
        · simp only [List.map_cons, PyData.depthAll]
          exact read_or (read_up k2 (by omega)) (read_up q2 (by omega))
        · simp only [List.map_cons, PyData.depthAll, PyData.shownAll]
          refine .cons ((k3.more fun b hb => List.mem_append_left _ hb).level_le (by omega)) (q3.more_le (fun b hb => List.mem_append_right _ hb) (by omega))
mutual
theorem DR.rp (I : Inv X pins σ H s) : ∀ (d : PyData) (v : V) (u : Value), DR X.K H v d → RelV v u → bare d = true → d.showable = true → d.shown.length ≤ sizeLine → Rp X.prog X.w s.heap u d
  | .none, v, u, h, r, _, _, _ => by
    cases h
    cases r
    exact ⟨[], [], Reads.none, (fun _ z => nomatch z), by simp only [PyData.shown]; exact .of_is ReprIs.none _ _ _⟩
  | .bool b, v, u, h, r, _, _, _ => by
    cases h
    cases r
    exact ⟨[], [], Reads.bool b, (fun _ z => nomatch z), by simp only [PyData.shown]; exact .of_is (ReprIs.bool b) _ _ _⟩
  | .int i, v, u, h, r, _, sh, _ => by
    cases h
    obtain ⟨t, rfl⟩ := r
    exact ⟨[], [], Reads.int i t, (fun _ z => nomatch z), by simp only [PyData.shown]; exact .of_is (ReprIs.int t (by simpa [PyData.showable] using sh)) _ _ _⟩
  | .str x, v, u, h, r, _, _, z => by
    cases h
    obtain ⟨t, rfl⟩ := r
    exact ⟨[], [], Reads.str x t, (fun _ z => nomatch z), by simp only [PyData.shown]; exact .of_is (ReprIs.str x t (by simpa only [PyData.shown] using z)) _ _ _⟩
  | .list ds, v, u, h, r, nb, sh, z => by
    cases h with
    | lst h1 h2 =>
      rename_i a xs
      cases r
      obtain ⟨its, rv, ⟨o, n, ho, hc, _, hd⟩, _⟩ := I.list (.inl (.inl h1) : SqL X.K H a xs)
      have z2 : (listText (PyData.shownAll ds)).length ≤ sizeLine := by simpa only [PyData.shown] using z
      obtain ⟨as, bs, q1, q2, q3⟩ := (DRs.rp I ds xs its h2 rv (by simpa [bare] using nb) (by simpa [PyData.showable] using sh) fun t ht => Nat.le_trans (listText_mem_le ht) z2).ok
      have rd : Reads s.heap (.ref a) (.list ds) (a :: as) := Reads.list ho hc hd q1
      have na : a ∉ bs := read_not rd (by simp only [PyData.depth]; omega) q2
      refine ⟨a :: as, a :: bs, rd, read_one rd (by simp only [PyData.depth]; omega) q2, ?_⟩
      simp only [PyData.depth, PyData.shown]
      cases its with
      | nil =>
        cases q1
        simp only [PyData.shownAll, listText_nil]
        exact ReprK.listEmpty ho hc hd
      | cons x l => exact ReprK.list ho hc hd na (by simpa using q3.length_eq) fun i y e => q3.item i y (by simpa using e)
  | .tuple ds, v, u, h, r, nb, sh, z => by
    cases h with
    | tup h1 h2 =>
      rename_i a xs
      cases r
      obtain ⟨its, rv, ⟨o, ho, hc, n, hd⟩, _⟩ := I.tuple h1
      have z2 : (tupleText (PyData.shownAll ds)).length ≤ sizeLine := by simpa only [PyData.shown] using z
      obtain ⟨as, bs, q1, q2, q3⟩ := (DRs.rp I ds xs its h2 rv (by simpa [bare] using nb) (by simpa [PyData.showable] using sh) fun t ht => Nat.le_trans (tupleText_mem_le ht) z2).ok
      have rd : Reads s.heap (.ref a) (.tuple ds) as := Reads.tuple ho hc hd q1
      have na : a ∉ bs := read_not rd (by simp only [PyData.depth]; omega) q2
      refine ⟨as, a :: bs, rd, read_one rd (by simp only [PyData.depth]; omega) q2, ?_⟩
      simp only [PyData.depth, PyData.shown]
      exact ReprK.tuple ho hc hd na q3
  | .dict ks, v, u, h, r, nb, sh, z => by
    have nb2 : bareKv ks = true := by simpa [bare] using nb
    have ha : ∃ a, v = .ref a := by cases h <;> exact ⟨_, rfl⟩
    obtain ⟨a, rfl⟩ := ha
    cases r
    obtain ⟨e1, o, es, n, e2, e3, e4, vk, vv, q1, q2, q3, q4⟩ := dict_at I h nb2
    obtain ⟨hs1, hs2⟩ := PyData.showableKv_split ks (by simpa [PyData.showable] using sh)
    have z2 : (dictText (PyData.shownKv ks)).length ≤ sizeLine := by simpa only [PyData.shown] using z
    obtain ⟨as, bs, y1, y2, y3⟩ := (keys_rp X.prog X.w s.heap q2 q1 nb2 hs1 fun t ht => let ⟨p, hp, hl⟩ := PyData.shownKv_key_le ks t ht; Nat.le_trans hl (Nat.le_trans (dictText_mem_le hp) z2)).ok
    obtain ⟨cs, ds, x1, x2, x3⟩ := (DRk.rp I ks vv _ q4 q3 nb2 hs2 fun t ht => let ⟨p, hp, hl⟩ := PyData.shownKv_val_le ks t ht; Nat.le_trans hl (Nat.le_trans (dictText_mem_le hp) z2)).ok
    have rd : Reads s.heap (.ref a) (.dict ks) (a :: as ++ cs) := Reads.dict e2 e3 e4 y1 x1
    have hb : ReadAtMost s.heap (PyData.depthKv ks) (bs ++ ds) := read_or (read_up y2 (PyData.depthAll_keys_le ks)) (read_up x2 (PyData.depthAll_vals_le ks))
    have na : a ∉ bs ++ ds := read_not rd (by simp only [PyData.depth]; omega) hb
    refine ⟨_, a :: (bs ++ ds), rd, read_one rd (by simp only [PyData.depth]; omega) hb, ?_⟩
    simp only [PyData.depth, PyData.shown, PyData.shownKv_eq]
    exact ReprK.dict e2 e3 e4 e1 na (ReprEntriesK.of_two es.toList _ _ (y3.more_le (fun b hb => List.mem_append_left _ hb) (PyData.depthAll_keys_le ks)) (x3.more_le (fun b hb => List.mem_append_right _ hb) (PyData.depthAll_vals_le ks)))
theorem DRs.rp (I : Inv X pins σ H s) : ∀ (ds : List PyData) (vs : List V) (us : List Value), DRs X.K H vs ds → Vals vs us → bareAll ds = true → PyData.showableAll ds = true → (∀ t ∈ PyData.shownAll ds, t.length ≤ sizeLine) → RpAll X.prog X.w s.heap us ds
  | [], _, _, h, r, _, _, _ => by
    cases h
    cases r
    exact ⟨[], [], ReadsAll.nil, (fun _ z => nomatch z), by simp only [PyData.shownAll]; exact .nil⟩
  | d :: ds, _, _, h, r, nb, sh, z => by
    cases h with
    | cons h1 h2 =>
      cases r with
      | cons r1 r2 =>
        have n2 : bare d = true ∧ bareAll ds = true := by simpa [bareAll] using nb
        have s2 : d.showable = true ∧ PyData.showableAll ds = true := by simpa [PyData.showableAll] using sh
        obtain ⟨as, bs, q1, q2, q3⟩ := (DR.rp I d _ _ h1 r1 n2.1 s2.1 (z _ (by simp only [PyData.shownAll]; exact List.mem_cons_self))).ok
        obtain ⟨cs, es, k1, k2, k3⟩ := (DRs.rp I ds _ _ h2 r2 n2.2 s2.2 fun t ht => z t (by simp only [PyData.shownAll]; exact List.mem_cons_of_mem _ ht)).ok
        refine ⟨as ++ cs, bs ++ es, ReadsAll.cons q1 k1, ?_, ?_⟩
        · simp only [PyData.depthAll]
          exact read_or (read_up q2 (by omega)) (read_up k2 (by omega))
        · simp only [PyData.depthAll, PyData.shownAll]
          refine .cons ((q3.more fun b hb => List.mem_append_left _ hb).level_le (by omega)) (k3.more_le (fun b hb => List.mem_append_right _ hb) (by omega))
theorem DRk.rp (I : Inv X pins σ H s) : ∀ (ds : List (PyData × PyData)) (vs : List V) (us : List Value), DRs X.K H vs (ds.map (·.2)) → Vals vs us → bareKv ds = true → PyData.showableAll (ds.map (·.2)) = true → (∀ t ∈ PyData.shownAll (ds.map (·.2)), t.length ≤ sizeLine) → RpAll X.prog X.w s.heap us (ds.map (·.2))
  | [], _, _, h, r, _, _, _ => by
    cases h
    cases r
    exact ⟨[], [], ReadsAll.nil, (fun _ z => nomatch z), by simp only [List.map_nil, PyData.shownAll]; exact .nil⟩
  | (k, d) :: ds, _, _, h, r, nb, sh, z => by
    cases h with
    | cons h1 h2 =>
      cases r with
      | cons r1 r2 =>
        have n2 : (bareKey k = true ∧ bare d = true) ∧ bareKv ds = true := by simpa [bareKv] using nb
        have s2 : d.showable = true ∧ PyData.showableAll (ds.map (·.2)) = true := by simpa [PyData.showableAll] using sh
        obtain ⟨as, bs, q1, q2, q3⟩ := (DR.rp I d _ _ h1 r1 n2.1.2 s2.1 (z _ (by simp only [List.map_cons, PyData.shownAll]; exact List.mem_cons_self))).ok
        obtain ⟨cs, es, k1, k2, k3⟩ := (DRk.rp I ds _ _ h2 r2 n2.2 s2.2 fun t ht => z t (by simp only [List.map_cons, PyData.shownAll]; exact List.mem_cons_of_mem _ ht)).ok
        refine ⟨as ++ cs, bs ++ es, ReadsAll.cons q1 k1, ?_, ?_⟩
        · simp only [List.map_cons, PyData.depthAll]
          exact read_or (read_up q2 (by omega)) (read_up k2 (by omega))
        · simp only [List.map_cons, PyData.depthAll, PyData.shownAll]
          refine .cons ((q3.more fun b hb => List.mem_append_left _ hb).level_le (by omega)) (k3.more_le (fun b hb => List.mem_append_right _ hb) (by omega))
end
end
theorem Top.dr {K : PySem.W.Frag} {g : Gh} {H HF : Hp} {v : V} {d : PyData} (t : Top K g H HF v d) (l : Le HF H) : DR K H v d := by
  rcases t with h | ⟨p, vs, ds, rfl, rfl, _, h4, h5⟩
  · exact h.mono l
  · exact .lst h4 (h5.mono l)
/-- may be shown, empty dicts within too -/
def showsX (d : PyData) : Bool := bare d && d.showable && decide (d.depth ≤ 60) && decide (d.shown.length ≤ 10000000)
section
variable {X : Cx} {W : Wish} {a : Expr} {fa : Ex} {p pos : Pos}
end
section
variable {X : Cx} {W : Wish} {a b : Expr} {fa fb : Ex} {pos : Pos}
end
end Dn
end
namespace SrtO
open PySem PySem.W PySem.Calls PyProof.Rows Builtin Srt
section
variable {prog : Program} {w : World} {A : Around} {E : Value → Shared → Prop} {s : Shared}
end
end SrtO
namespace L2
open PySem PySem.Spec PyProof.Rows
section
variable {X : Cx}
end
end L2
namespace Dn
open PySem PySem.Spec L2
/-- sorted of a tuple of tuples of whole numbers -/
def oSortTT : Op1
  | .tuple ds => match tupsOf ds with
    | some ks => some (.own ((sortL ks).map tupI))
    | none => none
  | _ => none
@[simp] theorem oSortTT_tup {ks : List (List Int)} : oSortTT (.tuple (ks.map tupI)) = some (.own ((sortL ks).map tupI)) := by
  show (match tupsOf (ks.map tupI) with
    | some ks => some (RV.own ((sortL ks).map tupI))
    | none => none) = _
  rw [tupsOf_map]
end Dn
section
set_option maxHeartbeats 4000000
namespace L2
open PySem PySem.Spec PyProof.Rows PySem.W PySem.Calls Builtin Srt
section
variable {X : Cx}
end
end L2
namespace Dn
open PySem PySem.Spec L2
def ddi : List Int → List Int
  | [] => []
  | k :: r => if k ∈ r then ddi r else k :: ddi r
theorem len_sub : ∀ {l m : List Int}, l.Nodup → (∀ k, k ∈ l → k ∈ m) → l.length ≤ m.length
  | [], m, _, _ => Nat.zero_le _
  | x :: l, m, hn, h => by
    obtain ⟨h1, h2⟩ := List.nodup_cons.mp hn
    have hx := h x List.mem_cons_self
    have := len_sub (l := l) (m := m.erase x) h2 fun k hk => (List.mem_erase_of_ne (fun e => h1 (by rw [← e]; exact hk))).mpr (h k (List.mem_cons_of_mem _ hk))
    rw [List.length_erase_of_mem hx] at this
    have := List.length_pos_of_mem hx
    rw [List.length_cons]
    omega
/-- unlike numbers, rising -/
def riseI (l : List Int) : List Int := (ddi l).mergeSort fun x y => decide (x ≤ y)
theorem rise_uniq : ∀ {a b : List Int}, a.Pairwise (· < ·) → b.Pairwise (· < ·) → (∀ k, k ∈ a ↔ k ∈ b) → a = b
  | [], [], _, _, _ => rfl
  | [], y :: b, _, _, h => absurd ((h y).mpr List.mem_cons_self) List.not_mem_nil
  | x :: a, [], _, _, h => absurd ((h x).mp List.mem_cons_self) List.not_mem_nil
  | x :: a, y :: b, ha, hb, h => by
    obtain ⟨a1, a2⟩ := List.pairwise_cons.mp ha
    obtain ⟨b1, b2⟩ := List.pairwise_cons.mp hb
    have e : x = y := by
      rcases List.mem_cons.mp ((h x).mp List.mem_cons_self) with e | e
      · exact e
      · rcases List.mem_cons.mp ((h y).mpr List.mem_cons_self) with e2 | e2
        · exact e2.symm
        · have := b1 x e
          have := a1 y e2
          omega
    subst e
    congr 1
    refine rise_uniq a2 b2 fun k => ⟨fun hk => ?_, fun hk => ?_⟩
    · rcases List.mem_cons.mp ((h k).mp (List.mem_cons_of_mem _ hk)) with e | e
      · have := a1 k hk
        omega
      · exact e
    · rcases List.mem_cons.mp ((h k).mpr (List.mem_cons_of_mem _ hk)) with e | e
      · have := b1 k hk
        omega
      · exact e
/-- sorted(set(xs)) of a tuple of whole numbers -/
def oSortSetI : Op1
  | .tuple ds => match intsOf ds with
    | some ns => if ns.length ≤ 4000 ∧ (ddi ns).length < 64 then some (.own ((riseI ns).map .int)) else none
    | none => none
  | _ => none
theorem drs_ints {K : PySem.W.Frag} {HF : Hp} : ∀ (ns : List Int), DRs K HF (ns.map V.int) (ns.map .int)
  | [] => .nil
  | n :: ns => .cons (.int n) (drs_ints ns)
section
variable {X : Cx} {W : Wish} {a : Expr} {fa : Ex} {p p2 pos pos2 : Pos}
end
@[simp] theorem oSortSetI_tuple {ns : List Int} : oSortSetI (.tuple (ns.map .int)) = if ns.length ≤ 4000 ∧ (ddi ns).length < 64 then some (.own ((riseI ns).map .int)) else none := by
  show (match intsOf (ns.map .int) with
    | some ns => if ns.length ≤ 4000 ∧ (ddi ns).length < 64 then some (RV.own ((riseI ns).map .int)) else none
    | none => none) = _
  rw [intsOf_map]
end Dn
end
section
set_option maxHeartbeats 4000000
namespace Dn
open PySem PySem.Spec L2
def cDict1 (k : Key) (e : Ex) : Ex := fun ρ f => dt (e ρ f) fun d f1 => .ok (.dat (.dict [(keyD k, d)])) f1
section
variable {K : PySem.W.Frag} {g : Gh} {σ : St} {H HF : Hp} {ρ : Rho} {f : Feed}
/-- a new object that no slot holds -/
theorem Rel.fresh {p : Addr} {o : HO} (r : Rel K g σ H HF ρ f) (hp : H p = none) : Rel K g σ (upd H p o) HF ρ f := by
  have hf : HF p = none := by
    cases z : HF p with
    | none => rfl
    | some o => rw [r.sub _ _ z] at hp; cases hp
  refine r.other (r.dead hp) hf (fun z => by rw [z] at hp; exact r.feed.ne hp) (fun i ds e1 e2 => ?_) (fun i k e1 e2 => ?_) (fun i dss q qs e1 e2 e3 m => by
    obtain ⟨us, z⟩ := (r.bdWas (Step.refl r.sub) e1 e2 e3).live m
    rw [hp] at z
    cases z)
  · obtain ⟨q, vs, z1, z2, z3, z4, z5⟩ := r.slot i _ e1
    rw [z1] at e2
    cases e2
    rw [z4] at hp
    cases hp
  · obtain ⟨q, z1, z2, z3, z4⟩ := r.slot i _ e1
    rw [z1] at e2
    cases e2
    exact z4.some hp
end
section
variable {X : Cx} {W : Wish} {e : Expr} {fe : Ex} {ke : Expr} {k : Key} {pos : Pos}
end
@[simp] theorem e_Dict1 {k : Key} {a : Ex} {ρ : Rho} {f : Feed} : cDict1 k a ρ f = dt (a ρ f) fun d f1 => .ok (.dat (.dict [(keyD k, d)])) f1 := nr rfl
end Dn
end
section
set_option maxHeartbeats 4000000
namespace L2
open PySem PySem.Spec PyProof.Rows
/-- what the dict at a holds at y: the key's tuple may lie anywhere -/
def DGetS (K : PySem.W.Frag) (H : Hp) (a : Addr) (y : V) (r : Option V) : Prop :=
  (∃ kvs k, H a = some (.dK kvs) ∧ y = kV k ∧ r = valV kvs k) ∨ ∃ (kvs : List (List Key × V)) (k : List Key) (b : Addr), H a = some (.dT kvs) ∧ y = .ref b ∧ SqT K H b (k.map kV) ∧ r = valV kvs k
section
variable {X : Cx} {pins : List (Addr × Obj)} {σ : St} {H : Hp} {s : Shared} {a b : Addr} {y d v : V} {u r : Value} {o : Option V} {A : Around} {E : Value → Shared → Prop}
theorem keyS_of (I : Inv X pins σ H s) {ks : List Key} (h : SqT X.K H b (ks.map kV)) : (tupleKind (mixKind X.prog X.w)).is s.heap ks b := by
  obtain ⟨its, rv, ⟨o, ho, hc, n, hd⟩, _⟩ := I.tuple h
  exact ⟨o, its.toArray, n, ho, hc, hd, by rw [List.toList_toArray]; exact items_are rv⟩
theorem s_getItem {Q : Value → Shared → Prop} (hu : A.units + 1 < cLine) (I : Inv X pins σ H s) (g : DGetS X.K H a y (some v)) (ry : RelV y u) (h : ∀ w' s', Inv X pins σ H s' → RelV v w' → Q w' s') :
    wpAny (model X.prog X.w) A (getItem (.ref a) u) Q E s := by
  rcases g with ⟨kvs, k, e, ey, l⟩ | ⟨kvs, k, b, e, ey, eb, l⟩
  · exact d_getItem hu I (.inl ⟨kvs, k, .inl e, ey, l⟩) ry h
  · subst ey
    cases (show u = Value.ref b from ry)
    obtain ⟨z, hd, xs, rel, dd⟩ := dt_rd I.hok (.inl e)
    obtain ⟨w', hw, rw'⟩ := RelO.some_of (v := v) (o := (atKey xs k).map (·.2)) (by rw [l]; exact rel.val k)
    obtain ⟨p, hp, hp2⟩ := Option.map_eq_some_iff.mp hw
    refine wpAny_getItem_heap (tupleKind_room_in1 hu) (keyS_of I eb) dd hp ?_
    rw [hp2]
    exact h w' _ (I.tok _) rw'
theorem s_get2 {Q : Value → Shared → Prop} (hu : A.units + 1 < cLine) (I : Inv X pins σ H s) (g : DGetS X.K H a y o) (ry : RelV y u) (rd : RelV d r) (h : ∀ w' s', Inv X pins σ H s' → RelV (o.getD d) w' → Q w' s') :
    wpAny (model X.prog X.w) A (call (.builtin "dict.get") [.ref a, u, r]) Q E s := by
  rcases g with ⟨kvs, k, e, ey, l⟩ | ⟨kvs, k, b, e, ey, eb, l⟩
  · exact d_get2 hu I (.inl ⟨kvs, k, .inl e, ey, l⟩) ry rd h
  · subst ey
    cases (show u = Value.ref b from ry)
    obtain ⟨z, hd, xs, rel, dd⟩ := dt_rd I.hok (.inl e)
    refine call_meetsIn PySem.F.slot_dict_get dd.typeIs PySem.F.entry_dict_get (PySem.F.args_dict_get_3 _ _ _) (meetsH_dict_get_default (tupleKind (mixKind X.prog X.w)) a b hd r) ⟨tupleKind_room_in1 hu, k, xs, keyS_of I eb, dd, h _ _ (I.tok _) ?_⟩
    rw [l]
    exact (rel.val k).getD rd
theorem s_typeIs (I : Inv X pins σ H s) (g : DGetS X.K H a y o) : s.TypeIs (.ref a) "dict" := by
  rcases g with ⟨kvs, k, e, _, _⟩ | ⟨kvs, k, b, e, _, _, _⟩
  · obtain ⟨_, _, vs, _, dd⟩ := dk_rd I.hok (.inl e)
    exact dd.typeIs
  · obtain ⟨_, _, xs, _, dd⟩ := dt_rd I.hok (.inl e)
    exact dd.typeIs
end
def tDGetS (K : PySem.W.Frag) (td ty : TE) : TE := fun σ H Q => td σ H fun x H1 => ty σ H1 fun y H2 => ∃ a v, x = .ref a ∧ DGetS K H2 a y (some v) ∧ Q v H2
def tDGet2S (K : PySem.W.Frag) (td ty tx : TE) : TE := fun σ H Q => td σ H fun x H1 => ∃ a, x = .ref a ∧ IsD H1 a ∧ ty σ H1 fun y H2 => tx σ H2 fun z H3 => ∃ o, DGetS K H3 a y o ∧ Q (o.getD z) H3
section
variable {X : Cx} {o i e f : Expr} {pos apos cpos : Pos} {td ty tx : TE}
theorem pe_dgetS (hu : X.A.units + 1 < cLine) (ho : PE X o td) (hi : PE X i ty) (hs : NoSl i) : PE X (.Subscript o i pos) (tDGetS X.K td ty) := by
  refine ⟨fun pins s σ H Q I h => ?_⟩
  refine subD_of PySem.F.slot_dict_getitem.lookup hs (thn (ho.run pins s σ H _ I h) fun u s1 ⟨x, H1, I1, rx, q1⟩ => thn (hi.run pins s1 σ H1 _ I1 q1) fun iv s2 ⟨y, H2, I2, ry, a, v, ex, g, q2⟩ => ?_)
  subst ex
  obtain rfl : u = Value.ref a := rx
  exact ⟨s_typeIs I2 g, s_getItem hu I2 g ry fun w' s3 I3 rw' => ⟨v, H2, I3, rw', q2⟩⟩
theorem pe_dget2S (hu : X.A.units + 1 < cLine) (ho : PE X o td) (he : PE X e ty) (hf : PE X f tx) (m : M2 X o "get" apos e f cpos) : PE X (.Call (.Attribute o "get" apos) [e, f] [] cpos) (tDGet2S X.K td ty tx) := by
  refine ⟨fun pins s σ H Q I h => ?_⟩
  refine wpAny_Call_method m.base m.few m.line PySem.F.plainAttrs_dict PySem.F.slot_dict_get PySem.F.type_dict_get (thn (ho.run pins s σ H _ I h) fun u s1 ⟨x, H1, I1, rx, a, ex, d, q1⟩ => ?_)
  subst ex
  obtain rfl : u = Value.ref a := rx
  obtain ⟨t1, t2, _⟩ := isD_at I1 d
  refine ⟨t1, t2, ?_⟩
  rw [m.trees]
  refine Calls.callWith_builtin rfl (Calls.evalArgs_plain (Calls.spliced_cons (thn (he.run pins s1 σ H1 _ I1 q1) fun iv s2 ⟨y, H2, I2, ry, q2⟩ =>
    Calls.spliced_cons (thn (hf.run pins s2 σ H2 _ I2 q2) fun fv s3 ⟨z, H3, I3, rz, ov, g, q3⟩ => Calls.spliced_nil ?_))))
  exact s_get2 hu I3 g ry rz fun w' s4 I4 rw' => ⟨_, H3, I4, rw', q3⟩
end
end L2
namespace Dn
open PySem PySem.Spec L2
section
variable {κ : Type} [DecidableEq κ]
def getK (kvs : List (κ × PyData)) (k : κ) : Option PyData := (kvs.find? fun p => decide (p.1 = k)).map (·.2)
def setK (kvs : List (κ × PyData)) (k : κ) (d : PyData) : List (κ × PyData) :=
  if (kvs.any fun p => decide (p.1 = k)) = true then kvs.map (fun p => if p.1 = k then (p.1, d) else p) else kvs ++ [(k, d)]
theorem getK_nil {k : κ} : getK ([] : List (κ × PyData)) k = none := rfl
theorem getK_cons {p : κ × PyData} {r : List (κ × PyData)} {k : κ} : getK (p :: r) k = if p.1 = k then some p.2 else getK r k := by
  by_cases h : p.1 = k <;> simp [getK, List.find?_cons, h]
variable {κ' : Type} [DecidableEq κ'] {K : PySem.W.Frag} {HF : Hp} {ι : κ → κ'} (inj : ∀ a b, ι a = ι b → a = b)
include inj
theorem pair_get : ∀ {xs : List (κ' × V)} {kvs : List (κ × PyData)}, Paired (fun x q => x.1 = ι q.1 ∧ DR K HF x.2 q.2) xs kvs → ∀ k, (getK kvs k = none ∧ valV xs (ι k) = none) ∨ ∃ d v, getK kvs k = some d ∧ valV xs (ι k) = some v ∧ DR K HF v d
  | _, _, .nil, k => .inl ⟨rfl, rfl⟩
  | _, _, .cons (a := x) (b := q) h r, k => by
    rw [getK_cons]
    by_cases e : q.1 = k
    · rw [if_pos e]
      exact .inr ⟨_, _, rfl, valV_pos (by rw [h.1, e]), h.2⟩
    · rw [if_neg e, valV_neg (fun z => e (inj _ _ (h.1.symm.trans z)))]
      exact pair_get r k
theorem pair_any : ∀ {xs : List (κ' × V)} {kvs : List (κ × PyData)}, Paired (fun x q => x.1 = ι q.1 ∧ DR K HF x.2 q.2) xs kvs → ∀ k, (xs.any fun p => decide (p.1 = ι k)) = kvs.any fun p => decide (p.1 = k)
  | _, _, .nil, k => rfl
  | _, _, .cons (a := x) (b := q) h r, k => by
    rw [List.any_cons, List.any_cons, pair_any r k]
    congr 1
    rw [decide_eq_decide, h.1]
    exact ⟨inj _ _, fun z => by rw [z]⟩
theorem pair_put {xs : List (κ' × V)} {kvs : List (κ × PyData)} (h : Paired (fun x q => x.1 = ι q.1 ∧ DR K HF x.2 q.2) xs kvs) {k : κ} {v : V} {d : PyData} (r : DR K HF v d) : Paired (fun x q => x.1 = ι q.1 ∧ DR K HF x.2 q.2) (putK xs (ι k) v) (setK kvs k d) := by
  unfold putK setK
  rw [pair_any inj h k]
  split
  · rename_i hh
    clear hh
    induction h with
    | nil => exact .nil
    | @cons x q xs kvs h t ih =>
      refine .cons ?_ ih
      dsimp only
      by_cases e : q.1 = k
      · rw [if_pos e, if_pos (by rw [h.1, e])]
        exact ⟨h.1, r⟩
      · rw [if_neg e, if_neg (fun z => e (inj _ _ (h.1.symm.trans z)))]
        exact h
  · exact h.snoc ⟨rfl, r⟩
end
theorem setK_len {κ : Type} [DecidableEq κ] (kvs : List (κ × PyData)) (k : κ) (d : PyData) : (setK kvs k d).length ≤ kvs.length + 1 := by
  unfold setK
  split
  · rw [List.length_map]
    omega
  · rw [List.length_append]
    exact Nat.le_refl _
theorem inl_inj : ∀ a b : Int, (Sum.inl a : Key) = Sum.inl b → a = b := fun a b h => Sum.inl.inj h
theorem inls_inj : ∀ a b : List Int, a.map (Sum.inl : Int → Key) = b.map Sum.inl → a = b
  | [], [], _ => rfl
  | x :: a, y :: b, h => by
    rw [List.map_cons, List.map_cons] at h
    injection h with h1 h2
    rw [inl_inj _ _ h1, inls_inj a b h2]
  | [], _ :: _, h => by cases h
  | _ :: _, [], h => by cases h
theorem kV_inls (ks : List Int) : (ks.map (Sum.inl : Int → Key)).map kV = ks.map V.int := by
  rw [List.map_map]
  rfl
theorem paired_len {α β : Type} {F : α → β → Prop} : ∀ {as : List α} {bs : List β}, Paired F as bs → as.length = bs.length
  | _, _, .nil => rfl
  | _, _, .cons _ r => congrArg (· + 1) (paired_len r)
section
variable {K : PySem.W.Frag} {g : Gh} {σ : St} {H HF : Hp} {ρ : Rho} {f : Feed} {i : Nat} {p : Addr}
theorem Rel.setS {s : Slot} (r : Rel K g σ H HF ρ f) {v : V} (h : SlotOk K g H HF (some (some v)) s) (h1 : (∀ ds, s ≠ .own ds) ∧ ∀ dss, s ≠ .brd dss) (h2 : ∀ k, s = .dct k → ∀ (j : Nat) (l : Dk), ρ[j]? = some (Slot.dct l) → σ[j]? ≠ some (some v)) : Rel K g (σ.set i (some v)) H HF (ρ.set i s) f where
  sub := r.sub
  feed := r.feed
  ext := r.ext
  le := r.le
  new := r.new
  len := by rw [List.length_set, List.length_set, r.len]
  slot := fun j x e => by
    rcases set_get e with ⟨e1, e2, e3⟩ | ⟨e1, e2⟩
    · subst e1
      subst e3
      rw [List.getElem?_set_self (by rw [r.len]; exact e2)]
      exact h
    · rw [List.getElem?_set_ne e1]
      exact r.slot j x e2
  sep := fun a b ds es ea eb ee => by
    rcases set_get ea with ⟨a1, a2, a3⟩ | ⟨a1, a2⟩
    · exact absurd a3 (h1.1 ds)
    · rcases set_get eb with ⟨b1, b2, b3⟩ | ⟨b1, b2⟩
      · exact absurd b3 (h1.1 es)
      · rw [List.getElem?_set_ne a1, List.getElem?_set_ne b1] at ee
        exact r.sep a b ds es a2 b2 ee
  sepD := fun a b ds es ea eb ee => by
    rcases set_get ea with ⟨a1, a2, a3⟩ | ⟨a1, a2⟩
    · rcases set_get eb with ⟨b1, b2, b3⟩ | ⟨b1, b2⟩
      · exact a1.symm.trans b1
      · subst a1
        rw [List.getElem?_set_self (by rw [r.len]; exact a2), List.getElem?_set_ne b1] at ee
        exact absurd ee.symm (h2 ds a3 b es b2)
    · rcases set_get eb with ⟨b1, b2, b3⟩ | ⟨b1, b2⟩
      · subst b1
        rw [List.getElem?_set_self (by rw [r.len]; exact b2), List.getElem?_set_ne a1] at ee
        exact absurd ee (h2 es b3 a ds a2)
      · rw [List.getElem?_set_ne a1, List.getElem?_set_ne b1] at ee
        exact r.sepD a b ds es a2 b2 ee
  bd := r.bd.to (fun a dss e => by
    rcases set_get e with ⟨a1, a2, a3⟩ | ⟨a1, a2⟩
    · exact absurd a3 (h1.2 dss)
    · exact ⟨⟨_, a2⟩, List.getElem?_set_ne a1⟩) (fun a es2 e => by
    rcases set_get e with ⟨a1, a2, a3⟩ | ⟨a1, a2⟩
    · exact absurd a3 (h1.1 es2)
    · exact ⟨⟨_, a2⟩, List.getElem?_set_ne a1⟩) fun a dss p2 qs e1 e2 e3 => e3
/-- the dict that a slot holds is written -/
theorem Rel.writeK {k l : Dk} {o : HO} (r : Rel K g σ H HF ρ f) (h : ρ[i]? = some (.dct k)) (hp : σ[i]? = some (some (.ref p))) (hq : HF p = none) (h4 : DkAt K H HF p k) (h5 : DkAt K (upd H p o) HF p l) : Rel K g σ (upd H p o) HF (ρ.set i (.dct l)) f where
  sub := fun a o e => by
    rw [upd_ne (ne_of_none e hq)]
    exact r.sub a o e
  feed := ⟨by rw [upd_ne (fun z => h4.ne r.feed z.symm)]; exact r.feed.d, r.feed.nf, r.feed.c⟩
  ext := fun a o z e => by
    have na : a ≠ p := fun w => by
      subst w
      obtain ⟨p2, z1, z2, _⟩ := r.slot i _ h
      rw [hp] at z1
      cases z1
      rw [z2] at e
      cases e
    rw [upd_ne na]
    exact r.ext a o z e
  le := r.le
  new := r.new
  len := by rw [List.length_set, r.len]
  slot := fun j x e => by
    rcases set_get e with ⟨e1, e2, e3⟩ | ⟨e1, e2⟩
    · subst e1
      subst e3
      obtain ⟨p2, z1, z2, z3, z4⟩ := r.slot i _ h
      rw [hp] at z1
      cases z1
      exact ⟨p, hp, z2, hq, h5⟩
    · have k0 := r.slot j x e2
      cases x with
      | emp => trivial
      | dat d => exact k0
      | own fs =>
        obtain ⟨p2, vs2, z1, z2, z3, z4, z5⟩ := k0
        have np : p2 ≠ p := fun w => by
          subst w
          exact h4.nl z4
        exact ⟨p2, vs2, z1, z2, z3, by rw [upd_ne np]; exact z4, z5⟩
      | feed => exact k0
      | scr ns => exact k0
      | dct q =>
        obtain ⟨p2, z1, z2, z3, z4⟩ := k0
        have np : p2 ≠ p := fun w => by
          subst w
          exact e1 (r.sepD i j k q h e2 (hp.trans z1.symm))
        exact ⟨p2, z1, z2, z3, z4.mono (fun o e => by rw [upd_ne np]; exact e) (Le.refl _)⟩
      | key ks => exact k0
      | brd dss =>
        obtain ⟨p2, qs, z1, z2⟩ := k0
        exact ⟨p2, qs, z1, z2.upd (fun m => by
          obtain ⟨us, z⟩ := z2.live m
          exact h4.nl z)⟩
  bd := r.bd.to (fun a dss e => by
    rcases set_get e with ⟨a1, a2, a3⟩ | ⟨a1, a2⟩
    · cases a3
    · exact ⟨⟨_, a2⟩, rfl⟩) (fun a es2 e => by
    rcases set_get e with ⟨a1, a2, a3⟩ | ⟨a1, a2⟩
    · cases a3
    · exact ⟨⟨_, a2⟩, rfl⟩) fun a dss p2 qs e1 e2 e3 => by
    obtain ⟨p3, q3, z1, z2⟩ := r.slot a _ e1
    rw [e2] at z1
    cases z1
    rw [upd_ne (fun z => h4.nl (by rw [← z]; exact z2.1))] at e3
    exact e3
  sep := fun a b xs ys ea eb ee => by
    rcases set_get ea with ⟨a1, a2, a3⟩ | ⟨a1, a2⟩
    · cases a3
    · rcases set_get eb with ⟨b1, b2, b3⟩ | ⟨b1, b2⟩
      · cases b3
      · exact r.sep a b xs ys a2 b2 ee
  sepD := fun a b xs ys ea eb ee => by
    have fa : ∃ zs, ρ[a]? = some (.dct zs) := by
      rcases set_get ea with ⟨a1, a2, a3⟩ | ⟨a1, a2⟩
      · subst a1
        exact ⟨k, h⟩
      · exact ⟨xs, a2⟩
    have fb : ∃ zs, ρ[b]? = some (.dct zs) := by
      rcases set_get eb with ⟨a1, a2, a3⟩ | ⟨a1, a2⟩
      · subst a1
        exact ⟨k, h⟩
      · exact ⟨ys, a2⟩
    obtain ⟨z1, fa⟩ := fa
    obtain ⟨z2, fb⟩ := fb
    exact r.sepD a b z1 z2 fa fb ee
theorem dct_here {k : Dk} (r : Rel K g σ H HF ρ f) (h : ρ[i]? = some (.dct k)) : ∃ p, σ[i]? = some (some (.ref p)) ∧ HF p = none ∧ DkAt K H HF p k := by
  obtain ⟨p, z1, z2, z3, z4⟩ := r.slot i _ h
  exact ⟨p, z1, z3, z4⟩
end
def sDct (b : Bool) (i : Nat) : Sm := fun ρ f => .ok (.nx (ρ.set i (.dct (if b = true then .T [] else .I [])))) f
section
variable {X : Cx} {E : XK} {i : Nat} {y : Str} {j pos pos2 : Pos}
theorem dct_new {K : PySem.W.Frag} {mg : Str → Option Value} {b : Bool} {D : Ends} {σ : St} {H : Hp} {p : Addr} (h : tDS K mg E (sDct b i) D σ H) (hp : H p = none) : D.nx (σ.set i (some (.ref p))) (upd H p (if b = true then .dT [] else .dK [])) := by
  obtain ⟨g, HF, ρ, f, rel, q⟩ := h
  have hf : HF p = none := by
    cases z : HF p with
    | none => rfl
    | some o => rw [rel.sub _ _ z] at hp; cases hp
  refine (show FinS K g D (.nx (ρ.set i (.dct (if b = true then .T [] else .I [])))) f from q) _ _ HF ((rel.fresh hp).setS (i := i) (v := .ref p) ?_ ⟨fun ds z => (by cases z), fun ds z => (by cases z)⟩ fun k _ j l e1 e2 => ?_)
  · refine ⟨p, rfl, rel.dead hp, hf, ?_⟩
    cases b with
    | true => exact ⟨[], upd_same, .nil⟩
    | false => exact ⟨[], upd_same, .nil⟩
  · obtain ⟨q, z1, z2, z3, z4⟩ := rel.slot j _ e1
    rw [z1] at e2
    cases e2
    exact z4.some hp
theorem ds_dctI (hN : X.N.Nodup) (hi : X.N[i]? = some y) (hx : Loc X.env.scope y) (hs : swapsWith (.Dict [] [] j) (some (.Name y pos2)) pos.line X.env = pure false := by rfl)
    (hf : X.fn y = true ∨ X.env.scope.names.lookup y = some .local := by first | exact .inl rfl | exact .inr rfl | assumption) : DS X E (.Assign [.Name y pos2] (.Dict [] [] j) pos) (sDct false i) :=
  ps_mono (ps_set hN hi hx pe_dnewK hs hf) fun _ _ _ q p hp => dct_new q hp
theorem ds_dctT (hN : X.N.Nodup) (hi : X.N[i]? = some y) (hx : Loc X.env.scope y) (hs : swapsWith (.Dict [] [] j) (some (.Name y pos2)) pos.line X.env = pure false := by rfl)
    (hf : X.fn y = true ∨ X.env.scope.names.lookup y = some .local := by first | exact .inl rfl | exact .inr rfl | assumption) : DS X E (.Assign [.Name y pos2] (.Dict [] [] j) pos) (sDct true i) :=
  ps_mono (ps_set hN hi hx pe_dnewT hs hf) fun _ _ _ q p hp => dct_new q hp
end
abbrev Kx := Rho → Feed → R (List Int)
def tKx (K : PySem.W.Frag) (mg : Str → Option Value) (W : Wish) (e : Kx) : TE := fun σ H Q => ∃ g HF ρ f, Rel K g σ H HF ρ f ∧ ROk K mg g H HF (W σ) (e ρ f) fun ks f1 => ∀ b G GF, Step g H HF G GF → FeedAt g G GF f1 → GF b = some (.tup (ks.map V.int)) → Q (.ref b) G
def kVar (i : Nat) : Kx := fun ρ f => match ρ[i]? with
  | some (.key ks) => .ok ks f
  | _ => .no
def kTup (xs : List Ex) : Kx := fun ρ f => (cArgs xs ρ f).bind fun ds f1 => match intsOf ds with
  | some ks => if ks.length ≤ 1000 then .ok ks f1 else .no
  | none => .no
section
variable {X : Cx} {W : Wish} {pos : Pos}
theorem dk_var {e : Expr} {i : Nat} (h : PE X e (tVar i)) : PE X e (tKx X.K X.mg W (kVar i)) := pe_mono h fun σ H Q ⟨g, HF, ρ, f, rel, q⟩ => by
  unfold kVar at q
  cases z : ρ[i]? with
  | none =>
    simp only [z] at q
    exact (show False from q).elim
  | some s =>
    cases s with
    | key ks =>
      simp only [z] at q
      obtain ⟨b, e1, e2⟩ := rel.slot i _ z
      exact ⟨.ref b, e1, q b H HF (Step.refl rel.sub) rel.feed e2⟩
    | _ =>
      simp only [z] at q
      exact (show False from q).elim
theorem dk_tup {es : List Expr} {xs : List Ex} {x1} (h : DA X W es xs) : PE X (.Tuple es x1 pos) (tKx X.K X.mg W (kTup xs)) := pe_mono (pe_tup h) fun σ H Q ⟨g, HF, ρ, f, rel, q⟩ =>
  args_read xs rel q fun ds f1 vs G GF r1 s1 drs q1 => by
    cases c : intsOf ds with
    | none =>
      simp only [c] at q1
      exact (show False from q1).elim
    | some ks =>
      simp only [c] at q1
      by_cases c2 : ks.length ≤ 1000
      · rw [if_pos c2] at q1
        have e := intsOf_some c
        subst e
        have v1 := drs.toInts
        subst v1
        refine ⟨by rw [List.length_map, sizeLine_eq]; omega, fun p hp => ?_⟩
        have hf : GF p = none := by
          cases z : GF p with
          | none => rfl
          | some o => rw [r1.sub _ _ z] at hp; cases hp
        have l : Le GF (upd GF p (.tup (ks.map V.int))) := fun b o e => by
          rw [upd_ne (ne_of_none e hf)]
          exact e
        have hp0 : H p = none := s1.dead r1.feed hp
        refine q1 p (upd G p (.tup (ks.map V.int))) (upd GF p (.tup (ks.map V.int))) ⟨fun b o nb e => ?_, s1.le.trans l, fun b x y => ?_, fun b o e => ?_⟩ ⟨?_, ?_, ?_⟩ upd_same
        · have := s1.ext b o nb e
          rw [upd_ne (ne_of_none this hp)]
          exact this
        · rw [upd_ne (fun z => x.some (by rw [z]; exact hp0))]
          exact s1.new b x y
        · by_cases z : b = p
          · subst z
            rw [upd_same] at e ⊢
            exact e
          · rw [upd_ne z] at e ⊢
            exact r1.sub _ _ e
        · rw [upd_ne (ne_of_none r1.feed.d hp)]
          exact r1.feed.d
        · rw [upd_ne (ne_of_none r1.feed.d hp)]
          exact r1.feed.nf
        · exact l _ _ r1.feed.c
      · rw [if_neg c2] at q1
        exact (show False from q1).elim
end
def sKey (i : Nat) (e : Kx) : Sm := fun ρ f => (e ρ f).bind fun ks f1 => .ok (.nx (ρ.set i (.key ks))) f1
section
variable {X : Cx} {E : XK} {i : Nat} {y : Str} {pos pos2 : Pos} {e : Expr} {x : Kx}
theorem ds_key (hN : X.N.Nodup) (hi : X.N[i]? = some y) (hx : Loc X.env.scope y) (he : PE X e (tKx X.K X.mg (fun _ => E) x)) (hs : swapsWith e (some (.Name y pos2)) pos.line X.env = pure false := by rfl)
    (hf : X.fn y = true ∨ X.env.scope.names.lookup y = some .local := by first | exact .inl rfl | exact .inr rfl | assumption) : DS X E (.Assign [.Name y pos2] e pos) (sKey i x) :=
  ps_mono (ps_set hN hi hx he hs hf) fun D σ H ⟨g, HF, ρ, f, rel, q⟩ => ⟨g, HF, ρ, f, rel, rel.toE ((XF.of_bind q).mono fun ks f1 q1 b G GF s hf hb =>
    (show FinS X.K g D (.nx (ρ.set i (.key ks))) f1 from q1) _ G GF ((rel.step s hf).setS (i := i) (v := .ref b) ⟨b, rfl, hb⟩ ⟨fun ds z => (by cases z), fun ds z => (by cases z)⟩ (fun k z => by cases z)))⟩
end
def sDputI (i : Nat) (ix e : Ex) : Sm := fun ρ f => match ρ[i]? with
  | some (.dct (.I kvs)) => dt (e ρ f) fun d f1 => pk (ix ρ f1) fun k f2 => match k with
    | .int n => if kvs.length < 100000 then .ok (.nx (ρ.set i (.dct (.I (setK kvs n d))))) f2 else .no
    | _ => .no
  | _ => .no
def sDputT (i : Nat) (ix : Kx) (e : Ex) : Sm := fun ρ f => match ρ[i]? with
  | some (.dct (.T kvs)) => dt (e ρ f) fun d f1 => (ix ρ f1).bind fun ks f2 => if kvs.length < 100000 then .ok (.nx (ρ.set i (.dct (.T (setK kvs ks d))))) f2 else .no
  | _ => .no
section
variable {X : Cx} {E : XK} {i : Nat} {o ie e : Expr} {xi x : Ex} {xk : Kx} {pos pos2 : Pos}
theorem dputI_read {K : PySem.W.Frag} {mg : Str → Option Value} {D : Ends} {σ : St} {H : Hp} (h : tDS K mg E (sDputI i xi x) D σ H) : sDPut (tVar i) (tD K mg (fun _ => E) xi) (tD K mg (fun _ => E) x) D σ H := by
  obtain ⟨g, HF, ρ, f, rel, q⟩ := h
  unfold sDputI at q
  cases z : ρ[i]? with
  | none =>
    simp only [z] at q
    exact (show False from q).elim
  | some s =>
    cases s with
    | dct dk =>
      cases dk with
      | T _ =>
        simp only [z] at q
        exact (show False from q).elim
      | I kvs =>
        simp only [z] at q
        refine tD_Sdt rel q fun d f1 v G GF r1 s1 dr q1 => ?_
        obtain ⟨p, e1, e2, e3⟩ := dct_here r1 z
        refine ⟨.ref p, e1, tD_Spk r1 q1 fun k f2 w I IF r2 s2 t2 q2 => ?_⟩
        obtain ⟨p2, y1, y2, xs, y3, y4⟩ := dct_here r2 z
        rw [e1] at y1
        cases y1
        cases k <;> try exact (show False from q2).elim
        rename_i n
        simp only at q2
        by_cases c : kvs.length < 100000
        · rw [if_pos c] at q2
          have hl : xs.length < sizeLine := by
            rw [paired_len y4, sizeLine_eq]
            omega
          have ew := t2.int
          subst ew
          exact ⟨p, _, rfl, DPut.k (k := Sum.inl n) y3 hl, (show FinS K g D (.nx _) f2 from q2) _ _ IF (r2.writeK z e1 y2 ⟨xs, y3, y4⟩ ⟨_, upd_same, pair_put inl_inj y4 (dr.mono s2.le)⟩)⟩
        · rw [if_neg c] at q2
          exact (show False from q2).elim
    | _ =>
      simp only [z] at q
      exact (show False from q).elim
theorem dputT_read {K : PySem.W.Frag} {mg : Str → Option Value} {D : Ends} {σ : St} {H : Hp} (h : tDS K mg E (sDputT i xk x) D σ H) : sDPut (tVar i) (tKx K mg (fun _ => E) xk) (tD K mg (fun _ => E) x) D σ H := by
  obtain ⟨g, HF, ρ, f, rel, q⟩ := h
  unfold sDputT at q
  cases z : ρ[i]? with
  | none =>
    simp only [z] at q
    exact (show False from q).elim
  | some s =>
    cases s with
    | dct dk =>
      cases dk with
      | I _ =>
        simp only [z] at q
        exact (show False from q).elim
      | T kvs =>
        simp only [z] at q
        refine tD_Sdt rel q fun d f1 v G GF r1 s1 dr q1 => ?_
        obtain ⟨p, e1, e2, e3⟩ := dct_here r1 z
        refine ⟨.ref p, e1, g, GF, ρ, f1, r1, r1.toE ((XF.of_bind q1).mono fun ks f2 q2 b I IF s2 hf2 hb => ?_)⟩
        have r2 := r1.step s2 hf2
        obtain ⟨p2, y1, y2, xs, y3, y4⟩ := dct_here r2 z
        rw [e1] at y1
        cases y1
        by_cases c : kvs.length < 100000
        · rw [if_pos c] at q2
          have hl : xs.length < sizeLine := by
            rw [paired_len y4, sizeLine_eq]
            omega
          exact ⟨p, _, rfl, DPut.t (k := ks.map Sum.inl) y3 (by rw [kV_inls]; exact r2.sub _ _ hb) hl, (show FinS K g D (.nx _) f2 from q2) _ _ IF (r2.writeK z e1 y2 ⟨xs, y3, y4⟩ ⟨_, upd_same, pair_put inls_inj y4 (dr.mono s2.le)⟩)⟩
        · rw [if_neg c] at q2
          exact (show False from q2).elim
    | _ =>
      simp only [z] at q
      exact (show False from q).elim
theorem ds_dputI (hu : X.A.units + 64 < cLine) (ho : PE X o (tVar i)) (hi : DE X (fun _ => E) ie xi) (he : DE X (fun _ => E) e x) (hs : swapsWith e (some (.Subscript o ie pos2)) pos.line X.env = pure false := by rfl) : DS X E (.Assign [.Subscript o ie pos2] e pos) (sDputI i xi x) :=
  ps_mono (ps_dput (by omega) ho hi he hs) fun _ _ _ h => dputI_read h
theorem ds_dputT (hu : X.A.units + 64 < cLine) (ho : PE X o (tVar i)) (hi : PE X ie (tKx X.K X.mg (fun _ => E) xk)) (he : DE X (fun _ => E) e x) (hs : swapsWith e (some (.Subscript o ie pos2)) pos.line X.env = pure false := by rfl) : DS X E (.Assign [.Subscript o ie pos2] e pos) (sDputT i xk x) :=
  ps_mono (ps_dput (by omega) ho hi he hs) fun _ _ _ h => dputT_read h
end
end Dn
end
section
set_option maxHeartbeats 4000000
namespace L2
open PySem PySem.Spec PyProof.Rows Builtin Srt
theorem kt_keys {X : Cx} {H : Hp} : ∀ {kvs : List (List Key × V)} {xs : List (List Key × Addr × Value)} {ks : List (List Int)}, KT H kvs xs → kvs.map (·.1) = ks.map (fun k => k.map Sum.inl) →
    Paired (fun (x : V) k => (∃ t, x = V.ref t ∧ SqT X.K H t (k.map V.int)) ∧ ∃ b, x = .ref b ∧ H b = some (.tup (k.map V.int))) (xs.map fun x => V.ref x.2.1) ks
  | _, _, [], .nil, _ => .nil
  | _, _, _ :: _, .nil, h => by cases h
  | _, _, [], .cons _ _, h => by cases h
  | _, _, k :: ks, .cons (a := q) (b := x) h r, e => by
    rw [List.map_cons, List.map_cons] at e
    injection e with e1 e2
    have hb : H x.2.1 = some (.tup (k.map V.int)) := by
      rw [h.2.1, e1]
      congr 2
      exact List.map_map
    exact .cons ⟨⟨_, rfl, .inl (.inl hb)⟩, _, rfl, hb⟩ (kt_keys r e2)
theorem refs_valsA : ∀ (xs : List (List Key × Addr × Value)), Vals (xs.map fun x => V.ref x.2.1) (xs.map fun x => Value.ref x.2.1)
  | [] => .nil
  | x :: r => .cons rfl (refs_valsA r)
/-- sorted(t), the keys tuples of whole numbers -/
def rSortDT : List V → Hp → VK → Prop := fun vs H Q => ∃ (a : Addr) (kvs : List (List Key × V)) (ks : List (List Int)), vs = [V.ref a] ∧ H a = some (.dT kvs) ∧ kvs.map (·.1) = ks.map (fun k => k.map Sum.inl) ∧ ks.length ≤ 100000 ∧
  ∀ ys ls p, Paired (fun (x : V) k => ∃ b, x = .ref b ∧ H b = some (.tup (k.map V.int))) ys ls → ls.Perm ks → ls.Pairwise (fun p q => HT.lexLt q p = false) → H p = none → Q (.ref p) (upd H p (.lst ys))
section
variable {X : Cx}
theorem cr_sortDT (hc : X.calm = true) (hu : X.A.units + 64 < cLine) : CallR X (.builtin "sorted") rSortDT := by
  intro pins s σ H vs us Q I r h
  obtain ⟨d, kvs, ks, rfl, hd, hk, hlen, q⟩ := h
  rw [Vals.ref1 r]
  obtain ⟨z, hs, xs, pr, o, es, ep, ho, hx, hdt, he, his, hn⟩ := dt_of I.hok hd
  have l1 : es.size = xs.length := size_of_entries he
  have l2 : kvs.length = xs.length := Paired.length pr
  have l3 : kvs.length = ks.length := by
    have := congrArg List.length hk
    rwa [List.length_map, List.length_map] at this
  refine Calls.call_function_entry kind_sorted plain_sorted entry_sorted (args_sorted1 _) ?_
  unfold Builtin.«sorted»
  refine wpAny_bind (m := checkCount "sorted" 1 1 _) (wpAny_pure ?_)
  refine wpAny_bind (PySem.W.kdu_collect (A := X.A.in1) (kdl_raw hs hx hdt) (I.ok.hd hc) ho (by omega) fun h' tk acc kp it => ?_)
  have ea : acc.toList = xs.map fun x => Value.ref x.2.1 := by
    have hl : acc.toList.length = xs.length := by rw [Array.length_toList, it.1]; exact l1
    apply List.ext_getElem?
    intro j
    rw [List.getElem?_map]
    cases hj : acc.toList[j]? with
    | none =>
      have h1 := List.getElem?_eq_none_iff.mp hj
      rw [List.getElem?_eq_none (by omega)]
      all_goals rfl
    | some v =>
      obtain ⟨en, hen, hv⟩ := it.2 j v (by rw [← Array.getElem?_toList]; exact hj)
      have qe := entry_at he j
      rw [hen] at qe
      cases hb : xs[j]? with
      | none =>
        rw [hb] at qe
        exact nomatch (show some en = none from qe)
      | some b =>
        rw [hb] at qe
        have e2 : en = entryOfKey (tupleKind (mixKind X.prog X.w)) b := Option.some.inj qe
        rw [hv, e2]
        all_goals rfl
  rw [ea]
  have I1 : Inv X pins σ H { s with heap := h', toks := tk } := I.kept (t' := tk) kp
  generalize hs1 : ({ s with heap := h', toks := tk } : Shared) = s1 at I1 ⊢
  have rv := refs_valsA xs
  have hp := kt_keys (X := X) pr hk
  obtain ⟨ek, hki⟩ := paired_ks (h := s1.heap) rv hp fun t k ht => by
    obtain ⟨its2, r2, ht2, _⟩ := I1.tuple ht
    exact ⟨t, its2.toArray, rfl, ht2, by rw [List.toList_toArray]; exact intsAre_of r2⟩
  have hz : (xs.map fun x => Value.ref x.2.1).length ≤ sizeLine := by rw [List.length_map, sizeLine_eq]; omega
  generalize (xs.map fun x => Value.ref x.2.1) = its at *
  refine wpAny_bind (wpAny_newList ?_ hz)
  have hoL : (s1.heap.push (seqObj "list" its.toArray 0)).get? s1.heap.objs.size = some (seqObj "list" its.toArray 0) := Heap.get?_push_size _ rfl
  have kk : ∀ b o, s1.heap.get? b = some o → (s1.heap.push (seqObj "list" its.toArray 0)).get? b = some o := fun b o e => Heap.get?_push_of_some _ e
  show wpAny _ _ _ _ _ { s1 with heap := s1.heap.push (seqObj "list" its.toArray 0) }
  refine wpAny_bind (wpAny_holding (wpAny_call_entry slot_list_sort ⟨_, hoL, rfl⟩ entry_list_sort (SrtO.list_sort_ord (s := { s1 with heap := s1.heap.push (seqObj "list" its.toArray 0) }) (NtL.swo_lexL (TS.intsOf s1.heap)) hoL hz (fun h2 => ?_) fun out h1 h2 => ⟨_, rfl, ?_⟩) (args_list_sort _)))
  · have hv : ∀ v ∈ its, TS.TupInts (s1.heap.push (seqObj "list" its.toArray 0)) v (TS.intsOf (s1.heap.push (seqObj "list" its.toArray 0)) v) ∧ TS.intsOf (s1.heap.push (seqObj "list" its.toArray 0)) v = TS.intsOf s1.heap v := fun v hm => by
      obtain ⟨t, e, hv, _⟩ := hki v hm
      have q : TS.TupInts (s1.heap.push (seqObj "list" its.toArray 0)) v (TS.intsOf s1.heap v) := hv.keeps fun b o e _ => kk b o e
      exact ⟨by rw [q.ints]; exact q, q.ints⟩
    have S := TI.sortable (prog := X.prog) (w := X.w) (A := X.A.in1.in1) (s := { s1 with heap := s1.heap.push (seqObj "list" its.toArray 0) }) (a := s1.heap.objs.size) h2 (by show X.A.units + 1 + 1 < cLine; omega) (fun v hm => (hv v hm).1) fun o e => by
      have e' : some o = some (seqObj "list" its.toArray 0) := e.symm.trans hoL
      cases e'
      intro c
      exact absurd (Value.type.inj c) (by decide)
    intro h'' keep
    obtain ⟨κ, k1, k2⟩ := S h'' keep
    refine ⟨κ, k1, fun p q hp hq => ?_⟩
    have z := k2 p q hp hq
    have e1 := (hv p.1 hp).2
    have e2 := (hv q.1 hq).2
    show wpAny (model X.prog X.w) X.A.in1.in1 (keyLt' κ p.1 q.1) (fun r s' => s' = _ ∧ r = HT.lexLt (TS.intsOf s1.heap p.1) (TS.intsOf s1.heap q.1)) (fun _ _ => False) _
    rw [← e1, ← e2]
    exact z
  · have ho2 : ∀ u ∈ out, ∃ t, u = Value.ref t ∧ TS.TupInts s1.heap u (TS.intsOf s1.heap u) ∧ ∃ b, V.ref t = .ref b ∧ H b = some (.tup ((TS.intsOf s1.heap u).map V.int)) := fun u hm => hki u (h2.perm.mem_iff.mp hm)
    obtain ⟨ep2, he'⟩ := PyProof.Rows.sortedHeap_at (vs := its) (out := out.toArray) hoL
    have h3 : ∀ u ∈ out, ∃ a, u = Value.ref a := fun u hm => by
      obtain ⟨t, e, _⟩ := ho2 u hm
      exact ⟨t, e⟩
    have hlen2 : (out.map backV).length ≤ sizeLine := by
      rw [List.length_map, h2.perm.length_eq]
      exact hz
    have kF : ∀ b o, s1.heap.get? b = some o → (sortedHeap (s1.heap.push (seqObj "list" its.toArray 0)) s1.heap.objs.size its out.toArray).get? b = some o := fun b o e => by
      have hb : b < s1.heap.objs.size := Heap.lt_size e
      rw [PyProof.Rows.sortedHeap_old (Nat.ne_of_lt hb) (by rw [size_push']; exact Nat.lt_succ_of_lt hb)]
      exact kk b o e
    refine wpAny_pure ⟨_, rfl, .ref s1.heap.objs.size, upd H s1.heap.objs.size (.lst (out.map backV)), I1.laid (t' := s1.toks) kF (Nat.le_refl _) ⟨hlen2, out, ep2, vals_back h3, he'⟩, rfl, ?_⟩
    refine q _ (out.map (TS.intsOf s1.heap)) _ (paired_out ho2) ?_ (List.pairwise_map.mpr h1) (I1.hok.fresh (Nat.le_refl _))
    rw [ek]
    exact h2.perm.map _
end
def tListVals (td : TE) : TE := fun σ H Q => td σ H fun x H1 => ∃ a vs, x = V.ref a ∧ ((∃ kvs : List (Key × V), H1 a = some (.dK kvs) ∧ kvs.map (·.2) = vs) ∨ ∃ kvs : List (List Key × V), H1 a = some (.dT kvs) ∧ kvs.map (·.2) = vs) ∧ ∀ p, H1 p = none → Q (.ref p) (upd H1 p (.lst vs))
section
variable {X : Cx} {o : Expr} {p pos apos mpos : Pos} {td : TE}
theorem raw_of {pins : List (Addr × Obj)} {σ : St} {H : Hp} {s : Shared} {a : Addr} {vs : List V} (I : Inv X pins σ H s) (h : (∃ kvs : List (Key × V), H a = some (.dK kvs) ∧ kvs.map (·.2) = vs) ∨ ∃ kvs : List (List Key × V), H a = some (.dT kvs) ∧ kvs.map (·.2) = vs) :
    (a == sysModules) = false ∧ vs.length ≤ sizeLine ∧ ∃ es ep, s.heap.DictRaw a es ep ∧ Vals vs (es.toList.map (·.val)) := by
  rcases h with ⟨kvs, e, rfl⟩ | ⟨kvs, e, rfl⟩
  · obtain ⟨z, h2, ws, kv, ob, es, ep, h3, h4, h5, _, h6, _⟩ := dk_of I.hok e
    refine ⟨h2, by rw [List.length_map]; exact z, es, ep, ⟨ob, h3, h4, h5⟩, ?_⟩
    rw [(Dn.pairs_kv h6).2]
    exact Dn.kv_vals kv
  · obtain ⟨z, h2, ws, kt, ob, es, ep, h3, h4, h5, h6, _⟩ := dt_of I.hok e
    refine ⟨h2, by rw [List.length_map]; exact z, es, ep, ⟨ob, h3, h4, h5⟩, ?_⟩
    have : es.toList.map (·.val) = ws.map (·.2.2) := by
      rw [h6, List.map_map]
      rfl
    rw [this]
    exact Dn.kt_vals kt
theorem pe_listVals (hc : X.calm = true) (hg : Gl X "list") (hm : X.mg "list" = none) (hd : PE X o td) (hbase : attributeBase o "values" X.env (eval o X.env) = eval o X.env := by rfl) (hline : (apos.endLine == mpos.line) = true := by rfl)
    (na : starEach [Expr.Call (.Attribute o "values" apos) [] [] mpos] X.env = (false, eval (Expr.Call (.Attribute o "values" apos) [] [] mpos) X.env) :: starEach [] X.env := by rfl) :
    PE X (.Call (.Name "list" p) [.Call (.Attribute o "values" apos) [] [] mpos] [] pos) (tListVals td) := by
  refine ⟨fun pins s σ H Q I h => ?_⟩
  refine Call_ (ld_blt I hg hm (show bootBuiltins "list" = some (.type "list") by decide +kernel) ?_)
  refine PyProof.Rows.callWith_type1 (PyProof.Rows.args_cons (wpAny_Call_method0_late hbase hline (thn (hd.run pins s σ H _ I h) fun v s1 ⟨x, H1, I1, r1, a, vs, ex, ha, q⟩ => ?_)) na) na rfl
  subst ex
  obtain rfl : v = Value.ref a := r1
  obtain ⟨hsys, hz, es, ep, raw, rv⟩ := raw_of I1 ha
  obtain ⟨ob, ho, hx, hdat⟩ := id raw
  refine ⟨"dict", "dict.values", F.plainAttrs_dict, F.slot_dict_values, F.type_dict_values, ⟨ob, ho, hx.1⟩, fun b e => ?_, Calls.callWith_builtin rfl (PySem.evalArgs_none ?_)⟩
  · cases e
    exact ⟨ob, ho, hx.2.1⟩
  refine call_meetsIn F.slot_dict_values ⟨ob, ho, hx.1⟩ F.entry_dict_values (F.args_dict_values_1 _) (PySem.meets_dict_values_raw a hsys) ⟨⟨es, ep, raw⟩, ?_⟩
  refine PyProof.Rows.args_nil ?_
  have k1 : ∀ b u, s1.heap.get? b = some u → (s1.heap.push { cls := .type "dict_values", data := .fields #[.ref a] }).get? b = some u := fun b u e => Heap.get?_push_of_some _ e
  have hsz : es.size = vs.length := by
    have := rv.length
    rw [List.length_map, Array.length_toList] at this
    exact this.symm
  have I2 : Inv X pins σ H1 { s1 with heap := s1.heap.push { cls := .type "dict_values", data := .fields #[.ref a] } } := I1.kept (t' := s1.toks) k1
  refine PySem.W.kdl_call (s := { s1 with heap := s1.heap.push { cls := .type "dict_values", data := .fields #[.ref a] } }) (PySem.KdlSrc.rawValues (r := s1.heap.objs.size) (d := a) (es := es) (ep := ep)) (I1.ok.hd hc) ⟨⟨_, Heap.get?_push_size _ rfl, rfl, rfl⟩, raw.push _⟩ (by omega) fun h' tk acc' c' kp e it => ?_
  have ea : acc'.toList = es.toList.map (·.val) := by
    apply List.ext_getElem?
    intro j
    rw [List.getElem?_map]
    cases hj : acc'.toList[j]? with
    | none =>
      have h1 := List.getElem?_eq_none_iff.mp hj
      rw [Array.length_toList, it.1] at h1
      rw [List.getElem?_eq_none (by rw [Array.length_toList]; exact h1)]
      all_goals rfl
    | some v =>
      obtain ⟨hi, hv⟩ := it.2 j v (by rw [← Array.getElem?_toList]; exact hj)
      rw [Array.getElem?_toList, Array.getElem?_eq_getElem hi, hv]
      all_goals rfl
  refine ⟨.ref _, upd H1 _ (.lst vs), I2.laid (t' := tk) (o := .lst vs) kp (Nat.le_refl _) ⟨hz, acc'.toList, c', by rw [ea]; exact rv, by rw [Array.toArray_toList]; exact e⟩, rfl, q _ (I2.hok.fresh (Nat.le_refl _))⟩
end
end L2
end
section
set_option maxHeartbeats 4000000
namespace Dn
open PySem PySem.Spec L2
/-- data whose keys are whole numbers -/
def intKeys : List (PyData × PyData) → Option (List (Int × PyData))
  | [] => some []
  | (.int n, d) :: r => (intKeys r).map ((n, d) :: ·)
  | _ :: _ => none
theorem intKeys_some : ∀ {ks : List (PyData × PyData)} {kvs : List (Int × PyData)}, intKeys ks = some kvs → ks = kvs.map fun q => (.int q.1, q.2)
  | [], kvs, h => by
    cases h
    rfl
  | (k, d) :: r, kvs, h => by
    cases k <;> try cases h
    rename_i n
    unfold intKeys at h
    cases z : intKeys r with
    | none =>
      rw [z] at h
      cases h
    | some ys =>
      rw [z] at h
      cases h
      rw [List.map_cons, ← intKeys_some z]
theorem intKeys_map : ∀ kvs : List (Int × PyData), intKeys (kvs.map fun q => (.int q.1, q.2)) = some kvs
  | [] => rfl
  | (k, d) :: r => by
    rw [List.map_cons, intKeys, intKeys_map r]
    rfl
/-- data whose keys are tuples of whole numbers: it begins with a mark -/
def tupKeys : List (PyData × PyData) → Option (List (List Int × PyData))
  | [] => some []
  | (.tuple ds, d) :: r => match intsOf ds with
    | some k => (tupKeys r).map ((k, d) :: ·)
    | none => none
  | _ :: _ => none
def dictT (kvs : List (List Int × PyData)) : PyData := .dict ((.bool true, .none) :: kvs.map fun q => (.tuple (q.1.map .int), q.2))
theorem tupKeys_some : ∀ {ks : List (PyData × PyData)} {kvs : List (List Int × PyData)}, tupKeys ks = some kvs → ks = kvs.map fun q => (.tuple (q.1.map .int), q.2)
  | [], kvs, h => by
    cases h
    rfl
  | (k, d) :: r, kvs, h => by
    cases k <;> try cases h
    rename_i ds
    unfold tupKeys at h
    cases c : intsOf ds with
    | none =>
      simp only [c] at h
      cases h
    | some k =>
      simp only [c] at h
      cases z : tupKeys r with
      | none =>
        rw [z] at h
        cases h
      | some ys =>
        rw [z] at h
        cases h
        rw [List.map_cons, ← tupKeys_some z, intsOf_some c]
theorem tupKeys_map : ∀ kvs : List (List Int × PyData), tupKeys (kvs.map fun q => (.tuple (q.1.map .int), q.2)) = some kvs
  | [] => rfl
  | (k, d) :: r => by
    have e : ∀ ns : List Int, intsOf (ns.map .int) = some ns := fun ns => by
      induction ns with
      | nil => rfl
      | cons n ns ih =>
        rw [List.map_cons, intsOf, ih]
        rfl
    rw [List.map_cons, tupKeys]
    simp only [e, tupKeys_map r]
    rfl
def dkOf (ks : List (PyData × PyData)) : Option Dk := match intKeys ks with
  | some kvs => some (.I kvs)
  | none => match ks with
    | (.bool true, .none) :: r => (tupKeys r).map Dk.T
    | _ => none
def dictAt (ρ : Rho) (i : Nat) : Option Dk := match ρ[i]? with
  | some (.dct k) => some k
  | some (.dat (.dict ks)) => dkOf ks
  | _ => none
theorem dr_dk {K : PySem.W.Frag} {HF : Hp} : ∀ {kvs : List (Int × PyData)} {xs : List (Key × V)}, (kvs.map fun q => (PyData.int q.1, q.2)).map (·.1) = xs.map (fun x => keyD x.1) → DRs K HF (xs.map (·.2)) ((kvs.map fun q => (PyData.int q.1, q.2)).map (·.2)) → Paired (fun x q => x.1 = Sum.inl q.1 ∧ DR K HF x.2 q.2) xs kvs
  | [], [], _, _ => .nil
  | _ :: _, [], h, _ => by simp at h
  | [], _ :: _, h, _ => by simp at h
  | (n, d) :: r, (k, v) :: xs, h, .cons a b => by
    simp only [List.map_cons, List.cons.injEq] at h
    obtain ⟨h1, h2⟩ := h
    refine .cons ⟨?_, a⟩ (dr_dk (by simpa using h2) b)
    cases k with
    | inl i =>
      unfold keyD at h1
      simp only [PyData.int.injEq] at h1
      rw [h1]
    | inr x =>
      unfold keyD at h1
      cases h1
theorem dr_dt {K : PySem.W.Frag} {HF : Hp} : ∀ {kvs : List (List Int × PyData)} {xs : List (List Key × V)}, xs.map (·.1) = kvs.map (fun q => q.1.map Sum.inl) → DRs K HF (xs.map (·.2)) (kvs.map (·.2)) → Paired (fun x q => x.1 = q.1.map Sum.inl ∧ DR K HF x.2 q.2) xs kvs
  | [], [], _, _ => .nil
  | _ :: _, [], h, _ => by simp at h
  | [], _ :: _, h, _ => by simp at h
  | (n, d) :: r, (k, v) :: xs, h, .cons a b => by
    simp only [List.map_cons, List.cons.injEq] at h
    exact .cons ⟨h.1, a⟩ (dr_dt h.2 b)
section
variable {K : PySem.W.Frag} {g : Gh} {σ : St} {H HF : Hp} {ρ : Rho} {f : Feed} {i : Nat}
theorem dict_here {k : Dk} (r : Rel K g σ H HF ρ f) (h : dictAt ρ i = some k) : ∃ p, σ[i]? = some (some (.ref p)) ∧ DkAt K H HF p k := by
  unfold dictAt at h
  cases z : ρ[i]? with
  | none =>
    rw [z] at h
    cases h
  | some s =>
    rw [z] at h
    cases s with
    | dct l =>
      cases h
      obtain ⟨p, h1, h2, h3⟩ := dct_here r z
      exact ⟨p, h1, h3⟩
    | dat d =>
      cases d <;> try cases h
      rename_i ks
      simp only at h
      unfold dkOf at h
      cases c : intKeys ks with
      | none =>
        simp only [c] at h
        split at h
        · rename_i r0
          cases c2 : tupKeys r0 with
          | none =>
            rw [c2] at h
            cases h
          | some kvs =>
            rw [c2] at h
            cases h
            have e := tupKeys_some c2
            subst e
            obtain ⟨v, e1, e2⟩ := r.slot i _ z
            generalize hd : PyData.dict ((.bool true, .none) :: kvs.map fun q => (.tuple (q.1.map .int), q.2)) = dd at e2
            cases e2 with
            | @dit _ xs kvs2 h1 h2 h3 =>
              have : kvs2 = kvs := by
                simp only [PyData.dict.injEq, List.cons.injEq, true_and] at hd
                have a := tupKeys_map kvs
                rw [hd, tupKeys_map kvs2] at a
                exact Option.some.inj a
              subst this
              exact ⟨_, e1, _, r.sub _ _ h1, dr_dt h2 h3⟩
            | @dic _ xs ks2 h1 h2 h3 =>
              cases hd
              cases xs with
              | nil => simp at h2
              | cons x xs =>
                obtain ⟨x1 | x1, x2⟩ := x <;> simp [keyD] at h2
            | exc h1 h2 h3 h4 => cases hd
            | _ => cases hd
        · cases h
      | some kvs =>
        simp only [c] at h
        cases h
        have e := intKeys_some c
        subst e
        obtain ⟨v, e1, e2⟩ := r.slot i _ z
        generalize hd : PyData.dict (kvs.map fun q => (PyData.int q.1, q.2)) = dd at e2
        cases e2 with
        | dic h1 h2 h3 =>
          cases hd
          exact ⟨_, e1, _, r.sub _ _ h1, dr_dk h2 h3⟩
        | exc h1 h2 h3 h4 =>
          exfalso
          cases kvs with
          | nil => cases hd
          | cons a r =>
            simp only [List.map_cons, PyData.dict.injEq, List.cons.injEq, Prod.mk.injEq] at hd
            cases hd.1.1
        | dit h1 h2 h3 =>
          exfalso
          cases kvs with
          | nil => cases hd
          | cons a r =>
            simp only [List.map_cons, PyData.dict.injEq, List.cons.injEq, Prod.mk.injEq] at hd
            cases hd.1.1
        | _ => cases hd
    | _ => cases h
def keyGet (k : Dk) (d : PyData) : Option (Option PyData) := match k, d with
  | .I kvs, .int n => some (getK kvs n)
  | .T kvs, .tuple ds => (intsOf ds).map (getK kvs)
  | _, _ => none
theorem get_read {p : Addr} {k : Dk} {y : V} {d : PyData} {o : Option PyData} (l : Le HF H) (h : DkAt K H HF p k) (t : Top K g H HF y d) (e : keyGet k d = some o) :
    ∃ r, DGetS K H p y r ∧ ((o = none ∧ r = none) ∨ ∃ c v, o = some c ∧ r = some v ∧ DR K HF v c) := by
  cases k with
  | I kvs =>
    cases d <;> try cases e
    rename_i n
    have ey := t.int
    subst ey
    obtain ⟨xs, h1, h2⟩ := h
    refine ⟨_, .inl ⟨xs, Sum.inl n, h1, rfl, rfl⟩, ?_⟩
    rcases pair_get inl_inj h2 n with ⟨a, b⟩ | ⟨c, v, a, b, dr⟩
    · exact .inl ⟨a, b⟩
    · exact .inr ⟨c, v, a, b, dr⟩
  | T kvs =>
    cases d <;> try cases e
    rename_i ds
    unfold keyGet at e
    cases c : intsOf ds with
    | none =>
      simp only [c] at e
      cases e
    | some ks =>
      simp only [c] at e
      cases e
      have e2 := intsOf_some c
      subst e2
      obtain ⟨b, vs, rfl, hb, rb⟩ := t.tup
      have ev := rb.toInts
      subst ev
      obtain ⟨xs, h1, h2⟩ := h
      refine ⟨_, .inr ⟨xs, ks.map Sum.inl, b, h1, rfl, by rw [kV_inls]; exact l.sqT hb, rfl⟩, ?_⟩
      rcases pair_get inls_inj h2 ks with ⟨a, b⟩ | ⟨c, v, a, b, dr⟩
      · exact .inl ⟨a, b⟩
      · exact .inr ⟨c, v, a, b, dr⟩
end
/-- t[k] -/
def cDGet (i : Nat) (ix : Ex) : Ex := fun ρ f => match dictAt ρ i with
  | some t => pk (ix ρ f) fun k f1 => match keyGet t k with
    | some (some d) => .ok (.dat d) f1
    | _ => .no
  | none => .no
/-- t.get(k, d) -/
def cDGet2 (i : Nat) (ix dx : Ex) : Ex := fun ρ f => match dictAt ρ i with
  | some t => pk (ix ρ f) fun k f1 => dt (dx ρ f1) fun d f2 => match keyGet t k with
    | some o => .ok (.dat (o.getD d)) f2
    | none => .no
  | none => .no
/-- list(t.values()) -/
def Dk.vals : Dk → List PyData
  | .I kvs => kvs.map (·.2)
  | .T kvs => kvs.map (·.2)
def cDVals (i : Nat) : Ex := fun ρ f => match dictAt ρ i with
  | some t => .ok (.own t.vals) f
  | none => .no
/-- list(t), sorted(t) -/
def cDKeys (i : Nat) : Ex := fun ρ f => match dictAt ρ i with
  | some (.I kvs) => .ok (.own (kvs.map fun q => .int q.1)) f
  | _ => .no
def cDSort (i : Nat) : Ex := fun ρ f => match dictAt ρ i with
  | some (.T kvs) => if kvs.length ≤ 100000 then .ok (.own ((sortL (kvs.map (·.1))).map tupI)) f else .no
  | _ => .no
def sFrzD (i : Nat) : Sm := fun ρ f => match ρ[i]? with
  | some (.dct (.I kvs)) => .ok (.nx (ρ.set i (.dat (.dict (kvs.map fun q => (.int q.1, q.2)))))) f
  | _ => .ok (.nx ρ) f
theorem pair_vals {K : PySem.W.Frag} {HF : Hp} {κ κ' : Type} {ι : κ → κ'} : ∀ {xs : List (κ' × V)} {kvs : List (κ × PyData)}, Paired (fun x q => x.1 = ι q.1 ∧ DR K HF x.2 q.2) xs kvs → DRs K HF (xs.map (·.2)) (kvs.map (·.2))
  | _, _, .nil => .nil
  | _, _, .cons h r => .cons h.2 (pair_vals r)
theorem pair_keys {K : PySem.W.Frag} {HF : Hp} {κ κ' : Type} {ι : κ → κ'} : ∀ {xs : List (κ' × V)} {kvs : List (κ × PyData)}, Paired (fun x q => x.1 = ι q.1 ∧ DR K HF x.2 q.2) xs kvs → xs.map (·.1) = kvs.map fun q => ι q.1
  | _, _, .nil => rfl
  | _, _, .cons h r => by rw [List.map_cons, List.map_cons, h.1, pair_keys r]
section
variable {K : PySem.W.Frag} {g : Gh} {σ : St} {H HF : Hp} {ρ : Rho} {f : Feed}
/-- tuples that lie there may be frozen -/
theorem frz_tups : ∀ {ys : List V} {ls : List (List Int)} {HF : Hp}, At K g H HF f → Paired (fun (x : V) k => ∃ b, x = .ref b ∧ H b = some (.tup (k.map V.int))) ys ls → ∃ GF, Step g H HF H GF ∧ FeedAt g H GF f ∧ DRs K GF ys (ls.map tupI)
  | _, _, HF, a, .nil => ⟨HF, Step.refl a.sub, a.feed, .nil⟩
  | _, _, HF, a, .cons (a := x) (b := k) h r => by
    obtain ⟨b, rfl, hb⟩ := h
    have hfa : b ≠ g.fa := fun z => by
      subst z
      have := a.feed.d.symm.trans hb
      unfold feedO at this
      cases this
    have l : Le HF (upd HF b (.tup (k.map V.int))) := fun c o e => by
      by_cases z : c = b
      · subst z
        rw [upd_same, ← a.sub _ _ e, hb]
      · rw [upd_ne z]
        exact e
    have sub2 : Le (upd HF b (.tup (k.map V.int))) H := fun c o e => by
      by_cases z : c = b
      · subst z
        rw [upd_same] at e
        rw [hb]
        exact e
      · rw [upd_ne z] at e
        exact a.sub _ _ e
    have s1 : Step g H HF H (upd HF b (.tup (k.map V.int))) := ⟨fun _ _ _ e => e, l, fun c x y => by
      have nb : c ≠ b := fun z => by
        subst z
        obtain ⟨o, e1, e2⟩ := x
        rw [hb] at e1
        cases e1
        cases e2
      rw [upd_ne nb]
      exact y, sub2⟩
    have f1 : FeedAt g H (upd HF b (.tup (k.map V.int))) f := ⟨a.feed.d, by rw [upd_ne (Ne.symm hfa)]; exact a.feed.nf, l _ _ a.feed.c⟩
    obtain ⟨GF, s2, f2, d2⟩ := frz_tups (HF := upd HF b (.tup (k.map V.int))) ⟨sub2, f1⟩ r
    exact ⟨GF, s1.trans f1 s2, f2, .cons (.tup (.inl (.inl (s2.le _ _ upd_same))) (DRs.ints k)) d2⟩
end
section
variable {K : PySem.W.Frag} {g : Gh} {σ : St} {H HF : Hp} {ρ : Rho} {f : Feed}
end
/-- a dict of tuple keys is told as a datum from here on -/
def sFrzT (i : Nat) : Sm := fun ρ f => match ρ[i]? with
  | some (.dct (.T kvs)) => .ok (.nx (ρ.set i (.dat (dictT kvs)))) f
  | _ => .ok (.nx ρ) f
section
variable {K : PySem.W.Frag} {g : Gh} {σ : St} {H HF : Hp} {ρ : Rho} {f : Feed} {i : Nat}
theorem dict_now {k : Dk} {p : Addr} (r : Rel K g σ H HF ρ f) (h : dictAt ρ i = some k) (e : σ[i]? = some (some (.ref p))) : DkAt K H HF p k := by
  obtain ⟨q, h1, h2⟩ := dict_here r h
  rw [e] at h1
  cases h1
  exact h2
end
section
variable {X : Cx} {W : Wish} {i : Nat} {o ie e : Expr} {xi x : Ex} {pos apos mpos cpos p : Pos}
theorem de_dget (hu : X.A.units + 64 < cLine) (ho : PE X o (tVar i)) (hi : DE X W ie xi) (hs : NoSl ie) : DE X W (.Subscript o ie pos) (cDGet i xi) :=
  pe_mono (pe_dgetS (by omega) ho hi hs) fun σ H Q ⟨g, HF, ρ, f, rel, q⟩ => by
  unfold cDGet at q
  cases c : dictAt ρ i with
  | none =>
    simp only [c] at q
    exact (show False from q).elim
  | some t =>
    simp only [c] at q
    obtain ⟨p, h1, _⟩ := dict_here rel c
    refine ⟨.ref p, h1, tD_pk rel q fun d f1 y G GF r1 s1 t1 q1 => ?_⟩
    cases c2 : keyGet t d with
    | none =>
      simp only [c2] at q1
      exact (show False from q1).elim
    | some o2 =>
      obtain ⟨r, g1, g2⟩ := get_read r1.sub (dict_now r1 c h1) t1 c2
      rcases g2 with ⟨rfl, rfl⟩ | ⟨c3, v, rfl, rfl, dr⟩
      · simp only [c2] at q1
        exact (show False from q1).elim
      · simp only [c2] at q1
        exact ⟨p, v, rfl, g1, (show Fin X.K g σ H HF Q (.dat c3) f1 from q1) v G GF s1 r1.feed dr⟩
theorem isD_of {K : PySem.W.Frag} {H HF : Hp} {p : Addr} {k : Dk} (h : DkAt K H HF p k) : IsD H p := by
  cases k with
  | I kvs =>
    obtain ⟨xs, h1, _⟩ := h
    exact .inl ⟨xs, .inl h1⟩
  | T kvs =>
    obtain ⟨xs, h1, _⟩ := h
    exact .inr ⟨xs, .inl h1⟩
theorem de_dget2 (hu : X.A.units + 64 < cLine) (ho : PE X o (tVar i)) (hi : DE X W ie xi) (he : DE X W e x) (m : M2 X o "get" apos ie e cpos := by exact ⟨by rfl, by rfl, by rfl, by rfl⟩) : DE X W (.Call (.Attribute o "get" apos) [ie, e] [] cpos) (cDGet2 i xi x) :=
  pe_mono (pe_dget2S (by omega) ho hi he m) fun σ H Q ⟨g, HF, ρ, f, rel, q⟩ => by
  unfold cDGet2 at q
  cases c : dictAt ρ i with
  | none =>
    simp only [c] at q
    exact (show False from q).elim
  | some t =>
    simp only [c] at q
    obtain ⟨p, h1, h2⟩ := dict_here rel c
    refine ⟨.ref p, h1, p, rfl, isD_of h2, tD_pk rel q fun d f1 y G GF r1 s1 t1 q1 => tD_dt r1 q1 fun d2 f2 z I IF r2 s2 dr2 q2 => ?_⟩
    cases c2 : keyGet t d with
    | none =>
      simp only [c2] at q2
      exact (show False from q2).elim
    | some o2 =>
      simp only [c2] at q2
      obtain ⟨r, g1, g2⟩ := get_read r2.sub (dict_now r2 c h1) (t1.step s2) c2
      refine ⟨r, g1, ?_⟩
      rcases g2 with ⟨rfl, rfl⟩ | ⟨c3, v, rfl, rfl, dr⟩
      · exact (show Fin X.K g σ H HF Q (.dat d2) f2 from q2) z I IF (s1.trans r1.feed s2) r2.feed dr2
      · exact (show Fin X.K g σ H HF Q (.dat c3) f2 from q2) v I IF (s1.trans r1.feed s2) r2.feed dr
theorem de_dvals (hc : X.calm = true) (hg : Gl X "list") (hm : X.mg "list" = none) (ho : PE X o (tVar i)) (hbase : attributeBase o "values" X.env (eval o X.env) = eval o X.env := by rfl) (hline : (apos.endLine == mpos.line) = true := by rfl)
    (na : starEach [Expr.Call (.Attribute o "values" apos) [] [] mpos] X.env = (false, eval (Expr.Call (.Attribute o "values" apos) [] [] mpos) X.env) :: starEach [] X.env := by rfl) :
    DE X W (.Call (.Name "list" p) [.Call (.Attribute o "values" apos) [] [] mpos] [] pos) (cDVals i) :=
  pe_mono (pe_listVals hc hg hm ho hbase hline na) fun σ H Q ⟨g, HF, ρ, f, rel, q⟩ => by
  unfold cDVals at q
  cases c : dictAt ρ i with
  | none =>
    simp only [c] at q
    exact (show False from q).elim
  | some t =>
    simp only [c] at q
    obtain ⟨p, h1, h2⟩ := dict_here rel c
    obtain ⟨rv, z, k⟩ := give_end (x := some (RV.own t.vals)) rel.feed (Step.refl rel.sub) q
    cases z
    cases t with
    | I kvs =>
      obtain ⟨xs, h3, h4⟩ := h2
      exact ⟨.ref p, h1, p, _, rfl, .inl ⟨xs, h3, rfl⟩, fun r hr => k.newL ⟨rel.sub, rel.feed⟩ (pair_vals h4) r hr⟩
    | T kvs =>
      obtain ⟨xs, h3, h4⟩ := h2
      exact ⟨.ref p, h1, p, _, rfl, .inr ⟨xs, h3, rfl⟩, fun r hr => k.newL ⟨rel.sub, rel.feed⟩ (pair_vals h4) r hr⟩
theorem de_dsort (hc : X.calm = true) (hu : X.A.units + 64 < cLine) (hg : Gl X "sorted") (hm : X.mg "sorted" = none) (ho : PE X o (tVar i)) (he : starEach [o] X.env = (false, eval o X.env) :: starEach [] X.env := by rfl) : DE X W (.Call (.Name "sorted" p) [o] [] pos) (cDSort i) :=
  pe_mono (pe_callB (cr_sortDT hc hu) hg hm (by decide +kernel) (pa_cons ho pa_nil he) (by decide) (by decide) he rfl) fun σ H Q ⟨g, HF, ρ, f, rel, q⟩ => by
  unfold cDSort at q
  cases c : dictAt ρ i with
  | none =>
    simp only [c] at q
    exact (show False from q).elim
  | some t =>
    cases t with
    | I kvs =>
      simp only [c] at q
      exact (show False from q).elim
    | T kvs =>
      simp only [c] at q
      by_cases c2 : kvs.length ≤ 100000
      · rw [if_pos c2] at q
        obtain ⟨p, h1, h2⟩ := dict_here rel c
        obtain ⟨xs, h3, h4⟩ := h2
        refine ⟨.ref p, h1, ?_⟩
        refine ⟨p, xs, kvs.map (·.1), rfl, h3, by rw [pair_keys h4, List.map_map]; rfl, by rw [List.length_map]; exact c2, fun ys ls r z1 z2 z3 z4 => ?_⟩
        obtain ⟨GF, s2, f2, d2⟩ := frz_tups ⟨rel.sub, rel.feed⟩ z1
        obtain ⟨rv, z, k⟩ := give_end (x := some (RV.own ((sortL (kvs.map (·.1))).map tupI))) rel.feed (Step.refl rel.sub) q
        cases z
        have k2 : Ends1 X.K g H GF f (.own ((sortL (kvs.map (·.1))).map tupI)) Q := fun v G IF s h rr => k v G IF (s2.trans f2 s) h rr
        rw [sortL_is z3 z2] at k2
        exact k2.newL ⟨s2.sub, f2⟩ d2 r z4
      · rw [if_neg c2] at q
        exact (show False from q).elim
end
end Dn
end
section
set_option maxHeartbeats 4000000
namespace L2
open PySem PySem.Spec PyProof.Rows Builtin
section
variable {X : Cx} {o : Expr} {p pos apos mpos : Pos} {td : TE}
end
end L2
namespace Dn
open PySem PySem.Spec L2
/-- sum(t.values()) -/
def cDSum (i : Nat) : Ex := fun ρ f => match dictAt ρ i with
  | some t => match intsOf t.vals with
    | some ns => .ok (.dat (.int ns.sum)) f
    | none => .no
  | none => .no
section
variable {X : Cx} {W : Wish} {i : Nat} {o : Expr} {pos apos mpos p : Pos}
end
end Dn
end
section
set_option maxHeartbeats 4000000
namespace Dn
open PySem PySem.Spec L2
section
variable {α β : Type} {ρ : Rho} {f : Feed} {i j : Nat} {x y : Ex} {kx : Kx}
@[simp] theorem e_dctT : sDct true i ρ f = .ok (.nx (ρ.set i (.dct (.T [])))) f := nr rfl
@[simp] theorem e_dctI : sDct false i ρ f = .ok (.nx (ρ.set i (.dct (.I [])))) f := nr rfl
@[simp] theorem e_key : sKey i kx ρ f = (kx ρ f).bind fun ks f1 => .ok (.nx (ρ.set i (.key ks))) f1 := nr rfl
@[simp] theorem e_kVar : kVar i ρ f = match ρ[i]? with
  | some (.key ks) => .ok ks f
  | _ => .no := nr rfl
@[simp] theorem e_kTup {xs : List Ex} : kTup xs ρ f = (cArgs xs ρ f).bind fun ds f1 => match intsOf ds with
  | some ks => if ks.length ≤ 1000 then .ok ks f1 else .no
  | none => .no := nr rfl
@[simp] theorem e_dputI : sDputI i y x ρ f = match ρ[i]? with
  | some (.dct (.I kvs)) => dt (x ρ f) fun d f1 => pk (y ρ f1) fun k f2 => match k with
    | .int n => if kvs.length < 100000 then .ok (.nx (ρ.set i (.dct (.I (setK kvs n d))))) f2 else .no
    | _ => .no
  | _ => .no := nr rfl
@[simp] theorem e_dputT : sDputT i kx x ρ f = match ρ[i]? with
  | some (.dct (.T kvs)) => dt (x ρ f) fun d f1 => (kx ρ f1).bind fun ks f2 => if kvs.length < 100000 then .ok (.nx (ρ.set i (.dct (.T (setK kvs ks d))))) f2 else .no
  | _ => .no := nr rfl
@[simp] theorem e_dictAt : dictAt ρ i = match ρ[i]? with
  | some (.dct k) => some k
  | some (.dat (.dict ks)) => dkOf ks
  | _ => none := nr rfl
@[simp] theorem intKeys_mapS {kvs : List (Int × PyData)} : intKeys (kvs.map fun q => (.int q.1, q.2)) = some kvs := intKeys_map kvs
@[simp] theorem dkOf_I {kvs : List (Int × PyData)} : dkOf (kvs.map fun q => (.int q.1, q.2)) = some (.I kvs) := by
  unfold dkOf
  rw [intKeys_map]
@[simp] theorem dkOf_nil : dkOf [] = some (.I []) := nr rfl
@[simp] theorem dkOf_T {kvs : List (List Int × PyData)} : dkOf ((.bool true, .none) :: kvs.map fun q => (.tuple (q.1.map .int), q.2)) = some (.T kvs) := by
  show Option.map Dk.T (tupKeys _) = _
  rw [tupKeys_map]
  rfl
@[simp] theorem e_frzT : sFrzT i ρ f = match ρ[i]? with
  | some (.dct (.T kvs)) => .ok (.nx (ρ.set i (.dat (dictT kvs)))) f
  | _ => .ok (.nx ρ) f := nr rfl
@[simp] theorem e_dget : cDGet i x ρ f = match dictAt ρ i with
  | some t => pk (x ρ f) fun k f1 => match keyGet t k with
    | some (some d) => .ok (.dat d) f1
    | _ => .no
  | none => .no := nr rfl
@[simp] theorem e_dget2 : cDGet2 i x y ρ f = match dictAt ρ i with
  | some t => pk (x ρ f) fun k f1 => dt (y ρ f1) fun d f2 => match keyGet t k with
    | some o => .ok (.dat (o.getD d)) f2
    | none => .no
  | none => .no := nr rfl
@[simp] theorem keyGetI {kvs : List (Int × PyData)} {n : Int} : keyGet (.I kvs) (.int n) = some (getK kvs n) := nr rfl
@[simp] theorem keyGetT {kvs : List (List Int × PyData)} {ds : List PyData} : keyGet (.T kvs) (.tuple ds) = (intsOf ds).map (getK kvs) := nr rfl
@[simp] theorem intsOf_nil : intsOf [] = some [] := nr rfl
@[simp] theorem intsOf_cons {n : Int} {r : List PyData} : intsOf (.int n :: r) = (intsOf r).map (n :: ·) := by
  cases h : intsOf r <;> simp [intsOf, h]
@[simp] theorem e_dvals : cDVals i ρ f = match dictAt ρ i with
  | some t => .ok (.own t.vals) f
  | none => .no := nr rfl
@[simp] theorem valsI {kvs : List (Int × PyData)} : Dk.vals (.I kvs) = kvs.map (·.2) := nr rfl
@[simp] theorem valsT {kvs : List (List Int × PyData)} : Dk.vals (.T kvs) = kvs.map (·.2) := nr rfl
@[simp] theorem e_dsum : cDSum i ρ f = match dictAt ρ i with
  | some t => match intsOf t.vals with
    | some ns => .ok (.dat (.int ns.sum)) f
    | none => .no
  | none => .no := nr rfl
@[simp] theorem e_dkeys : cDKeys i ρ f = match dictAt ρ i with
  | some (.I kvs) => .ok (.own (kvs.map fun q => .int q.1)) f
  | _ => .no := nr rfl
@[simp] theorem e_dsort : cDSort i ρ f = match dictAt ρ i with
  | some (.T kvs) => if kvs.length ≤ 100000 then .ok (.own ((sortL (kvs.map (·.1))).map tupI)) f else .no
  | _ => .no := nr rfl
@[simp] theorem e_frzD : sFrzD i ρ f = match ρ[i]? with
  | some (.dct (.I kvs)) => .ok (.nx (ρ.set i (.dat (.dict (kvs.map fun q => (.int q.1, q.2)))))) f
  | _ => .ok (.nx ρ) f := nr rfl
end
section
variable {κ : Type} [DecidableEq κ]
theorem setK_get (kvs : List (κ × PyData)) (k j : κ) (d : PyData) : getK (setK kvs k d) j = if k = j then some d else getK kvs j := by
  unfold setK
  by_cases c : (kvs.any fun p => decide (p.1 = k)) = true
  · rw [if_pos c]
    induction kvs with
    | nil => simp at c
    | cons p r ih =>
      rw [List.map_cons, getK_cons]
      by_cases e : p.1 = k
      · simp only [e, if_true]
        by_cases e2 : k = j
        · rw [if_pos e2, if_pos e2]
        · rw [if_neg e2, if_neg e2, getK_cons, if_neg (by rw [e]; exact e2)]
          by_cases c2 : (r.any fun p => decide (p.1 = k)) = true
          · rw [ih c2, if_neg e2]
          · congr 1
            have : r.map (fun p => if p.1 = k then (p.1, d) else p) = r.map id := List.map_congr_left fun q hq => by
              have : ¬ q.1 = k := fun z => c2 (List.any_eq_true.mpr ⟨q, hq, decide_eq_true z⟩)
              rw [if_neg this]
              rfl
            rw [this, List.map_id]
      · simp only [e, if_false]
        rw [getK_cons]
        by_cases e3 : p.1 = j
        · rw [if_pos e3, if_pos e3, if_neg (fun z => e (e3.trans z.symm))]
        · rw [if_neg e3, if_neg e3]
          refine ih ?_
          rw [List.any_cons] at c
          simpa [e] using c
  · rw [if_neg c]
    induction kvs with
    | nil => rw [List.nil_append, getK_cons, getK_nil]
    | cons p r ih =>
      rw [List.any_cons] at c
      simp only [Bool.or_eq_true, not_or, decide_eq_true_eq] at c
      rw [List.cons_append, getK_cons, getK_cons]
      by_cases e3 : p.1 = j
      · rw [if_pos e3, if_pos e3, if_neg (fun z => c.1 (e3.trans z.symm))]
      · rw [if_neg e3, if_neg e3]
        exact ih c.2
theorem setK_keys (kvs : List (κ × PyData)) (k : κ) (d : PyData) : (setK kvs k d).map (·.1) = if k ∈ kvs.map (·.1) then kvs.map (·.1) else kvs.map (·.1) ++ [k] := by
  unfold setK
  have e : (kvs.any fun p => decide (p.1 = k)) = true ↔ k ∈ kvs.map (·.1) := by
    rw [List.any_eq_true, List.mem_map]
    constructor
    · rintro ⟨p, h1, h2⟩
      exact ⟨p, h1, of_decide_eq_true h2⟩
    · rintro ⟨p, h1, h2⟩
      exact ⟨p, h1, decide_eq_true h2⟩
  by_cases c : k ∈ kvs.map (·.1)
  · rw [if_pos (e.mpr c), if_pos c, List.map_map]
    refine List.map_congr_left fun q _ => ?_
    show (if q.1 = k then (q.1, d) else q).1 = q.1
    split <;> rfl
  · rw [if_neg (fun z => c (e.mp z)), if_neg c, List.map_append]
    rfl
theorem setK_nodup {kvs : List (κ × PyData)} (k : κ) (d : PyData) (h : (kvs.map (·.1)).Nodup) : ((setK kvs k d).map (·.1)).Nodup := by
  rw [setK_keys]
  split
  · exact h
  · rename_i c
    exact List.nodup_append.mpr ⟨h, by simp, fun a ha b hb => by
      rw [List.mem_singleton] at hb
      subst hb
      exact fun z => c (z ▸ ha)⟩
theorem setK_mem {kvs : List (κ × PyData)} {k : κ} {d : PyData} {p : κ × PyData} (h : p ∈ setK kvs k d) : p ∈ kvs ∨ p = (k, d) := by
  unfold setK at h
  split at h
  · obtain ⟨q, hq, e⟩ := List.mem_map.mp h
    split at e
    · rename_i c
      exact .inr (by rw [← e, c])
    · exact .inl (e ▸ hq)
  · rcases List.mem_append.mp h with h | h
    · exact .inl h
    · exact .inr (List.mem_singleton.mp h)
theorem getK_mem {kvs : List (κ × PyData)} {k : κ} {d : PyData} (h : getK kvs k = some d) : (k, d) ∈ kvs := by
  induction kvs with
  | nil => cases h
  | cons p r ih =>
    rw [getK_cons] at h
    split at h
    · rename_i e
      cases h
      rw [← e]
      exact List.mem_cons_self
    · exact List.mem_cons_of_mem _ (ih h)
theorem getK_of_mem {kvs : List (κ × PyData)} {p : κ × PyData} (n : (kvs.map (·.1)).Nodup) (h : p ∈ kvs) : getK kvs p.1 = some p.2 := by
  induction kvs with
  | nil => cases h
  | cons q r ih =>
    rw [List.map_cons, List.nodup_cons] at n
    rw [getK_cons]
    rcases List.mem_cons.mp h with e | h
    · rw [e, if_pos rfl]
    · have : ¬ q.1 = p.1 := fun z => n.1 (by rw [z]; exact List.mem_map_of_mem h)
      rw [if_neg this]
      exact ih n.2 h
end
end Dn
end
section
set_option maxHeartbeats 4000000
namespace Dn
open PySem PySem.Spec L2
section
variable {α β : Type} {F G : α → β → Prop}
theorem paired_lenB : ∀ {as : List α} {bs : List β}, Paired F as bs → as.length = bs.length
  | _, _, .nil => rfl
  | _, _, .cons _ r => congrArg (· + 1) (paired_lenB r)
theorem paired_getB : ∀ {as : List α} {bs : List β} {j : Nat} {b : β}, Paired F as bs → bs[j]? = some b → ∃ a, as[j]? = some a ∧ F a b
  | _, _, _, _, .nil, e => by simp at e
  | _, _, 0, b, .cons h _, e => by
    simp at e
    subst e
    exact ⟨_, rfl, h⟩
  | _, _, j + 1, b, .cons _ r, e => by
    obtain ⟨a, h1, h2⟩ := paired_getB (j := j) r (by simpa using e)
    exact ⟨a, by simpa using h1, h2⟩
theorem paired_setB {a : α} {b : β} : ∀ {as : List α} {bs : List β} {j : Nat}, Paired F as bs → as.Nodup → as[j]? = some a → (∀ x y, x ≠ a → F x y → G x y) → G a b → Paired G as (bs.set j b)
  | _, _, _, .nil, _, e, _, _ => by simp at e
  | x :: as, y :: bs, 0, .cons h r, n, e, k, q => by
    simp at e
    subst e
    obtain ⟨n1, n2⟩ := List.nodup_cons.mp n
    exact .cons q (paired_impM (fun z m w hz => k z w (fun e => n1 (e ▸ m)) hz) r)
  | x :: as, y :: bs, j + 1, .cons h r, n, e, k, q => by
    obtain ⟨n1, n2⟩ := List.nodup_cons.mp n
    have e2 : as[j]? = some a := by simpa using e
    refine .cons (k x y (fun z => n1 ?_) h) (paired_setB r n2 e2 k q)
    rw [z]
    exact List.mem_of_getElem? e2
theorem paired_appB : ∀ {as cs : List α} {bs ds : List β}, Paired F as bs → Paired F cs ds → Paired F (as ++ cs) (bs ++ ds)
  | _, _, _, _, .nil, s => s
  | _, _, _, _, .cons h r, s => .cons h (paired_appB r s)
end
theorem atI_mapB {α β : Type} (h : α → β) (l : List α) (k : Int) : atI (l.map h) k = (atI l k).map h := by
  unfold atI
  rw [List.length_map]
  cases ixN l.length k with
  | none => rfl
  | some j => simp
section
variable {K : PySem.W.Frag} {mg : Str → Option Value} {W : Wish} {E : XK} {g : Gh} {σ : St} {H HF G GF : Hp} {ρ : Rho} {f : Feed} {p q a : Addr} {qs : List Addr} {dss : List (List PyData)} {i j : Nat}
theorem BdAt.at (b : BdAt K g H HF p qs dss) {k : Int} {ds : List PyData} (c : atI dss k = some ds) : ∃ q, atI qs k = some q ∧ q ∈ qs ∧ g.H0 q = none ∧ HF q = none ∧ ∃ vs, H q = some (.lst vs) ∧ DRs K HF vs ds := by
  have hl := paired_lenB b.2.2.2
  unfold atI at c ⊢
  rw [hl]
  cases z : ixN dss.length k with
  | none =>
    rw [z] at c
    cases c
  | some j =>
    rw [z] at c
    obtain ⟨q, e, vs, w1, w2⟩ := paired_getB b.2.2.2 (show dss[j]? = some ds from c)
    have m : q ∈ qs := List.mem_of_getElem? e
    obtain ⟨h1, h2⟩ := b.2.2.1 q (List.mem_cons_of_mem _ m)
    exact ⟨q, e, m, h1, h2, vs, w1, w2⟩
/-- board[k] -/
def cRow (i : Nat) (xi : Ex) : Ex := fun ρ f => match ρ[i]? with
  | some (.brd dss) => pk (xi ρ f) fun k f1 => match k with
    | .int k => match atI dss k with
      | some ds => .ok (.lent i ds) f1
      | none => .no
    | _ => .no
  | _ => .no
theorem row_read {xi : Ex} {Q : VK} (h : tD K mg W (cRow i xi) σ H Q) : tOp (rIx K) (tVar i) (tD K mg W xi) σ H Q := by
  obtain ⟨g, HF, ρ, f, rel, q⟩ := h
  unfold cRow at q
  cases z : ρ[i]? with
  | none =>
    simp only [z] at q
    exact (show False from q).elim
  | some s =>
    cases s with
    | brd dss =>
      simp only [z] at q
      obtain ⟨p, qs, e1, bd⟩ := rel.slot i _ z
      refine ⟨.ref p, e1, tD_pk rel q fun d f1 w G GF r1 s1 t1 q1 => ?_⟩
      cases d <;> try exact (show False from q1).elim
      rename_i k
      simp only at q1
      cases c : atI dss k with
      | none =>
        simp only [c] at q1
        exact (show False from q1).elim
      | some ds =>
        simp only [c] at q1
        have b1 := bd.step rel.feed s1
        obtain ⟨q, c2, m, h0, hf, vs, y1, y2⟩ := b1.at c
        exact .inl ⟨p, qs.map V.ref, k, .ref q, rfl, t1.int, .inl (.inl b1.1), by rw [atI_mapB, c2]; rfl, (show Fin K g σ H HF Q (.lent i ds) f1 from q1) (.ref q) G GF s1 r1.feed ⟨q, vs, rfl, h0, hf, y1, y2⟩⟩
    | _ =>
      simp only [z] at q
      exact (show False from q).elim
/-- one row is written -/
theorem Rel.writeB {ws : List V} {es : List PyData} (r : Rel K g σ H HF ρ f) (h : ρ[i]? = some (.brd dss)) (hp : σ[i]? = some (some (.ref p))) (b : BdAt K g H HF p qs dss) (hj : qs[j]? = some q) (hw : DRs K HF ws es) :
    Rel K g σ (upd H q (.lst ws)) HF (ρ.set i (.brd (dss.set j es))) f := by
  have m : q ∈ qs := List.mem_of_getElem? hj
  have mp : q ∈ p :: qs := List.mem_cons_of_mem _ m
  obtain ⟨h0, hf⟩ := b.2.2.1 q mp
  obtain ⟨us, hq⟩ := b.live mp
  obtain ⟨n1, n2⟩ := List.nodup_cons.mp b.2.1
  have npq : p ≠ q := fun e => n1 (e ▸ m)
  have bn : BdAt K g (upd H q (.lst ws)) HF p qs (dss.set j es) := by
    refine ⟨by rw [upd_ne npq]; exact b.1, b.2.1, b.2.2.1, paired_setB b.2.2.2 n2 hj (fun x y nx ⟨vs, w1, w2⟩ => ⟨vs, by rw [upd_ne nx]; exact w1, w2⟩) ⟨ws, upd_same, hw⟩⟩
  refine ⟨fun a o e => ?_, ⟨by rw [upd_ne (fun z => ne_fa r.feed hq z.symm)]; exact r.feed.d, r.feed.nf, r.feed.c⟩, fun a o z e => ?_, r.le, r.new, by rw [List.length_set, r.len], fun l x e => ?_, fun a c xs ys ea eb ee => ?_, fun a c xs ys ea eb ee => ?_, ?_⟩
  · rw [upd_ne (ne_of_none e hf)]
    exact r.sub a o e
  · rw [upd_ne (ne_of_none e h0)]
    exact r.ext a o z e
  · rcases set_get e with ⟨e1, e2, e3⟩ | ⟨e1, e2⟩
    · subst e1
      subst e3
      exact ⟨p, qs, hp, bn⟩
    · have k := r.slot l x e2
      cases x with
      | emp => trivial
      | dat d => exact k
      | own fs =>
        obtain ⟨p2, vs2, z1, z2, z3, z4, z5⟩ := k
        have np : p2 ≠ q := fun w => r.bd.2 i l dss fs p p2 qs h e2 hp z1 b.1 (by rw [w]; exact mp)
        exact ⟨p2, vs2, z1, z2, z3, by rw [upd_ne np]; exact z4, z5⟩
      | feed => exact k
      | scr ns => exact k
      | dct t =>
        obtain ⟨p2, z1, z2, z3, z4⟩ := k
        have np : p2 ≠ q := fun w => by
          subst w
          exact z4.nl hq
        exact ⟨p2, z1, z2, z3, z4.mono (fun o e => by rw [upd_ne np]; exact e) (Le.refl _)⟩
      | key ks => exact k
      | brd es2 => exact absurd (r.bd.1 i l dss es2 h e2) e1
  · rcases set_get ea with ⟨a1, a2, a3⟩ | ⟨a1, a2⟩
    · cases a3
    · rcases set_get eb with ⟨b1, b2, b3⟩ | ⟨b1, b2⟩
      · cases b3
      · exact r.sep a c xs ys a2 b2 ee
  · rcases set_get ea with ⟨a1, a2, a3⟩ | ⟨a1, a2⟩
    · cases a3
    · rcases set_get eb with ⟨b1, b2, b3⟩ | ⟨b1, b2⟩
      · cases b3
      · exact r.sepD a c xs ys a2 b2 ee
  · refine r.bd.to (fun a es2 e => ?_) (fun a es2 e => ?_) fun a es2 p2 q2 e1 e2 e3 => ?_
    · rcases set_get e with ⟨a1, a2, a3⟩ | ⟨a1, a2⟩
      · subst a1
        exact ⟨⟨_, h⟩, rfl⟩
      · exact ⟨⟨_, a2⟩, rfl⟩
    · rcases set_get e with ⟨a1, a2, a3⟩ | ⟨a1, a2⟩
      · cases a3
      · exact ⟨⟨_, a2⟩, rfl⟩
    · have ei := r.bd.1 i a dss es2 h e1
      subst ei
      rw [hp] at e2
      cases e2
      rw [upd_ne npq] at e3
      exact e3
/-- board[a][b] = e -/
def sBPut (i : Nat) (xa xb e : Ex) : Sm := fun ρ f => match ρ[i]? with
  | some (.brd dss) => dt (e ρ f) fun d f1 => pk (xa ρ f1) fun k f2 => match k with
    | .int k => match ixN dss.length k with
      | some j => match dss[j]? with
        | some ds => pk (xb ρ f2) fun l f3 => match l with
          | .int l => match ixN ds.length l with
            | some m => .ok (.nx (ρ.set i (.brd (dss.set j (ds.set m d))))) f3
            | none => .no
          | _ => .no
        | none => .no
      | none => .no
    | _ => .no
  | _ => .no
theorem bput_read {xa xb x : Ex} {D : Ends} (h : tDS K mg E (sBPut i xa xb x) D σ H) : tAsg (tD K mg (fun _ => E) x) (gSub (tOp (rIx K) (tVar i) (tD K mg (fun _ => E) xa)) (tD K mg (fun _ => E) xb) rSetL) D σ H := by
  obtain ⟨g, HF, ρ, f, rel, q⟩ := h
  unfold sBPut at q
  cases z : ρ[i]? with
  | none =>
    simp only [z] at q
    exact (show False from q).elim
  | some s =>
    cases s with
    | brd dss =>
      simp only [z] at q
      refine tD_Sdt rel q fun d f1 v G GF r1 s1 dr q1 => ?_
      obtain ⟨p, qs, e1, b0⟩ := r1.slot i _ z
      refine ⟨.ref p, e1, tD_Spk r1 q1 fun k f2 w I IF r2 s2 t2 q2 => ?_⟩
      have b2 := b0.step r1.feed s2
      cases k <;> try exact (show False from q2).elim
      rename_i k
      simp only at q2
      cases c : ixN dss.length k with
      | none =>
        simp only [c] at q2
        exact (show False from q2).elim
      | some j =>
        simp only [c] at q2
        cases c2 : dss[j]? with
        | none =>
          simp only [c2] at q2
          exact (show False from q2).elim
        | some ds =>
          simp only [c2] at q2
          obtain ⟨a, ha, _⟩ := paired_getB b2.2.2.2 c2
          have hl := paired_lenB b2.2.2.2
          have ea : atI qs k = some a := by
            unfold atI
            rw [hl, c]
            exact ha
          refine .inl ⟨p, qs.map V.ref, k, .ref a, rfl, t2.int, .inl (.inl b2.1), by rw [atI_mapB, ea]; rfl, ?_⟩
          refine tD_Spk r2 q2 fun l f3 y J JF r3 s3 t3 q3 => ?_
          have b3 := b2.step r2.feed s3
          obtain ⟨a2, ha2, vs, y1, y2⟩ := paired_getB b3.2.2.2 c2
          rw [ha] at ha2
          cases ha2
          cases l <;> try exact (show False from q3).elim
          rename_i l
          simp only at q3
          cases c3 : ixN ds.length l with
          | none =>
            simp only [c3] at q3
            exact (show False from q3).elim
          | some m =>
            simp only [c3] at q3
            exact ⟨a, vs, l, m, rfl, t3.int, y1, by rw [y2.length]; exact c3, (show FinS K g D (.nx _) f3 from q3) _ _ JF (r3.writeB z e1 b3 ha (y2.set m ((dr.mono s2.le).mono s3.le)))⟩
    | _ =>
      simp only [z] at q
      exact (show False from q).elim
/-- board.append(row), the row a growing list of its own name, which holds nothing from here on -/
def sBApp (i j : Nat) : Sm := fun ρ f => match ρ[i]? with
  | some (.brd dss) => match ρ[j]? with
    | some (.own ds) => if dss.length < 100000 then .ok (.nx ((ρ.set i (.brd (dss ++ [ds]))).set j .emp)) f else .no
    | _ => .no
  | _ => .no
theorem bdApp {ds : List PyData} {vs : List V} (b : BdAt K g H HF p qs dss) (nq : q ∉ p :: qs) (h0 : g.H0 q = none) (hf : HF q = none) (hv : H q = some (.lst vs)) (hd : DRs K HF vs ds) : BdAt K g (upd H p (.lst (qs.map V.ref ++ [.ref q]))) HF p (qs ++ [q]) (dss ++ [ds]) := by
  have nqp : q ≠ p := fun e => nq (by rw [e]; exact List.mem_cons_self)
  obtain ⟨p0, pf⟩ := b.2.2.1 p List.mem_cons_self
  obtain ⟨n1, n2⟩ := List.nodup_cons.mp b.2.1
  refine ⟨by rw [upd_same, List.map_append]; rfl, ?_, fun x m => ?_, paired_appB (paired_impM (fun x m y ⟨vs, w1, w2⟩ => ⟨vs, by rw [upd_ne (fun e => n1 (by rw [← e]; exact m))]; exact w1, w2⟩) b.2.2.2) (.cons ⟨vs, by rw [upd_ne nqp]; exact hv, hd⟩ .nil)⟩
  · refine List.nodup_cons.mpr ⟨fun m => ?_, ?_⟩
    · rcases List.mem_append.mp m with m | m
      · exact n1 m
      · exact nqp (List.mem_singleton.mp m).symm
    · refine List.nodup_append.mpr ⟨n2, by simp, fun x hx y hy => ?_⟩
      rw [List.mem_singleton.mp hy]
      exact fun e => nq (List.mem_cons_of_mem _ (e ▸ hx))
  · rcases List.mem_cons.mp m with rfl | m
    · exact ⟨p0, pf⟩
    · rcases List.mem_append.mp m with m | m
      · exact b.2.2.1 x (List.mem_cons_of_mem _ m)
      · rw [List.mem_singleton.mp m]
        exact ⟨h0, hf⟩
/-- a board is told as a datum from here on -/
def sFrzB (i : Nat) : Sm := fun ρ f => match ρ[i]? with
  | some (.brd dss) => .ok (.nx (ρ.set i (.dat (.list (dss.map .list))))) f
  | _ => .ok (.nx ρ) f
abbrev Bx := Rho → Feed → R (List (List PyData))
def tBd (K : PySem.W.Frag) (mg : Str → Option Value) (W : Wish) (b : Bx) : TE := fun σ H Q => ∃ g HF ρ f, Rel K g σ H HF ρ f ∧ ROk K mg g H HF (W σ) (b ρ f) fun dss f1 => ∀ p qs G GF, Step g H HF G GF → FeedAt g G GF f1 → (∀ q ∈ p :: qs, H q = none) → BdAt K g G GF p qs dss → Q (.ref p) G
def isBrd : Slot → Bool
  | .brd _ => true
  | _ => false
def sBrd (i : Nat) (b : Bx) : Sm := fun ρ f => if (ρ.set i .emp).any isBrd = true then .no else (b ρ f).bind fun dss f1 => .ok (.nx (ρ.set i (.brd dss))) f1
theorem Rel.putB (r0 : Rel K g σ H HF ρ f) {f1 : Feed} (s : Step g H HF G GF) (hf : FeedAt g G GF f1) (hn : ∀ q ∈ p :: qs, H q = none) (b : BdAt K g G GF p qs dss) (nb : (ρ.set i .emp).any isBrd = false) : Rel K g (σ.set i (some (.ref p))) G GF (ρ.set i (.brd dss)) f1 := by
  have r := r0.step s hf
  have no : ∀ (j : Nat) es, i ≠ j → ρ[j]? ≠ some (.brd es) := fun j es n e => by
    have : (ρ.set i .emp)[j]? = some (.brd es) := by rw [List.getElem?_set_ne n]; exact e
    have m := List.mem_of_getElem? this
    have := List.any_eq_false.mp nb _ m
    exact this rfl
  refine ⟨r.sub, r.feed, r.ext, r.le, r.new, by rw [List.length_set, List.length_set, r.len], fun j x e => ?_, fun a c xs ys ea eb ee => ?_, fun a c xs ys ea eb ee => ?_, ⟨fun a c xs ys ea eb => ?_, fun a c xs ys p2 a2 q2 ea eb e1 e2 e3 => ?_⟩⟩
  · rcases set_get e with ⟨e1, e2, e3⟩ | ⟨e1, e2⟩
    · subst e1
      subst e3
      rw [List.getElem?_set_self (by rw [r.len]; exact e2)]
      exact ⟨p, qs, rfl, b⟩
    · rw [List.getElem?_set_ne e1]
      exact r.slot j x e2
  · rcases set_get ea with ⟨a1, a2, a3⟩ | ⟨a1, a2⟩
    · cases a3
    · rcases set_get eb with ⟨b1, b2, b3⟩ | ⟨b1, b2⟩
      · cases b3
      · rw [List.getElem?_set_ne a1, List.getElem?_set_ne b1] at ee
        exact r.sep a c xs ys a2 b2 ee
  · rcases set_get ea with ⟨a1, a2, a3⟩ | ⟨a1, a2⟩
    · cases a3
    · rcases set_get eb with ⟨b1, b2, b3⟩ | ⟨b1, b2⟩
      · cases b3
      · rw [List.getElem?_set_ne a1, List.getElem?_set_ne b1] at ee
        exact r.sepD a c xs ys a2 b2 ee
  · rcases set_get ea with ⟨a1, a2, a3⟩ | ⟨a1, a2⟩
    · rcases set_get eb with ⟨b1, b2, b3⟩ | ⟨b1, b2⟩
      · exact a1.symm.trans b1
      · exact absurd b2 (no c ys b1)
    · exact absurd a2 (no a xs a1)
  · rcases set_get ea with ⟨a1, a2', a3⟩ | ⟨a1, a2'⟩
    · subst a1
      rw [List.getElem?_set_self (by rw [r.len]; exact a2')] at e1
      cases e1
      have w := b.rows e3
      subst w
      rcases set_get eb with ⟨b1, b2, b3⟩ | ⟨b1, b2⟩
      · cases b3
      · rw [List.getElem?_set_ne b1] at e2
        obtain ⟨p3, vs, z1, z2, z3, z4, z5⟩ := r0.slot c _ b2
        rw [e2] at z1
        cases z1
        intro m
        rw [hn _ m] at z4
        cases z4
    · exact absurd a2' (no a xs a1)
theorem bd_set {b : Bx} {D : Ends} (h : tDS K mg E (sBrd i b) D σ H) : tAsg (tBd K mg (fun _ => E) b) (gName i) D σ H := by
  obtain ⟨g, HF, ρ, f, rel, q⟩ := h
  unfold sBrd at q
  by_cases c : (ρ.set i .emp).any isBrd = true
  · rw [if_pos c] at q
    exact (show False from q).elim
  · rw [if_neg c] at q
    refine ⟨g, HF, ρ, f, rel, rel.toE ((XF.of_bind q).mono fun dss f1 q1 p qs G GF s hf hn bd => ?_)⟩
    exact (show FinS K g D (.nx (ρ.set i (.brd dss))) f1 from q1) _ G GF (rel.putB s hf hn bd (by simpa using c))
/-- [e], e a growing list -/
def bOne (e : Ex) : Bx := fun ρ f => (e ρ f).bind fun rv f1 => match rv with
  | .own ds => .ok [ds] f1
  | _ => .no
def lcB (T : Tgt) (e : Ex) (ρ : Rho) : List PyData → List (List PyData) → Feed → R (List (List PyData))
  | [], acc, f => .ok acc f
  | d :: ds, acc, f => match T.put d ρ with
    | none => .no
    | some ρ1 => (noEx (e ρ1 f)).bind fun rv f2 => match rv with
      | .own ys => if acc.length < 100000 then lcB T e ρ ds (acc ++ [ys]) f2 else .no
      | _ => .no
/-- [[..] for ..] -/
def bLc (it : Ix) (T : Tgt) (e : Ex) (vs : List Nat) : Bx := fun ρ f => (it ρ f).bind fun ds f1 => lcB T e (wipeR ρ vs) ds [] f1
theorem lcB_read {it : Ix} {T : Tgt} {e : Ex} {vs : List Nat} {Q : VK} (hl : ∀ j ∈ T.own, j ∈ vs) (h : tBd K mg W (bLc it T e vs) σ H Q) : tLc (tDI K mg W it) (T.rd K) (tDT K mg noW cYes) (tD K mg noW e) vs σ H Q := by
  obtain ⟨g, HF, ρ, f, rel, q⟩ := h
  refine ⟨g, HF, ρ, f, rel, (ROk.of_bind q).mono fun ds f1 k J G GF s1 hf Y => fun D hD => ?_⟩
  have r1 := rel.step s1 hf
  have w1 := r1.wiped vs
  have hD0 : H D = none := s1.dead hf hD
  have hG0 : g.H0 D = none := rel.dead hD0
  have hfa : D ≠ g.fa := fun z => by
    rw [z] at hD
    exact hf.ne hD
  have h3 : ∀ (i : Nat) (ds : List PyData), (wipeR ρ vs)[i]? = some (.own ds) → (L2.wipe σ vs)[i]? ≠ some (some (.ref D)) := fun i es e1 e2 => by
    obtain ⟨p, us, z1, z2, z3, z4, z5⟩ := w1.slot i _ e1
    rw [z1] at e2
    cases e2
    rw [z4] at hD
    cases hD
  have h3D : ∀ (i : Nat) (k : Dk), (wipeR ρ vs)[i]? = some (.dct k) → (L2.wipe σ vs)[i]? ≠ some (some (.ref D)) := fun i es e1 e2 => by
    obtain ⟨p, z1, z2, z3, z4⟩ := w1.slot i _ e1
    rw [z1] at e2
    cases e2
    exact z4.some hD
  have h3B : ∀ {G' GF' : Hp}, Step g H HF G' GF' → ∀ (i : Nat) dss (p : Addr) (qs : List Addr), (wipeR ρ vs)[i]? = some (.brd dss) → (L2.wipe σ vs)[i]? = some (some (.ref p)) → G' p = some (.lst (qs.map V.ref)) → D ∉ p :: qs := fun {G' GF'} st i dss p qs e1 e2 e3 m => by
    obtain ⟨us, z⟩ := ((rel.wiped vs).bdWas st e1 e2 e3).live m
    rw [hD0] at z
    cases z
  have hGD : GF D = none := by
    cases z : GF D with
    | none => rfl
    | some o =>
      rw [s1.sub _ _ z] at hD
      cases hD
  have stU : ∀ {I IF : Hp} {o : HO}, Step g H HF I IF → IF D = none → Step g H HF (upd I D o) IF := fun {I IF o} s z => ⟨fun a x y e => by
      rw [upd_ne (ne_of_none e hD0)]
      exact s.ext a x y e, s.le, s.new, fun a x e => by
      rw [upd_ne (ne_of_none e z)]
      exact s.sub a x e⟩
  refine ⟨fun i m I => i + m = ds.length ∧ ∃ IF f qs acc, Rel K g (L2.wipe σ vs) I IF (wipeR ρ vs) f ∧ Le GF IF ∧ Step g H HF I IF ∧ BdAt K g I IF D qs acc ∧ (∀ q ∈ D :: qs, H q = none) ∧
    ROk K mg g H HF (W σ) (lcB T e (wipeR ρ vs) (ds.drop i) acc f) (fun dss f1 => ∀ p qs G GF, Step g H HF G GF → FeedAt g G GF f1 → (∀ q ∈ p :: qs, H q = none) → BdAt K g G GF p qs dss → Q (.ref p) G), ⟨ds.length, by omega, GF, f1, [], [], w1.other hG0 hGD hfa h3 h3D (h3B s1), Le.refl _, stU s1 hGD, ⟨by rw [upd_same]; rfl, by simp, fun q m => by
      rw [List.mem_singleton.mp m]
      exact ⟨hG0, hGD⟩, .nil⟩, fun q m => by
      rw [List.mem_singleton.mp m]
      exact hD0, by rw [List.drop_zero]; exact k⟩, fun i m I hW => ?_⟩
  obtain ⟨em, IF, f, qs, acc, r2, l2, s2, bd, hn, q2⟩ := hW
  by_cases hi : i < ds.length
  · refine .inr ⟨Y.go i I IF l2 r2.sub hi, fun I => ∃ IF f qs acc, Rel K g (L2.wipe σ vs) I IF (wipeR ρ vs) f ∧ Le GF IF ∧ Step g H HF I IF ∧ BdAt K g I IF D qs acc ∧ (∀ q ∈ D :: qs, H q = none) ∧
      ROk K mg g H HF (W σ) (lcB T e (wipeR ρ vs) (ds.drop (i + 1)) acc f) (fun dss f1 => ∀ p qs G GF, Step g H HF G GF → FeedAt g G GF f1 → (∀ q ∈ p :: qs, H q = none) → BdAt K g G GF p qs dss → Q (.ref p) G), fun H2 z => ⟨m - 1, by omega, by omega, z⟩, fun x I2 y => ?_⟩
    obtain ⟨IF2, d, e1, n, dr⟩ := Y.yld i I IF x I2 l2 r2.sub hi y
    rw [drop_at e1] at q2
    unfold lcB at q2
    have n1 : Step g I IF I2 IF2 := n.step
    have nf := n.feed r2.feed
    have r3 := r2.step n1 nf
    have bd1 := bd.step r2.feed n1
    cases z : T.put d (wipeR ρ vs) with
    | none =>
      simp only [z] at q2
      exact (show False from q2).elim
    | some ρ1 =>
      simp only [z] at q2
      have ww := wipe_wipe σ vs
      refine (fun hh => by have h9 := T.wipe hl hh; rw [ww] at h9; exact h9) (T.read r3 dr z fun σ2 r4 => ?_)
      refine ⟨g, IF2, ρ1, f, r4, ?_⟩
      show ∀ G GF, Step g I2 IF2 G GF → FeedAt g G GF f → _
      intro J2 JF2 s3 hf3
      have s4 := s2.trans r2.feed (n1.trans nf s3)
      simp only [if_true]
      refine ⟨g, JF2, ρ1, f, r4.step s3 hf3, noEx_ok ((ROk.of_bind q2).mono fun rv f3 k4 v L LF s5 hf5 rr => ?_)⟩
      cases rv with
      | own ys =>
        simp only at k4
        by_cases c : acc.length < 100000
        · rw [if_pos c] at k4
          obtain ⟨a, us, rfl, z2, z3, z4, z5⟩ := rr
          have bd2 := (bd1.step nf s3).step hf3 s5
          have s45 := s4.trans hf3 s5
          have na : a ∉ D :: qs := fun m => by
            obtain ⟨us2, z⟩ := (bd1.step nf s3).live m
            rw [z2] at z
            cases z
          have ha0 : H a = none := s4.dead hf3 z2
          have r7 := ((r3.step s3 hf3).step s5 hf5).other (o := .lst (qs.map V.ref ++ [.ref a])) hG0 (bd2.2.2.1 D List.mem_cons_self).2 hfa h3 h3D (h3B s45)
          refine ⟨_, bd2.1, by rw [List.length_map, paired_lenB bd2.2.2.2]; exact Nat.lt_of_lt_of_le c (by decide), LF, f3, qs ++ [a], acc ++ [ys], r7, ((l2.trans n.le).trans s3.le).trans s5.le, stU s45 (bd2.2.2.1 D List.mem_cons_self).2, bdApp bd2 na (rel.dead ha0) z3 z4 z5, fun q m => ?_, k4⟩
          rcases List.mem_cons.mp m with rfl | m
          · exact hD0
          · rcases List.mem_append.mp m with m | m
            · exact hn q (List.mem_cons_of_mem _ m)
            · rw [List.mem_singleton.mp m]
              exact ha0
        · rw [if_neg c] at k4
          exact (show False from k4).elim
      | _ => exact (show False from k4).elim
  · have e0 : ds.drop i = [] := List.drop_eq_nil_of_le (by omega)
    rw [e0] at q2
    refine .inl ⟨Y.stop i I IF l2 r2.sub (by omega), ?_⟩
    exact (show ∀ p qs G GF, Step g H HF G GF → FeedAt g G GF f → (∀ q ∈ p :: qs, H q = none) → BdAt K g G GF p qs acc → Q (.ref p) G from q2) D qs I IF s2 r2.feed hn bd
end
end Dn
end
section
set_option maxHeartbeats 4000000
namespace L2
open PySem PySem.Spec PyProof.Rows
end L2
namespace Dn
open PySem PySem.Spec L2
/-- {(a, ..): e} -/
def cDictT1 (kx : Kx) (e : Ex) : Ex := fun ρ f => (kx ρ f).bind fun ks f1 => dt (e ρ f1) fun d f2 => .ok (.dat (dictT [(ks, d)])) f2
section
variable {X : Cx} {W : Wish} {ke e : Expr} {kx : Kx} {fe : Ex} {pos : Pos}
end
@[simp] theorem e_dictT1 {kx : Kx} {e : Ex} {ρ : Rho} {f : Feed} : cDictT1 kx e ρ f = (kx ρ f).bind fun ks f1 => dt (e ρ f1) fun d f2 => .ok (.dat (dictT [(ks, d)])) f2 := nr rfl
section
variable {ρ : Rho} {f : Feed} {i j : Nat} {x y z : Ex}
@[simp] theorem e_row : cRow i x ρ f = match ρ[i]? with
  | some (.brd dss) => pk (x ρ f) fun k f1 => match k with
    | .int k => match atI dss k with
      | some ds => .ok (.lent i ds) f1
      | none => .no
    | _ => .no
  | _ => .no := nr rfl
@[simp] theorem e_bput : sBPut i x y z ρ f = match ρ[i]? with
  | some (.brd dss) => dt (z ρ f) fun d f1 => pk (x ρ f1) fun k f2 => match k with
    | .int k => match ixN dss.length k with
      | some j => match dss[j]? with
        | some ds => pk (y ρ f2) fun l f3 => match l with
          | .int l => match ixN ds.length l with
            | some m => .ok (.nx (ρ.set i (.brd (dss.set j (ds.set m d))))) f3
            | none => .no
          | _ => .no
        | none => .no
      | none => .no
    | _ => .no
  | _ => .no := nr rfl
@[simp] theorem e_bapp : sBApp i j ρ f = match ρ[i]? with
  | some (.brd dss) => match ρ[j]? with
    | some (.own ds) => if dss.length < 100000 then .ok (.nx ((ρ.set i (.brd (dss ++ [ds]))).set j .emp)) f else .no
    | _ => .no
  | _ => .no := nr rfl
@[simp] theorem e_frzB : sFrzB i ρ f = match ρ[i]? with
  | some (.brd dss) => .ok (.nx (ρ.set i (.dat (.list (dss.map .list))))) f
  | _ => .ok (.nx ρ) f := nr rfl
@[simp] theorem isBrd_emp : isBrd .emp = false := nr rfl
@[simp] theorem isBrd_dat {d : PyData} : isBrd (.dat d) = false := nr rfl
@[simp] theorem isBrd_own {ds : List PyData} : isBrd (.own ds) = false := nr rfl
@[simp] theorem isBrd_feed : isBrd .feed = false := nr rfl
@[simp] theorem isBrd_dct {k : Dk} : isBrd (.dct k) = false := nr rfl
@[simp] theorem isBrd_key {k : List Int} : isBrd (.key k) = false := nr rfl
@[simp] theorem e_brd {b : Bx} : sBrd i b ρ f = if (ρ.set i .emp).any isBrd = true then .no else (b ρ f).bind fun dss f1 => .ok (.nx (ρ.set i (.brd dss))) f1 := nr rfl
@[simp] theorem e_bOne {e : Ex} : bOne e ρ f = (e ρ f).bind fun rv f1 => match rv with
  | .own ds => .ok [ds] f1
  | _ => .no := nr rfl
@[simp] theorem e_bLc {it : Ix} {T : Tgt} {e : Ex} {vs : List Nat} : bLc it T e vs ρ f = (it ρ f).bind fun ds f1 => lcB T e (wipeR ρ vs) ds [] f1 := nr rfl
end
/-- all rows at once -/
theorem lcB_map {α : Type} {T : Tgt} {e : Ex} {ρ : Rho} {f : Feed} {enc : α → PyData} {g : α → List PyData} : ∀ (xs : List α) (acc : List (List PyData)), acc.length + xs.length ≤ 100000 → (∀ x ∈ xs, ∃ ρ1, T.put (enc x) ρ = some ρ1 ∧ e ρ1 f = .ok (.own (g x)) f) → lcB T e ρ (xs.map enc) acc f = .ok (acc ++ xs.map g) f
  | [], acc, _, _ => by
    unfold lcB
    simp
  | x :: xs, acc, hl, h => by
    obtain ⟨ρ1, h1, h2⟩ := h x List.mem_cons_self
    rw [List.length_cons] at hl
    rw [List.map_cons]
    unfold lcB
    rw [h1]
    simp only [h2]
    show (if acc.length < 100000 then lcB T e ρ (xs.map enc) (acc ++ [g x]) f else .no) = _
    rw [if_pos (by omega), lcB_map xs _ (by rw [List.length_append, List.length_singleton]; omega) fun y hy => h y (List.mem_cons_of_mem _ hy), List.map_cons, List.append_assoc]
    rfl
section
variable {X : Cx} {W : Wish} {E : XK} {i j : Nat} {pos pos2 : Pos}
theorem de_row {o ie : Expr} {xi : Ex} (ho : PE X o (tVar i)) (hi : DE X W ie xi) (hs : PlainIx ie) : DE X W (.Subscript o ie pos) (cRow i xi) := pe_mono (pe_ix ix_seq ho hi hs) fun _ _ _ h => row_read h
theorem ds_bput {o ie je e : Expr} {xa xb x : Ex} {tpos : Pos} (ho : PE X o (tVar i)) (hi : DE X (fun _ => E) ie xa) (hsi : PlainIx ie) (hj : DE X (fun _ => E) je xb) (he : DE X (fun _ => E) e x)
    (ha : ∀ v, assign (.Subscript (.Subscript o ie pos2) je tpos) X.env v = (do
      let ov ← holding [v] (eval (.Subscript o ie pos2) X.env)
      let iv ← holding [v, ov] (eval je X.env)
      standAt tpos
      holding [v, ov, iv] (setItem ov iv v)
      release [v, ov, iv] []) := by intro _; rfl)
    (hs : swapsWithSole [.Subscript (.Subscript o ie pos2) je tpos] e pos.line X.env = pure false := by rfl) (hw : swappedStores [.Subscript (.Subscript o ie pos2) je tpos] e X.env = pure none := by rfl)
    (h1 : (assignEach [.Subscript (.Subscript o ie pos2) je tpos] X.env).map (·.2) = [assign (.Subscript (.Subscript o ie pos2) je tpos) X.env] := by rfl) : DS X E (.Assign [.Subscript (.Subscript o ie pos2) je tpos] e pos) (sBPut i xa xb x) :=
  ps_mono (ps_asg he (pg_sub (pe_ix ix_seq ho hi hsi) hj set_list ha) hs hw h1) fun _ _ _ q => bput_read q
theorem ds_brd {e : Expr} {y : Str} {b : Bx} (hN : X.N.Nodup) (hi : X.N[i]? = some y) (hx : Loc X.env.scope y) (he : PE X e (tBd X.K X.mg (fun _ => E) b)) (hs : swapsWith e (some (.Name y pos2)) pos.line X.env = pure false := by rfl)
    (hf : X.fn y = true ∨ X.env.scope.names.lookup y = some .local := by first | exact .inl rfl | exact .inr rfl | assumption) : DS X E (.Assign [.Name y pos2] e pos) (sBrd i b) :=
  ps_mono (ps_set hN hi hx he hs hf) fun _ _ _ q => bd_set q
theorem db_lc {elt tg iter : Expr} {ifs : List Expr} {scope : Scope} {own : List (Str × Nat)} {it : Ix} {T : Tgt} {e : Ex} (hc : X.calm = true) (hN : X.N.Nodup) (hi : DI X W tg iter it) (ok : BlkOk X.N X.env.scope scope own) (hl : ∀ j ∈ T.own, j ∈ own.map (·.2))
    (hg : ∀ (s : Shared) (H : Hp) (C : Addr) (cl : List (Str × Addr)) (fp : List Addr), PG (X.blk s H scope (compEnvC scope cl C X.env) fp) tg (T.rd X.K))
    (ht : ∀ (s : Shared) (H : Hp) (C : Addr) (cl : List (Str × Addr)) (fp : List Addr), PTs (X.blk s H scope (compEnvC scope cl C X.env) fp) ifs (tDT X.K X.mg noW cYes))
    (he : ∀ (s : Shared) (H : Hp) (C : Addr) (cl : List (Str × Addr)) (fp : List Addr), DE (X.blk s H scope (compEnvC scope cl C X.env) fp) noW elt e)
    (hs : ∀ x, foldedSetIterable iter X.env x = pure x := by intro _; rfl) : PE X (.ListComp elt [⟨tg, iter, ifs, 0⟩] scope pos) (tBd X.K X.mg W (bLc it T e (own.map (·.2)))) :=
  pe_mono (pe_lc hc hN hi ok hg ht he hs) fun _ _ _ q => lcB_read hl q
end
end Dn
end
section
set_option maxHeartbeats 4000000
namespace Dn
open PySem PySem.Spec L2
def srtI (l : List Int) : List Int := l.mergeSort fun x y => decide (x ≤ y)
theorem srtI_perm {l : List Int} : (srtI l).Perm l := List.mergeSort_perm _ _
theorem srtI_pw (l : List Int) : (srtI l).Pairwise (· ≤ ·) := by
  have h := List.pairwise_mergeSort (le := fun x y : Int => decide (x ≤ y)) (fun a b c => by simp; omega) (fun a b => by simp; omega) l
  exact h.imp fun h => of_decide_eq_true h
theorem srtI_uniq : ∀ {a b : List Int}, a.Perm b → a.Pairwise (· ≤ ·) → b.Pairwise (· ≤ ·) → a = b := fun {a b} h ha hb =>
  List.Perm.eq_of_pairwise (fun x y _ _ h1 h2 => Int.le_antisymm h1 h2) ha hb h
def oSortI : Op1
  | .list ds => match intsOf ds with
    | some ns => some (.own ((srtI ns).map .int))
    | none => none
  | _ => none
theorem oSortI_ok {K : PySem.W.Frag} : UnOk K (fun v H Q => rSortedI K [v] H Q) oSortI := fun g H HF f x d rv a t z Q k => by
  cases d <;> try cases z
  rename_i ds
  unfold oSortI at z
  cases q : intsOf ds with
  | none =>
    simp only [q] at z
    cases z
  | some ns =>
    simp only [q] at z
    cases z
    have e := intsOf_some q
    subst e
    obtain ⟨p, vs, rfl, hp, rp⟩ := t.lst a.sub
    have ev : vs = ns.map V.int := rp.toInts
    subst ev
    refine ⟨p, ns, rfl, .inl (.inl hp), fun ms p2 h1 h2 h3 => ?_⟩
    have es : srtI ns = ms := srtI_uniq (srtI_perm.trans h1.symm) (srtI_pw ns) h2
    rw [es] at k
    exact k.newL a (drs_ints ms) p2 h3
theorem de_sortI {X : Cx} {W : Wish} {a : Expr} {fa : Ex} {p pos : Pos} (hg : Gl X "sorted") (hm : X.mg "sorted" = none) (ha : DE X W a fa) (he : starEach [a] X.env = (false, eval a X.env) :: starEach [] X.env := by rfl) : DE X W (.Call (.Name "sorted" p) [a] [] pos) (cUn oSortI fa) :=
  de_call1 cr_sortedI oSortI_ok hg hm (by decide +kernel) ha (by decide) (by decide) he
@[simp] theorem oSortI_list {ns : List Int} : oSortI (.list (ns.map .int)) = some (.own ((srtI ns).map .int)) := by
  show (match intsOf (ns.map .int) with
    | some ns => some (RV.own ((srtI ns).map .int))
    | none => none) = _
  rw [intsOf_map]
end Dn
end
namespace Fp
open PySem PySem.Spec L2 Dn
abbrev d_NOUGHT : PyData := .tuple [(.int 0), (.int 1)]
abbrev d_ONE : PyData := .tuple [(.int 1), (.int 1)]
abbrev d_LONGEST : PyData := .int 6
abbrev d_MOST_WAYS_v2 : PyData := .int 3
/-- common(one, other); slots: 0 one, 1 other -/
noncomputable def S_common : Sm := sSeq (sWhile (cT (cBin oNe (cVar 1) (cC (.int 0)))) (sPar 0 1 (cVar 1) (cBin oMod (cVar 0) (cVar 1)))) (sRet (cVar 0))
noncomputable def F_common : Dn.Fn := dBody 2 S_common
theorem u_common {a0 a1 : RV} {f : Feed} : F_common [a0, a1] f = dEnd (S_common [fnSlot a0, fnSlot a1] f) := rfl
/-- ratio(top, bottom); slots: 0 top, 1 bottom, 2 sign, 3 part -/
noncomputable def S_ratio : Sm := sSeq (sIf (cT (cBin oEq (cVar 1) (cC (.int 0)))) (sNo) (sNext)) (sSeq (sSet 2 (cIf (cT (cBin oLt (cVar 1) (cC (.int 0)))) (cUn oNeg (cC (.int 1))) (cC (.int 1)))) (sSeq (sSet 3 (cCall F_common [cUn oAbs (cVar 0), cUn oAbs (cVar 1)])) (sRet (cTup [cBin oDiv (cBin oMul (cVar 2) (cVar 0)) (cVar 3), cBin oDiv (cBin oMul (cVar 2) (cVar 1)) (cVar 3)]))))
noncomputable def F_ratio : Dn.Fn := dBody 4 S_ratio
theorem u_ratio {a0 a1 : RV} {f : Feed} : F_ratio [a0, a1] f = dEnd (S_ratio [fnSlot a0, fnSlot a1, .emp, .emp] f) := rfl
/-- plus(one, other); slots: 0 one, 1 other -/
noncomputable def S_plus : Sm := sRet (cCall F_ratio [cBin oAdd (cBin oMul (cBin oIx (cVar 0) (cC (.int 0))) (cBin oIx (cVar 1) (cC (.int 1)))) (cBin oMul (cBin oIx (cVar 1) (cC (.int 0))) (cBin oIx (cVar 0) (cC (.int 1)))), cBin oMul (cBin oIx (cVar 0) (cC (.int 1))) (cBin oIx (cVar 1) (cC (.int 1)))])
noncomputable def F_plus : Dn.Fn := dBody 2 S_plus
theorem u_plus {a0 a1 : RV} {f : Feed} : F_plus [a0, a1] f = dEnd (S_plus [fnSlot a0, fnSlot a1] f) := rfl
/-- minus(one, other); slots: 0 one, 1 other -/
noncomputable def S_minus : Sm := sRet (cCall F_ratio [cBin oSub (cBin oMul (cBin oIx (cVar 0) (cC (.int 0))) (cBin oIx (cVar 1) (cC (.int 1)))) (cBin oMul (cBin oIx (cVar 1) (cC (.int 0))) (cBin oIx (cVar 0) (cC (.int 1)))), cBin oMul (cBin oIx (cVar 0) (cC (.int 1))) (cBin oIx (cVar 1) (cC (.int 1)))])
noncomputable def F_minus : Dn.Fn := dBody 2 S_minus
theorem u_minus {a0 a1 : RV} {f : Feed} : F_minus [a0, a1] f = dEnd (S_minus [fnSlot a0, fnSlot a1] f) := rfl
/-- times(one, other); slots: 0 one, 1 other -/
noncomputable def S_times : Sm := sRet (cCall F_ratio [cBin oMul (cBin oIx (cVar 0) (cC (.int 0))) (cBin oIx (cVar 1) (cC (.int 0))), cBin oMul (cBin oIx (cVar 0) (cC (.int 1))) (cBin oIx (cVar 1) (cC (.int 1)))])
noncomputable def F_times : Dn.Fn := dBody 2 S_times
theorem u_times {a0 a1 : RV} {f : Feed} : F_times [a0, a1] f = dEnd (S_times [fnSlot a0, fnSlot a1] f) := rfl
/-- summed(some); slots: 0 some, 1 found, 2 one -/
noncomputable def S_summed : Sm := sSeq (sSet 1 (cC d_NOUGHT)) (sSeq (sFor (iSeq (cVar 0)) (.one 2) (sSet 1 (cCall F_plus [cVar 1, cVar 2]))) (sRet (cVar 1)))
noncomputable def F_summed : Dn.Fn := dBody 3 S_summed
theorem u_summed {a0 : RV} {f : Feed} : F_summed [a0] f = dEnd (S_summed [fnSlot a0, .emp, .emp] f) := rfl
/-- over(one, other); slots: 0 one, 1 other -/
noncomputable def S_over : Sm := sRet (cCall F_ratio [cBin oMul (cBin oIx (cVar 0) (cC (.int 0))) (cBin oIx (cVar 1) (cC (.int 1))), cBin oMul (cBin oIx (cVar 0) (cC (.int 1))) (cBin oIx (cVar 1) (cC (.int 0)))])
noncomputable def F_over : Dn.Fn := dBody 2 S_over
theorem u_over {a0 a1 : RV} {f : Feed} : F_over [a0, a1] f = dEnd (S_over [fnSlot a0, fnSlot a1] f) := rfl
/-- chances_added(life); slots: 0 life, 1 row, 2 step, 3 found -/
noncomputable def S_chances_added : Sm := sSeq (sAsg (.many [1, 2]) (cVar 0)) (sSeq (sSet 3 (cCall F_summed [cVar 1])) (sSeq (sIf (cT (cBin oEq (cVar 2) (cC d_NOUGHT))) (sRet (cVar 3)) (sNext)) (sRet (cCall F_plus [cVar 3, cCall F_over [cCall F_times [cBin oIx (cVar 1) (cUn oNeg (cC (.int 1))), cVar 2], cCall F_minus [cC d_ONE, cVar 2]]]))))
noncomputable def F_chances_added : Dn.Fn := dBody 4 S_chances_added
theorem u_chances_added {a0 : RV} {f : Feed} : F_chances_added [a0] f = dEnd (S_chances_added [fnSlot a0, .emp, .emp, .emp] f) := rfl
/-- miss(life); slots: 0 life -/
noncomputable def S_miss : Sm := sRet (cCall F_minus [cC d_ONE, cCall F_chances_added [cVar 0]])
noncomputable def F_miss : Dn.Fn := dBody 1 S_miss
theorem u_miss {a0 : RV} {f : Feed} : F_miss [a0] f = dEnd (S_miss [fnSlot a0] f) := rfl
/-- short(life); slots: 0 life, 1 row, 2 step -/
noncomputable def S_short : Sm := sSeq (sAsg (.many [1, 2]) (cVar 0)) (sSeq (sWhile (tAndX (cT (cBin oGt (cUn oLen (cVar 1)) (cC (.int 0)))) (cT (cBin oEq (cBin oIx (cVar 1) (cUn oNeg (cC (.int 1)))) (cC d_NOUGHT)))) (sPar 1 2 (cSl (cVar 1) none (some (cUn oNeg (cC (.int 1))))) (cC d_NOUGHT))) (sSeq (sIf (cT (cBin oEq (cVar 2) (cC d_NOUGHT))) (sRet (cTup [cVar 1, cVar 2])) (sNext)) (sSeq (sWhile (tAndX (cT (cBin oGt (cUn oLen (cVar 1)) (cC (.int 1)))) (cT (cBin oEq (cCall F_times [cBin oIx (cVar 1) (cUn oNeg (cC (.int 2))), cVar 2]) (cBin oIx (cVar 1) (cUn oNeg (cC (.int 1))))))) (sSet 1 (cSl (cVar 1) none (some (cUn oNeg (cC (.int 1))))))) (sRet (cTup [cVar 1, cVar 2])))))
noncomputable def F_short : Dn.Fn := dBody 3 S_short
theorem u_short {a0 : RV} {f : Feed} : F_short [a0] f = dEnd (S_short [fnSlot a0, .emp, .emp] f) := rfl
/-- behind_row(life, power); slots: 0 life, 1 power, 2 row, 3 step, 4 many, 5 rest, 6 once, 7 twice, 8 thrice, 9 found -/
noncomputable def S_behind_row : Sm := sSeq (sAsg (.many [2, 3]) (cVar 0)) (sSeq (sIf (cT (cBin oEq (cVar 3) (cC d_NOUGHT))) (sRet (cC d_NOUGHT)) (sNext)) (sSeq (sSet 4 (cTup [cUn oLen (cVar 2), cC (.int 1)])) (sSeq (sSet 5 (cCall F_minus [cC d_ONE, cVar 3])) (sSeq (sSet 6 (cCall F_over [cVar 3, cVar 5])) (sSeq (sSet 7 (cCall F_over [cVar 6, cVar 5])) (sSeq (sIf (cT (cBin oEq (cVar 1) (cC (.int 1)))) (sRet (cCall F_times [cBin oIx (cVar 2) (cUn oNeg (cC (.int 1))), cCall F_plus [cCall F_times [cVar 4, cVar 6], cVar 7]])) (sNext)) (sSeq (sSet 8 (cCall F_over [cCall F_times [cCall F_plus [cC d_ONE, cVar 3], cVar 7], cVar 5])) (sSeq (sSet 9 (cCall F_plus [cCall F_times [cCall F_times [cVar 4, cVar 4], cVar 6], cCall F_times [cCall F_times [cTup [cC (.int 2), cC (.int 1)], cVar 4], cVar 7]])) (sRet (cCall F_times [cBin oIx (cVar 2) (cUn oNeg (cC (.int 1))), cCall F_plus [cVar 9, cVar 8]]))))))))))
noncomputable def F_behind_row : Dn.Fn := dBody 10 S_behind_row
theorem u_behind_row {a0 a1 : RV} {f : Feed} : F_behind_row [a0, a1] f = dEnd (S_behind_row [fnSlot a0, fnSlot a1, .emp, .emp, .emp, .emp, .emp, .emp, .emp, .emp] f) := rfl
/-- mean(life); slots: 0 life, 1 own, 2 k, 3 chance -/
noncomputable def S_mean : Sm := sSeq (sIf (cT (cBin oNe (cCall F_miss [cVar 0]) (cC d_NOUGHT))) (sRet (cC .none)) (sNext)) (sSeq (sSet 1 (cCall F_summed [cLc (iEnum (cBin oIx (cVar 0) (cC (.int 0)))) (.many [2, 3]) (cYes) (cCall F_times [cTup [cBin oAdd (cVar 2) (cC (.int 1)), cC (.int 1)], cVar 3]) [2, 3]])) (sRet (cCall F_plus [cVar 1, cCall F_behind_row [cVar 0, cC (.int 1)]])))
noncomputable def F_mean : Dn.Fn := dBody 4 S_mean
theorem u_mean {a0 : RV} {f : Feed} : F_mean [a0] f = dEnd (S_mean [fnSlot a0, .emp, .emp, .emp] f) := rfl
/-- is_whole(thing); slots: 0 thing -/
noncomputable def S_is_whole : Sm := sRet (cAnd (cUn (oIsi "int") (cVar 0)) (cUn cNot (cUn (oIsi "bool") (cVar 0))))
noncomputable def F_is_whole : Dn.Fn := dBody 1 S_is_whole
theorem u_is_whole {a0 : RV} {f : Feed} : F_is_whole [a0] f = dEnd (S_is_whole [fnSlot a0] f) := rfl
/-- is_ratio(thing); slots: 0 thing -/
noncomputable def S_is_ratio : Sm := sSeq (sIf (tOrX (tNotX (cT (cUn (oIsi "tuple") (cVar 0)))) (tOrX (cT (cBin oNe (cUn oLen (cVar 0)) (cC (.int 2)))) (tOrX (tNotX (cT (cCall F_is_whole [cBin oIx (cVar 0) (cC (.int 0))]))) (tNotX (cT (cCall F_is_whole [cBin oIx (cVar 0) (cC (.int 1))])))))) (sRet (cC (.bool false))) (sNext)) (sRet (cAnd (cBin oGe (cBin oIx (cVar 0) (cC (.int 1))) (cC (.int 1))) (cBin oEq (cCall F_common [cUn oAbs (cBin oIx (cVar 0) (cC (.int 0))), cBin oIx (cVar 0) (cC (.int 1))]) (cC (.int 1)))))
noncomputable def F_is_ratio : Dn.Fn := dBody 1 S_is_ratio
theorem u_is_ratio {a0 : RV} {f : Feed} : F_is_ratio [a0] f = dEnd (S_is_ratio [fnSlot a0] f) := rfl
/-- chain(kinds); slots: 0 kinds, 1 rows, 2 triples, 3 row, 4 stretch, 5 following, 6 chance, 7 triple -/
noncomputable def S_chain : Sm := sSeq (sSet 1 (cLst [])) (sSeq (sFor (iSeq (cVar 0)) (.one 2) (sSeq (sSet 3 (cLc (iSeq (cVar 0)) (.one 7) (cYes) (cC d_NOUGHT) [7])) (sSeq (sFor (iSeq (cVar 2)) (.many [4, 5, 6]) (sPut 3 (cVar 5) (cCall F_plus [cBin oIx (cVar 3) (cVar 5), cVar 6]))) (sSeq (sFrz 3) (sApp 1 (cUn oTuple (cVar 3))))))) (sSeq (sFrz 1) (sRet (cUn oTuple (cVar 1)))))
noncomputable def F_chain : Dn.Fn := dBody 8 S_chain
theorem u_chain {a0 : RV} {f : Feed} : F_chain [a0] f = dEnd (S_chain [fnSlot a0, .emp, .emp, .emp, .emp, .emp, .emp, .emp] f) := rfl
/-- kind_life(kinds, kind); slots: 0 kinds, 1 kind, 2 row, 3 stretch, 4 following, 5 chance, 6 k -/
noncomputable def S_kind_life : Sm := sSeq (sSet 2 (cLc (iRange1 (cC d_LONGEST)) (.one 6) (cYes) (cC d_NOUGHT) [6])) (sSeq (sFor (iSeq (cBin oIx (cVar 0) (cVar 1))) (.many [3, 4, 5]) (sPut 2 (cBin oSub (cVar 3) (cC (.int 1))) (cCall F_plus [cBin oIx (cVar 2) (cBin oSub (cVar 3) (cC (.int 1))), cVar 5]))) (sSeq (sFrz 2) (sRet (cCall F_short [cTup [cUn oTuple (cVar 2), cC d_NOUGHT]]))))
noncomputable def F_kind_life : Dn.Fn := dBody 7 S_kind_life
theorem u_kind_life {a0 a1 : RV} {f : Feed} : F_kind_life [a0, a1] f = dEnd (S_kind_life [fnSlot a0, fnSlot a1, .emp, .emp, .emp, .emp, .emp] f) := rfl
/-- _law_draw(_law_feed_here, _law_size); slots: 0 _law_feed_here, 1 _law_size, 2 _law_turn, 3 _law_digit, 4 _law_at, 5 _law_cell, 6 _law_mixed -/
noncomputable def S_q_draw_v3 : Sm := sSeq (sSet 2 (cBin oAdd (cFeed "turn" (cVar 0)) (cC (.int 1)))) (sSeq (sFeed "turn" (cVar 0) (cVar 2)) (sSeq (sIf (cT (cBin oGt (cFeed "left" (cVar 0)) (cC (.int 0)))) (sSeq (sSet 3 (cBin oMod (cFeed "left" (cVar 0)) (cVar 1))) (sSeq (sFeed "left" (cVar 0) (cBin oDiv (cFeed "left" (cVar 0)) (cVar 1))) (sRet (cVar 3)))) (sNext)) (sSeq (sSet 4 (cFeed "at" (cVar 0))) (sSeq (sFeed "at" (cVar 0) (cBin oAdd (cVar 4) (cC (.int 1)))) (sSeq (sSet 5 (cIf (cT (cBin oNe (cFeed "cells" (cVar 0)) (cLst []))) (cBin oIx (cFeed "cells" (cVar 0)) (cBin oMod (cVar 4) (cUn oLen (cFeed "cells" (cVar 0))))) (cC (.int 5)))) (sSeq (sIf (tAndX (cT (cBin oGe (cVar 5) (cBin oPow (cC (.int 10)) (cC (.int 18))))) (cT (cBin oLt (cVar 4) (cUn oLen (cFeed "cells" (cVar 0)))))) (sSeq (sFeed "left" (cVar 0) (cBin oDiv (cVar 5) (cVar 1))) (sRet (cBin oMod (cVar 5) (cVar 1)))) (sNext)) (sSeq (sSet 6 (cBin oMod (cBin oPow (cBin oAdd (cBin oAdd (cBin oMod (cVar 5) (cC (.int 999983))) (cBin oMul (cC (.int 40009)) (cVar 2))) (cC (.int 11))) (cC (.int 5))) (cC (.int 2147483647)))) (sSeq (sSet 6 (cBin oMod (cBin oPow (cBin oAdd (cVar 6) (cBin oMul (cC (.int 99991)) (cVar 2))) (cC (.int 5))) (cC (.int 2147483587)))) (sRet (cBin oMod (cBin oDiv (cVar 6) (cC (.int 16))) (cVar 1)))))))))))
noncomputable def F_q_draw_v3 : Dn.Fn := dBody 7 S_q_draw_v3
theorem u_q_draw_v3 {a0 a1 : RV} {f : Feed} : F_q_draw_v3 [a0, a1] f = dEnd (S_q_draw_v3 [fnSlot a0, fnSlot a1, .emp, .emp, .emp, .emp, .emp] f) := rfl
/-- _law_lowest(_law_top, _law_bottom); slots: 0 _law_top, 1 _law_bottom, 2 _law_one, 3 _law_other -/
noncomputable def S_q_lowest : Sm := sSeq (sPar 2 3 (cUn oAbs (cVar 0)) (cVar 1)) (sSeq (sWhile (cT (cBin oGt (cVar 3) (cC (.int 0)))) (sPar 2 3 (cVar 3) (cBin oMod (cVar 2) (cVar 3)))) (sRet (cTup [cBin oDiv (cVar 0) (cVar 2), cBin oDiv (cVar 1) (cVar 2)])))
noncomputable def F_q_lowest : Dn.Fn := dBody 4 S_q_lowest
theorem u_q_lowest {a0 a1 : RV} {f : Feed} : F_q_lowest [a0, a1] f = dEnd (S_q_lowest [fnSlot a0, fnSlot a1, .emp, .emp] f) := rfl
/-- _law_add(_law_one, _law_other); slots: 0 _law_one, 1 _law_other -/
noncomputable def S_q_add : Sm := sRet (cCall F_q_lowest [cBin oAdd (cBin oMul (cBin oIx (cVar 0) (cC (.int 0))) (cBin oIx (cVar 1) (cC (.int 1)))) (cBin oMul (cBin oIx (cVar 1) (cC (.int 0))) (cBin oIx (cVar 0) (cC (.int 1)))), cBin oMul (cBin oIx (cVar 0) (cC (.int 1))) (cBin oIx (cVar 1) (cC (.int 1)))])
noncomputable def F_q_add : Dn.Fn := dBody 2 S_q_add
theorem u_q_add {a0 a1 : RV} {f : Feed} : F_q_add [a0, a1] f = dEnd (S_q_add [fnSlot a0, fnSlot a1] f) := rfl
/-- _law_all(_law_numbers); slots: 0 _law_numbers, 1 _law_found, 2 _law_number -/
noncomputable def S_q_all : Sm := sSeq (sSet 1 (cTup [cC (.int 0), cC (.int 1)])) (sSeq (sFor (iSeq (cVar 0)) (.one 2) (sSet 1 (cCall F_q_add [cVar 1, cVar 2]))) (sRet (cVar 1)))
noncomputable def F_q_all : Dn.Fn := dBody 3 S_q_all
theorem u_q_all {a0 : RV} {f : Feed} : F_q_all [a0] f = dEnd (S_q_all [fnSlot a0, .emp, .emp] f) := rfl
/-- _law_rows(_law_kinds_here); slots: 0 _law_kinds_here, 1 _law_rows_here, 2 _law_triples, 3 _law_k, 4 _law_one -/
noncomputable def S_q_rows_v2 : Sm := sSeq (sSet 1 (cLst [])) (sSeq (sFor (iSeq (cVar 0)) (.one 2) (sApp 1 (cUn oTuple (cLc (iRange1 (cUn oLen (cVar 0))) (.one 3) (cYes) (cCall F_q_all [cLc (iSeq (cVar 2)) (.one 4) (cT (cBin oEq (cBin oIx (cVar 4) (cC (.int 1))) (cVar 3))) (cBin oIx (cVar 4) (cC (.int 2))) [4]]) [3])))) (sSeq (sFrz 1) (sRet (cUn oTuple (cVar 1)))))
noncomputable def F_q_rows_v2 : Dn.Fn := dBody 5 S_q_rows_v2
theorem u_q_rows_v2 {a0 : RV} {f : Feed} : F_q_rows_v2 [a0] f = dEnd (S_q_rows_v2 [fnSlot a0, .emp, .emp, .emp, .emp] f) := rfl
/-- is_place(thing, size); slots: 0 thing, 1 size -/
noncomputable def S_is_place : Sm := sRet (cAnd (cCall F_is_whole [cVar 0]) (cChain oLe oLt (cC (.int 0)) (cVar 0) (cVar 1)))
noncomputable def F_is_place : Dn.Fn := dBody 2 S_is_place
theorem u_is_place {a0 a1 : RV} {f : Feed} : F_is_place [a0, a1] f = dEnd (S_is_place [fnSlot a0, fnSlot a1] f) := rfl
/-- _law_by(_law_one, _law_other); slots: 0 _law_one, 1 _law_other -/
noncomputable def S_q_by : Sm := sRet (cCall F_q_lowest [cBin oMul (cBin oIx (cVar 0) (cC (.int 0))) (cBin oIx (cVar 1) (cC (.int 0))), cBin oMul (cBin oIx (cVar 0) (cC (.int 1))) (cBin oIx (cVar 1) (cC (.int 1)))])
noncomputable def F_q_by : Dn.Fn := dBody 2 S_q_by
theorem u_q_by {a0 a1 : RV} {f : Feed} : F_q_by [a0, a1] f = dEnd (S_q_by [fnSlot a0, fnSlot a1] f) := rfl
/-- reached(rows, kind); slots: 0 rows, 1 kind, 2 found, 3 at, 4 following, 5 chance -/
noncomputable def S_reached : Sm := sSeq (sSet 2 (cLst [cVar 1])) (sSeq (sSet 3 (cC (.int 0))) (sSeq (sWhile (cT (cBin oLt (cVar 3) (cUn oLen (cVar 2)))) (sSeq (sFor (iEnum (cBin oIx (cVar 0) (cBin oIx (cVar 2) (cVar 3)))) (.many [4, 5]) (sIf (tAndX (cT (cBin oNe (cVar 5) (cC d_NOUGHT))) (cT (cBin (oInF true) (cVar 4) (cVar 2)))) (sApp 2 (cVar 4)) (sNext))) (sSet 3 (cBin oAdd (cVar 3) (cC (.int 1)))))) (sRet (cVar 2))))
noncomputable def F_reached : Dn.Fn := dBody 6 S_reached
theorem u_reached {a0 a1 : RV} {f : Feed} : F_reached [a0, a1] f = dEnd (S_reached [fnSlot a0, fnSlot a1, .emp, .emp, .emp, .emp] f) := rfl
/-- whole_of(numbers); slots: 0 numbers, 1 total, 2 number -/
noncomputable def S_whole_of : Sm := sSeq (sSet 1 (cC d_NOUGHT)) (sSeq (sFor (iSeq (cVar 0)) (.one 2) (sSet 1 (cCall F_plus [cVar 1, cVar 2]))) (sRet (cVar 1)))
noncomputable def F_whole_of : Dn.Fn := dBody 3 S_whole_of
theorem u_whole_of {a0 : RV} {f : Feed} : F_whole_of [a0] f = dEnd (S_whole_of [fnSlot a0, .emp, .emp] f) := rfl
/-- by_whole(numbers); slots: 0 numbers, 1 total, 2 number -/
noncomputable def S_by_whole : Sm := sSeq (sSet 1 (cCall F_whole_of [cVar 0])) (sRet (cUn oTuple (cLc (iSeq (cVar 0)) (.one 2) (cYes) (cCall F_over [cVar 2, cVar 1]) [2])))
noncomputable def F_by_whole : Dn.Fn := dBody 3 S_by_whole
theorem u_by_whole {a0 : RV} {f : Feed} : F_by_whole [a0] f = dEnd (S_by_whole [fnSlot a0, .emp, .emp] f) := rfl
/-- ways_home(rows, home); slots: 0 rows, 1 home, 2 led, 3 found, 4 at, 5 kind -/
noncomputable def S_ways_home : Sm := sSeq (sSet 2 (cLst [cVar 1])) (sSeq (sSet 3 (cLst [])) (sSeq (sSet 4 (cC (.int 0))) (sSeq (sWhile (cT (cBin oLt (cVar 4) (cUn oLen (cVar 2)))) (sSeq (sFor (iRange1 (cUn oLen (cVar 0))) (.one 5) (sIf (tAndX (cT (cBin (oInF true) (cVar 5) (cVar 2))) (cT (cBin oNe (cBin oIx (cBin oIx (cVar 0) (cVar 5)) (cBin oIx (cVar 2) (cVar 4))) (cC d_NOUGHT)))) (sSeq (sApp 3 (cTup [cVar 5, cBin oIx (cVar 2) (cVar 4)])) (sApp 2 (cVar 5))) (sNext))) (sSet 4 (cBin oAdd (cVar 4) (cC (.int 1)))))) (sSeq (sFrz 3) (sRet (cUn oTuple (cVar 3)))))))
noncomputable def F_ways_home : Dn.Fn := dBody 6 S_ways_home
theorem u_ways_home {a0 a1 : RV} {f : Feed} : F_ways_home [a0, a1] f = dEnd (S_ways_home [fnSlot a0, fnSlot a1, .emp, .emp, .emp, .emp] f) := rfl
/-- _law_mean(_law_triples); slots: 0 _law_triples, 1 _law_stretch, 2 _law_following_here, 3 _law_own -/
noncomputable def S_q_mean : Sm := sRet (cCall F_q_all [cLc (iSeq (cVar 0)) (.many [1, 2, 3]) (cYes) (cCall F_q_by [cTup [cVar 1, cC (.int 1)], cVar 3]) [1, 2, 3]])
noncomputable def F_q_mean : Dn.Fn := dBody 4 S_q_mean
theorem u_q_mean {a0 : RV} {f : Feed} : F_q_mean [a0] f = dEnd (S_q_mean [fnSlot a0, .emp, .emp, .emp] f) := rfl
/-- _law_following(_law_feed_here, _law_way, _law_k, _law_size); slots: 0 _law_feed_here, 1 _law_way, 2 _law_k, 3 _law_size -/
noncomputable def S_q_following : Sm := sSeq (sIf (cT (cBin oEq (cVar 1) (cC (.int 1)))) (sRet (cBin oMod (cBin oAdd (cVar 2) (cC (.int 1))) (cVar 3))) (sNext)) (sSeq (sIf (cT (cBin oEq (cVar 1) (cC (.int 2)))) (sRet (cVar 2)) (sNext)) (sSeq (sIf (cT (cBin oEq (cVar 1) (cC (.int 3)))) (sRet (cBin oMin (cBin oSub (cVar 3) (cC (.int 1))) (cBin oAdd (cBin oMul (cBin oDiv (cVar 2) (cC (.int 2))) (cC (.int 2))) (cCall F_q_draw_v3 [cVar 0, cC (.int 2)])))) (sNext)) (sRet (cIf (cT (cBin oEq (cVar 1) (cC (.int 4)))) (cCall F_q_draw_v3 [cVar 0, cBin oAdd (cVar 2) (cC (.int 1))]) (cCall F_q_draw_v3 [cVar 0, cVar 3])))))
noncomputable def F_q_following : Dn.Fn := dBody 4 S_q_following
theorem u_q_following {a0 a1 a2 a3 : RV} {f : Feed} : F_q_following [a0, a1, a2, a3] f = dEnd (S_q_following [fnSlot a0, fnSlot a1, fnSlot a2, fnSlot a3] f) := rfl
/-- _law_kinds(_law_feed_here, _law_size, _law_is_full); slots: 0 _law_feed_here, 1 _law_size, 2 _law_is_full, 3 _law_way, 4 _law_kinds_here, 5 _law_k, 6 _law_marks, 7 _law_lack, 8 _law_turn, 9 _law_pair, 10 _law_total -/
noncomputable def S_q_kinds : Sm := sSeq (sSet 3 (cCall F_q_draw_v3 [cVar 0, cC (.int 7)])) (sSeq (sSet 4 (cLst [])) (sSeq (sFor (iRange1 (cVar 1)) (.one 5) (sSeq (sDct true 6) (sSeq (sSet 7 (cBin oMul (cBin oIx (cLst [cC (.int 0), cC (.int 0), cC (.int 1), cC (.int 5), cC (.int 9)]) (cCall F_q_draw_v3 [cVar 0, cC (.int 5)])) (cUn oInt (cUn cNot (cVar 2))))) (sSeq (sFor (iRange1 (cBin oAdd (cC (.int 1)) (cCall F_q_draw_v3 [cVar 0, cC (.int 4)]))) (.one 8) (sSeq (sKey 9 (kTup [cBin oAdd (cC (.int 1)) (cCall F_q_draw_v3 [cVar 0, cC (.int 6)]), cCall F_q_following [cVar 0, cVar 3, cVar 5, cVar 1]])) (sDputT 6 (kVar 9) (cBin oAdd (cC (.int 1)) (cCall F_q_draw_v3 [cVar 0, cC (.int 9)]))))) (sSeq (sIf (tAndX (cT (cBin oEq (cVar 7) (cC (.int 9)))) (cT (cBin oEq (cCall F_q_draw_v3 [cVar 0, cC (.int 3)]) (cC (.int 0))))) (sDct true 6) (sNext)) (sSeq (sSet 10 (cBin oAdd (cUn oSum (cDVals 6)) (cVar 7))) (sApp 4 (cUn oTuple (cLc (iSeq (cDSort 6)) (.one 9) (cYes) (cTup [cBin oIx (cVar 9) (cC (.int 0)), cBin oIx (cVar 9) (cC (.int 1)), cCall F_q_lowest [cDGet 6 (cVar 9), cVar 10]]) [9]))))))))) (sSeq (sFrz 4) (sRet (cUn oTuple (cVar 4))))))
noncomputable def F_q_kinds : Dn.Fn := dBody 11 S_q_kinds
theorem u_q_kinds {a0 a1 a2 : RV} {f : Feed} : F_q_kinds [a0, a1, a2] f = dEnd (S_q_kinds [fnSlot a0, fnSlot a1, fnSlot a2, .emp, .emp, .emp, .emp, .emp, .emp, .emp, .emp] f) := rfl
/-- _law_trees(_law_rows_here, _law_home); slots: 0 _law_rows_here, 1 _law_home, 2 _law_size, 3 _law_others, 4 _law_total, 5 _law_number, 6 _law_sent, 7 _law_left, 8 _law_chance, 9 _law_kind, 10 _law_here, 11 _law_turn -/
noncomputable def S_q_trees : Sm := sSeq (sSet 2 (cUn oLen (cVar 0))) (sSeq (sSet 3 (cLc (iRange1 (cVar 2)) (.one 9) (cT (cBin oNe (cVar 9) (cVar 1))) (cVar 9) [9])) (sSeq (sFrz 3) (sSeq (sSet 4 (cTup [cC (.int 0), cC (.int 1)])) (sSeq (sFor (iRange1 (cBin oIx (cLst [cC (.int 1), cC (.int 1), cC (.int 2), cC (.int 9), cC (.int 64)]) (cVar 2))) (.one 5) (sSeq (sDct false 6) (sSeq (sSet 7 (cVar 5)) (sSeq (sSet 8 (cTup [cC (.int 1), cC (.int 1)])) (sSeq (sFor (iSeq (cVar 3)) (.one 9) (sSeq (sDputI 6 (cVar 9) (cBin oMod (cVar 7) (cVar 2))) (sSeq (sSet 7 (cBin oDiv (cVar 7) (cVar 2))) (sSet 8 (cCall F_q_by [cVar 8, cBin oIx (cBin oIx (cVar 0) (cVar 9)) (cDGet 6 (cVar 9))]))))) (sSeq (sFor (iSeq (cBin oMul (cVar 3) (cUn oInt (cBin oGt (cBin oIx (cVar 8) (cC (.int 0))) (cC (.int 0)))))) (.one 9) (sSeq (sSet 10 (cVar 9)) (sSeq (sFor (iRange1 (cVar 2)) (.one 11) (sSet 10 (cDGet2 6 (cVar 10) (cVar 1)))) (sIf (cT (cBin oNe (cVar 10) (cVar 1))) (sSet 8 (cTup [cC (.int 0), cC (.int 1)])) (sNext))))) (sSet 4 (cCall F_q_add [cVar 4, cVar 8])))))))) (sRet (cVar 4))))))
noncomputable def F_q_trees : Dn.Fn := dBody 12 S_q_trees
theorem u_q_trees {a0 a1 : RV} {f : Feed} : F_q_trees [a0, a1] f = dEnd (S_q_trees [fnSlot a0, fnSlot a1, .emp, .emp, .emp, .emp, .emp, .emp, .emp, .emp, .emp, .emp] f) := rfl
/-- _law_weights(_law_rows_here); slots: 0 _law_rows_here, 1 _law_trees_here, 2 _law_top, 3 _law_bottom, 4 _law_kind, 5 _law_one -/
noncomputable def S_q_weights_v2 : Sm := sSeq (sSet 1 (cLc (iRange1 (cUn oLen (cVar 0))) (.one 4) (cYes) (cCall F_q_trees [cVar 0, cVar 4]) [4])) (sSeq (sFrz 1) (sSeq (sAsg (.many [2, 3]) (cCall F_q_all [cVar 1])) (sSeq (sIf (cT (cBin oEq (cVar 2) (cC (.int 0)))) (sRet (cC .none)) (sNext)) (sRet (cUn oTuple (cLc (iSeq (cVar 1)) (.one 5) (cYes) (cCall F_q_lowest [cBin oMul (cBin oIx (cVar 5) (cC (.int 0))) (cVar 3), cBin oMul (cBin oIx (cVar 5) (cC (.int 1))) (cVar 2)]) [5]))))))
noncomputable def F_q_weights_v2 : Dn.Fn := dBody 6 S_q_weights_v2
theorem u_q_weights_v2 {a0 : RV} {f : Feed} : F_q_weights_v2 [a0] f = dEnd (S_q_weights_v2 [fnSlot a0, .emp, .emp, .emp, .emp, .emp] f) := rfl
/-- is_named(thing, word, length); slots: 0 thing, 1 word, 2 length -/
noncomputable def S_is_named : Sm := sRet (cAnd (cUn (oIsi "tuple") (cVar 0)) (cAnd (cBin oEq (cUn oLen (cVar 0)) (cVar 2)) (cAnd (cUn (oIsi "str") (cBin oIx (cVar 0) (cC (.int 0)))) (cBin oEq (cBin oIx (cVar 0) (cC (.int 0))) (cVar 1)))))
noncomputable def F_is_named : Dn.Fn := dBody 3 S_is_named
theorem u_is_named {a0 a1 a2 : RV} {f : Feed} : F_is_named [a0, a1, a2] f = dEnd (S_is_named [fnSlot a0, fnSlot a1, fnSlot a2] f) := rfl
/-- is_pair_of_kinds(thing, size); slots: 0 thing, 1 size, 2 one -/
noncomputable def S_is_pair_of_kinds : Sm := sRet (cAnd (cUn (oIsi "tuple") (cVar 0)) (cAnd (cBin oEq (cUn oLen (cVar 0)) (cC (.int 2))) (cUn oAll (cLc (iSeq (cVar 0)) (.one 2) (cYes) (cCall F_is_place [cVar 2, cVar 1]) [2]))))
noncomputable def F_is_pair_of_kinds : Dn.Fn := dBody 3 S_is_pair_of_kinds
theorem u_is_pair_of_kinds {a0 a1 : RV} {f : Feed} : F_is_pair_of_kinds [a0, a1] f = dEnd (S_is_pair_of_kinds [fnSlot a0, fnSlot a1, .emp] f) := rfl
/-- is_share_shape(thing, size); slots: 0 thing, 1 size, 2 weights, 3 ways, 4 one -/
noncomputable def S_is_share_shape : Sm := sSeq (sIf (tOrX (tNotX (cT (cCall F_is_named [cVar 0, cC (.str "share"), cC (.int 4)]))) (tNotX (cT (cCall F_is_place [cBin oIx (cVar 0) (cC (.int 1)), cVar 1])))) (sRet (cC (.bool false))) (sNext)) (sSeq (sAsg (.many [2, 3]) (cSl (cVar 0) (some (cC (.int 2))) none)) (sSeq (sIf (tOrX (tNotX (cT (cUn (oIsi "tuple") (cVar 2)))) (tOrX (cT (cBin oNe (cUn oLen (cVar 2)) (cVar 1))) (tNotX (cT (cUn oAll (cLc (iSeq (cVar 2)) (.one 4) (cYes) (cCall F_is_ratio [cVar 4]) [4])))))) (sRet (cC (.bool false))) (sNext)) (sSeq (sIf (tOrX (tNotX (cT (cUn (oIsi "tuple") (cVar 3)))) (cT (cBin oGt (cUn oLen (cVar 3)) (cC d_MOST_WAYS_v2)))) (sRet (cC (.bool false))) (sNext)) (sRet (cUn oAll (cLc (iSeq (cVar 3)) (.one 4) (cYes) (cCall F_is_pair_of_kinds [cVar 4, cVar 1]) [4]))))))
noncomputable def F_is_share_shape : Dn.Fn := dBody 5 S_is_share_shape
theorem u_is_share_shape {a0 a1 : RV} {f : Feed} : F_is_share_shape [a0, a1] f = dEnd (S_is_share_shape [fnSlot a0, fnSlot a1, .emp, .emp, .emp] f) := rfl
/-- is_rising_kinds(thing, size); slots: 0 thing, 1 size, 2 k, 3 one -/
noncomputable def S_is_rising_kinds : Sm := sSeq (sIf (tOrX (tNotX (cT (cUn (oIsi "tuple") (cVar 0)))) (tOrX (cT (cBin oEq (cVar 0) (cTup []))) (tNotX (cT (cUn oAll (cLc (iSeq (cVar 0)) (.one 3) (cYes) (cCall F_is_place [cVar 3, cVar 1]) [3])))))) (sRet (cC (.bool false))) (sNext)) (sRet (cUn oAll (cLc (iRange1 (cBin oSub (cUn oLen (cVar 0)) (cC (.int 1)))) (.one 2) (cYes) (cBin oLt (cBin oIx (cVar 0) (cVar 2)) (cBin oIx (cVar 0) (cBin oAdd (cVar 2) (cC (.int 1))))) [2])))
noncomputable def F_is_rising_kinds : Dn.Fn := dBody 4 S_is_rising_kinds
theorem u_is_rising_kinds {a0 a1 : RV} {f : Feed} : F_is_rising_kinds [a0, a1] f = dEnd (S_is_rising_kinds [fnSlot a0, fnSlot a1, .emp, .emp] f) := rfl
/-- is_apart_shape(thing, size); slots: 0 thing, 1 size, 2 some -/
noncomputable def S_is_apart_shape : Sm := sRet (cAnd (cCall F_is_named [cVar 0, cC (.str "apart"), cC (.int 3)]) (cUn oAll (cLc (iSeq (cSl (cVar 0) (some (cC (.int 1))) none)) (.one 2) (cYes) (cCall F_is_rising_kinds [cVar 2, cVar 1]) [2])))
noncomputable def F_is_apart_shape : Dn.Fn := dBody 3 S_is_apart_shape
theorem u_is_apart_shape {a0 a1 : RV} {f : Feed} : F_is_apart_shape [a0, a1] f = dEnd (S_is_apart_shape [fnSlot a0, fnSlot a1, .emp] f) := rfl
/-- look_at_weights(rows, weights); slots: 0 rows, 1 weights, 2 total, 3 weight, 4 kind, 5 other, 6 row -/
noncomputable def S_look_at_weights_X : Sm := sSeq (sSet 2 (cC d_NOUGHT)) (sSeq (sFor (iSeq (cVar 1)) (.one 3) (sSet 2 (cCall F_plus [cVar 2, cVar 3]))) (sSeq (sIf (cT (cBin oNe (cVar 2) (cC d_ONE))) (sRaise "NoPaper" ["word", "place"] [cC (.str "whole"), cC (.int 0)]) (sNext)) (sFor (iEnum (cVar 1)) (.many [4, 3]) (sSeq (sSet 2 (cC d_NOUGHT)) (sSeq (sFor (iEnum (cVar 0)) (.many [5, 6]) (sSet 2 (cCall F_plus [cVar 2, cCall F_times [cBin oIx (cVar 1) (cVar 5), cBin oIx (cVar 6) (cVar 4)]]))) (sIf (cT (cBin oNe (cVar 2) (cVar 3))) (sRaise "NoPaper" ["word", "place"] [cC (.str "weight"), cVar 4]) (sNext)))))))
noncomputable def F_look_at_weights_X : Dn.Fn := dBodyX 7 S_look_at_weights_X
theorem u_look_at_weights_X {a0 a1 : RV} {f : Feed} : F_look_at_weights_X [a0, a1] f = dEndX (S_look_at_weights_X [fnSlot a0, fnSlot a1, .emp, .emp, .emp, .emp, .emp] f) := rfl
/-- is_led_to(rows, kind, following); slots: 0 rows, 1 kind, 2 following -/
noncomputable def S_is_led_to : Sm := sRet (cBin oNe (cBin oIx (cBin oIx (cVar 0) (cVar 1)) (cVar 2)) (cC d_NOUGHT))
noncomputable def F_is_led_to : Dn.Fn := dBody 3 S_is_led_to
theorem u_is_led_to {a0 a1 a2 : RV} {f : Feed} : F_is_led_to [a0, a1, a2] f = dEnd (S_is_led_to [fnSlot a0, fnSlot a1, fnSlot a2] f) := rfl
/-- look_at_ways(rows, home, ways); slots: 0 rows, 1 home, 2 ways, 3 led, 4 place, 5 pair, 6 kind, 7 following -/
noncomputable def S_look_at_ways_X : Sm := sSeq (sSet 3 (cLst [cVar 1])) (sSeq (sFor (iEnum (cVar 2)) (.many [4, 5]) (sSeq (sAsg (.many [6, 7]) (cVar 5)) (sSeq (sIf (tOrX (cT (cBin (oInF false) (cVar 6) (cVar 3))) (tOrX (tNotX (cT (cCall F_is_led_to [cVar 0, cVar 6, cVar 7]))) (cT (cBin (oInF true) (cVar 7) (cVar 3))))) (sRaise "NoPaper" ["word", "place"] [cC (.str "way"), cVar 4]) (sNext)) (sApp 3 (cVar 6))))) (sSeq (sFrz 3) (sFor (iRange1 (cUn oLen (cVar 0))) (.one 6) (sIf (cT (cBin (oInF true) (cVar 6) (cVar 3))) (sRaise "NoPaper" ["word", "place"] [cC (.str "lacks"), cVar 6]) (sNext)))))
noncomputable def F_look_at_ways_X : Dn.Fn := dBodyX 8 S_look_at_ways_X
theorem u_look_at_ways_X {a0 a1 a2 : RV} {f : Feed} : F_look_at_ways_X [a0, a1, a2] f = dEndX (S_look_at_ways_X [fnSlot a0, fnSlot a1, fnSlot a2, .emp, .emp, .emp, .emp, .emp] f) := rfl
/-- look_at_apart(rows, one, other); slots: 0 rows, 1 one, 2 other, 3 kind, 4 some, 5 following -/
noncomputable def S_look_at_apart_X : Sm := sSeq (sFor (iSeq (cVar 1)) (.one 3) (sIf (cT (cBin (oInF false) (cVar 3) (cVar 2))) (sRaise "NoPaper" ["word", "place"] [cC (.str "both"), cVar 3]) (sNext))) (sFor (iSeq (cTup [cVar 1, cVar 2])) (.one 4) (sFor (iSeq (cVar 4)) (.one 3) (sIf (tNotX (cT (cUn oAll (cLc (iRange1 (cUn oLen (cVar 0))) (.one 5) (cT (cCall F_is_led_to [cVar 0, cVar 3, cVar 5])) (cBin (oInF false) (cVar 5) (cVar 4)) [5])))) (sRaise "NoPaper" ["word", "place"] [cC (.str "out"), cVar 3]) (sNext))))
noncomputable def F_look_at_apart_X : Dn.Fn := dBodyX 6 S_look_at_apart_X
theorem u_look_at_apart_X {a0 a1 a2 : RV} {f : Feed} : F_look_at_apart_X [a0, a1, a2] f = dEndX (S_look_at_apart_X [fnSlot a0, fnSlot a1, fnSlot a2, .emp, .emp, .emp] f) := rfl
/-- lets_share(kinds, thing); slots: 0 kinds, 1 thing, 2 rows -/
noncomputable def S_lets_share_X : Sm := sSeq (sSet 2 (cCall F_chain [cVar 0])) (sSeq (sIf (cT (cCall F_is_share_shape [cVar 1, cUn oLen (cVar 0)])) (sSeq (sDrop (cCall F_look_at_weights_X [cVar 2, cBin oIx (cVar 1) (cC (.int 2))])) (sSeq (sDrop (cCall F_look_at_ways_X [cVar 2, cBin oIx (cVar 1) (cC (.int 1)), cBin oIx (cVar 1) (cC (.int 3))])) (sRet (cC (.str "share"))))) (sNext)) (sSeq (sIf (cT (cCall F_is_apart_shape [cVar 1, cUn oLen (cVar 0)])) (sSeq (sDrop (cCall F_look_at_apart_X [cVar 2, cBin oIx (cVar 1) (cC (.int 1)), cBin oIx (cVar 1) (cC (.int 2))])) (sRet (cC (.str "apart")))) (sNext)) (sRaise "NoPaper" ["word", "place"] [cC (.str "shape"), cC (.int 0)])))
noncomputable def F_lets_share_X : Dn.Fn := dBodyX 3 S_lets_share_X
theorem u_lets_share_X {a0 a1 : RV} {f : Feed} : F_lets_share_X [a0, a1] f = dEndX (S_lets_share_X [fnSlot a0, fnSlot a1, .emp] f) := rfl
/-- _law_told(_law_kinds_here, _law_thing); slots: 0 _law_kinds_here, 1 _law_thing, 2 _law_found, 3 e, 4 _law_others -/
noncomputable def S_q_told_v4 : Sm := sSeq (sSet 2 (cC (.str "other"))) (sSeq (sTryS 2 3 (cLst [cCall F_lets_share_X [cVar 0, cVar 1]]) ["NoPaper"] (sSeq (sSet 4 (cUn (oIsEs ["NoAge", "NoBeat", "NoLines", "NoName", "NoRatio", "NoRow", "NoText", "TooMany"]) (cVar 3))) (sIf (tAndX (cT (cUn (oIsE "NoPaper") (cVar 3))) (tAndX (cT (cUn (oIsE "ValueError") (cVar 3))) (tNotX (cT (cVar 4))))) (sSet 2 (cTup [cUn (oFld "word") (cVar 3), cUn (oFld "place") (cVar 3)])) (sNext)))) (sRet (cVar 2)))
noncomputable def F_q_told_v4 : Dn.Fn := dBody 5 S_q_told_v4
theorem u_q_told_v4 {a0 a1 : RV} {f : Feed} : F_q_told_v4 [a0, a1] f = dEnd (S_q_told_v4 [fnSlot a0, fnSlot a1, .emp, .emp, .emp] f) := rfl
/-- _law_group_kinds(_law_feed_here); slots: 0 _law_feed_here, 1 _law_size, 2 _law_cut, 3 _law_end, 4 _law_kinds_here, 5 _law_k, 6 _law_low, 7 _law_high, 8 _law_marks, 9 _law_turn, 10 _law_total, 11 _law_pair -/
noncomputable def S_q_group_kinds : Sm := sSeq (sSet 1 (cBin oAdd (cC (.int 2)) (cCall F_q_draw_v3 [cVar 0, cC (.int 3)]))) (sSeq (sSet 2 (cBin oAdd (cC (.int 1)) (cCall F_q_draw_v3 [cVar 0, cBin oSub (cVar 1) (cC (.int 1))]))) (sSeq (sSet 3 (cBin oMin (cVar 1) (cBin oAdd (cBin oAdd (cVar 2) (cC (.int 1))) (cCall F_q_draw_v3 [cVar 0, cC (.int 3)])))) (sSeq (sSet 4 (cLst [])) (sSeq (sFor (iRange1 (cVar 1)) (.one 5) (sSeq (sAsg (.many [6, 7]) (cIf (cT (cBin oLt (cVar 5) (cVar 2))) (cTup [cC (.int 0), cVar 2]) (cTup [cVar 2, cVar 3]))) (sSeq (sIf (cT (cBin oGe (cVar 5) (cVar 3))) (sPar 6 7 (cC (.int 0)) (cVar 1)) (sNext)) (sSeq (sDct true 8) (sSeq (sFor (iRange1 (cBin oAdd (cC (.int 1)) (cCall F_q_draw_v3 [cVar 0, cC (.int 3)]))) (.one 9) (sDputT 8 (kTup [cBin oAdd (cC (.int 1)) (cCall F_q_draw_v3 [cVar 0, cC (.int 6)]), cBin oAdd (cVar 6) (cCall F_q_draw_v3 [cVar 0, cBin oSub (cVar 7) (cVar 6)])]) (cBin oAdd (cC (.int 1)) (cCall F_q_draw_v3 [cVar 0, cC (.int 9)])))) (sSeq (sSet 10 (cUn oSum (cDVals 8))) (sApp 4 (cUn oTuple (cLc (iSeq (cDSort 8)) (.one 11) (cYes) (cTup [cBin oIx (cVar 11) (cC (.int 0)), cBin oIx (cVar 11) (cC (.int 1)), cCall F_q_lowest [cDGet 8 (cVar 11), cVar 10]]) [11]))))))))) (sSeq (sFrz 4) (sRet (cUn oTuple (cVar 4))))))))
noncomputable def F_q_group_kinds : Dn.Fn := dBody 12 S_q_group_kinds
theorem u_q_group_kinds {a0 : RV} {f : Feed} : F_q_group_kinds [a0] f = dEnd (S_q_group_kinds [fnSlot a0, .emp, .emp, .emp, .emp, .emp, .emp, .emp, .emp, .emp, .emp, .emp] f) := rfl
/-- weights_of(rows, some); slots: 0 rows, 1 some, 2 board, 3 last, 4 back, 5 i, 6 j, 7 weights, 8 kind, 9 following -/
noncomputable def S_weights_of : Sm := sSeq (sBrd 2 (bLc (iSeq (cVar 1)) (.one 8) (cLc (iSeq (cVar 1)) (.one 9) (cYes) (cBin oIx (cBin oIx (cVar 0) (cVar 8)) (cVar 9)) [9]) [8])) (sSeq (sFor (iDown (cBin oSub (cUn oLen (cVar 1)) (cC (.int 1))) (cC (.int 0)) (cUn oNeg (cC (.int 1)))) (.one 3) (sSeq (sSet 4 (cCall F_whole_of [cSl (cRow 2 (cVar 3)) none (some (cVar 3))])) (sFor (iRange1 (cVar 3)) (.one 5) (sSeq (sBPut 2 (cVar 5) (cVar 3) (cCall F_over [cBin oIx (cRow 2 (cVar 5)) (cVar 3), cVar 4])) (sFor (iRange1 (cVar 3)) (.one 6) (sBPut 2 (cVar 5) (cVar 6) (cCall F_plus [cBin oIx (cRow 2 (cVar 5)) (cVar 6), cCall F_times [cBin oIx (cRow 2 (cVar 5)) (cVar 3), cBin oIx (cRow 2 (cVar 3)) (cVar 6)]]))))))) (sSeq (sSet 7 (cLst [cC d_ONE])) (sSeq (sFor (iRange2 (cC (.int 1)) (cUn oLen (cVar 1))) (.one 3) (sApp 7 (cCall F_whole_of [cLc (iRange1 (cVar 3)) (.one 5) (cYes) (cCall F_times [cBin oIx (cVar 7) (cVar 5), cBin oIx (cRow 2 (cVar 5)) (cVar 3)]) [5]]))) (sRet (cVar 7)))))
noncomputable def F_weights_of : Dn.Fn := dBody 10 S_weights_of
theorem u_weights_of {a0 a1 : RV} {f : Feed} : F_weights_of [a0, a1] f = dEnd (S_weights_of [fnSlot a0, fnSlot a1, .emp, .emp, .emp, .emp, .emp, .emp, .emp, .emp] f) := rfl
/-- share_told(kinds); slots: 0 kinds, 1 rows, 2 spread, 3 homes, 4 home, 5 weights, 6 kind, 7 weight, 8 one, 9 other, 10 row, 11 some -/
noncomputable def S_share_told : Sm := sSeq (sSet 1 (cCall F_chain [cVar 0])) (sSeq (sSet 2 (cLc (iRange1 (cUn oLen (cVar 1))) (.one 6) (cYes) (cCall F_reached [cVar 1, cVar 6]) [6])) (sSeq (sFrz 2) (sSeq (sSet 3 (cLc (iRange1 (cUn oLen (cVar 1))) (.one 6) (cT (cUn oAll (cLc (iSeq (cVar 2)) (.one 11) (cYes) (cBin (oInF false) (cVar 6) (cVar 11)) [11]))) (cVar 6) [6])) (sSeq (sFrz 3) (sSeq (sIf (cT (cBin oNe (cVar 3) (cLst []))) (sSeq (sSet 4 (cBin oIx (cVar 3) (cC (.int 0)))) (sSeq (sSet 5 (cLc (iSeq (cVar 1)) (.one 10) (cYes) (cC d_NOUGHT) [10])) (sSeq (sFor (iZip (cBin oIx (cVar 2) (cVar 4)) (cCall F_weights_of [cVar 1, cBin oIx (cVar 2) (cVar 4)])) (.many [6, 7]) (sPut 5 (cVar 6) (cVar 7))) (sSeq (sFrz 5) (sRet (cTup [cC (.str "share"), cVar 4, cCall F_by_whole [cVar 5], cCall F_ways_home [cVar 1, cVar 4]])))))) (sNext)) (sSeq (sFor (iRange1 (cUn oLen (cVar 1))) (.one 8) (sFor (iRange1 (cVar 8)) (.one 9) (sIf (cT (cUn oAll (cLc (iSeq (cBin oIx (cVar 2) (cVar 9))) (.one 6) (cYes) (cBin (oInF true) (cVar 6) (cBin oIx (cVar 2) (cVar 8))) [6]))) (sRet (cTup [cC (.str "apart"), cUn oTuple (cUn oSortI (cBin oIx (cVar 2) (cVar 9))), cUn oTuple (cUn oSortI (cBin oIx (cVar 2) (cVar 8)))])) (sNext)))) (sRet (cC .none))))))))
noncomputable def F_share_told : Dn.Fn := dBody 12 S_share_told
theorem u_share_told {a0 : RV} {f : Feed} : F_share_told [a0] f = dEnd (S_share_told [fnSlot a0, .emp, .emp, .emp, .emp, .emp, .emp, .emp, .emp, .emp, .emp, .emp] f) := rfl
/-- shares(kinds); slots: 0 kinds, 1 told, 2 kind, 3 weight -/
noncomputable def S_shares : Sm := sSeq (sSet 1 (cCall F_share_told [cVar 0])) (sSeq (sIf (cT (cBin oEq (cBin oIx (cVar 1) (cC (.int 0))) (cC (.str "apart")))) (sRet (cC .none)) (sNext)) (sRet (cCall F_by_whole [cLc (iEnum (cBin oIx (cVar 1) (cC (.int 2)))) (.many [2, 3]) (cYes) (cCall F_times [cVar 3, cCall F_mean [cCall F_kind_life [cVar 0, cVar 2]]]) [2, 3]])))
noncomputable def F_shares : Dn.Fn := dBody 4 S_shares
theorem u_shares {a0 : RV} {f : Feed} : F_shares [a0] f = dEnd (S_shares [fnSlot a0, .emp, .emp, .emp] f) := rfl
/-- ever_gain(kinds, prices); slots: 0 kinds, 1 prices, 2 told, 3 price, 4 part -/
noncomputable def S_ever_gain : Sm := sSeq (sSet 2 (cCall F_shares [cVar 0])) (sSeq (sIf (cT (cBin (oIsN false) (cVar 2) (cC .none))) (sRet (cC .none)) (sNext)) (sRet (cCall F_whole_of [cLc (iZip (cVar 1) (cVar 2)) (.many [3, 4]) (cYes) (cCall F_times [cVar 3, cVar 4]) [3, 4]])))
noncomputable def F_ever_gain : Dn.Fn := dBody 5 S_ever_gain
theorem u_ever_gain {a0 a1 : RV} {f : Feed} : F_ever_gain [a0, a1] f = dEnd (S_ever_gain [fnSlot a0, fnSlot a1, .emp, .emp, .emp] f) := rfl
end Fp
namespace Fp
open PySem PySem.Spec L2 Dn
/-- no dict, small texts, ints of at most 560 figures, depth and bulk bounded -/
structure Nice (b k : Nat) (d : PyData) : Prop where
  can : d.canLay0 = true
  sh : d.showable = true
  short : d.intsShort 600 = true
  dep : d.depth ≤ k
  bk : d.bulk ≤ b
structure NiceL (b k : Nat) (ds : List PyData) : Prop where
  can : PyData.canLayAll0 ds = true
  sh : PyData.showableAll ds = true
  short : PyData.intsShortAll 600 ds = true
  dep : PyData.depthAll ds ≤ k
  bk : PyData.bulkAll ds ≤ b
theorem Nice.up {b k c l : Nat} {d : PyData} (h : Nice b k d) (hb : b ≤ c) (hk : k ≤ l) : Nice c l d := ⟨h.can, h.sh, h.short, Nat.le_trans h.dep hk, Nat.le_trans h.bk hb⟩
theorem Nice.shaped {b k : Nat} {d : PyData} (h : Nice b k d) (hk : k ≤ 64) : SeqAt.shaped d = true := by
  unfold SeqAt.shaped
  rw [h.can, decide_eq_true (Nat.le_trans h.dep hk)]
  rfl
theorem Nice.shows {b k : Nat} {d : PyData} (h : Nice b k d) (hk : k ≤ 60) (hb : b ≤ 16000) : shows d = true := by
  have hd : d.hasDict = false := PyData.hasDict_of_canLay d h.can
  have hl := PyData.shown_le_bulk 600 (by decide) d (PyData.leavesShort_of_canLay0 600 d h.can h.short)
  have h3 : d.shown.length ≤ 10000000 := by
    have := h.bk
    have e : (600 + 2) * d.bulk ≤ 602 * 16000 := Nat.mul_le_mul_left _ (by omega)
    omega
  unfold Dn.shows
  rw [h.sh, hd, decide_eq_true (Nat.le_trans h.dep hk), decide_eq_true h3]
  rfl
theorem nice_int {i : Int} (h : i.natAbs < 10 ^ 560) : Nice 0 0 (.int i) := by
  refine ⟨rfl, ?_, ?_, Nat.le_refl 0, Nat.le_refl 0⟩
  · simp only [PyData.showable, decide_eq_true_eq]
    by_cases z : i.natAbs = 0
    · rw [z]
      decide
    · rw [Nat.log2_lt z]
      exact Nat.lt_of_lt_of_le h (by decide)
  · simp only [PyData.intsShort, decide_eq_true_eq]
    have e := int_text_length_le10 (k := 560) (by decide) h
    show (Str.ofString (toString i)).length ≤ 600
    rw [ofString_length]
    omega
theorem niceL_nil {k : Nat} : NiceL 0 k [] := ⟨rfl, rfl, rfl, Nat.zero_le _, Nat.le_refl 0⟩
theorem niceL_cons {b c k : Nat} {d : PyData} {ds : List PyData} (h : Nice b k d) (t : NiceL c k ds) : NiceL (b + 1 + c) k (d :: ds) := by
  refine ⟨?_, ?_, ?_, ?_, ?_⟩
  · simp only [PyData.canLayAll0, h.can, t.can, Bool.and_self]
  · simp only [PyData.showableAll, h.sh, t.sh, Bool.and_self]
  · simp only [PyData.intsShortAll, h.short, t.short, Bool.and_self]
  · simp only [PyData.depthAll]
    exact Nat.max_le.mpr ⟨h.dep, t.dep⟩
  · simp only [PyData.bulkAll]
    have := h.bk
    have := t.bk
    omega
theorem niceL_of {b k : Nat} : ∀ {ds : List PyData}, (∀ d ∈ ds, Nice b k d) → NiceL (ds.length * (b + 1)) k ds
  | [], _ => by
    rw [List.length_nil, Nat.zero_mul]
    exact niceL_nil
  | d :: ds, h => by
    have q := niceL_cons (h d List.mem_cons_self) (niceL_of fun e he => h e (List.mem_cons_of_mem _ he))
    have e : (d :: ds).length * (b + 1) = b + 1 + ds.length * (b + 1) := by
      rw [List.length_cons, Nat.add_mul, Nat.one_mul, Nat.add_comm]
    rw [e]
    exact q
theorem NiceL.up {b k c l : Nat} {ds : List PyData} (h : NiceL b k ds) (hb : b ≤ c) (hk : k ≤ l) : NiceL c l ds := ⟨h.can, h.sh, h.short, Nat.le_trans h.dep hk, Nat.le_trans h.bk hb⟩
theorem nice_tuple {b k : Nat} {ds : List PyData} (h : NiceL b k ds) : Nice b (k + 1) (.tuple ds) :=
  ⟨by simpa only [PyData.canLay0] using h.can, by simpa only [PyData.showable] using h.sh, by simpa only [PyData.intsShort] using h.short, by simpa only [PyData.depth] using Nat.succ_le_succ h.dep, by simpa only [PyData.bulk] using h.bk⟩
theorem nice_list {b k : Nat} {ds : List PyData} (h : NiceL b k ds) : Nice b (k + 1) (.list ds) :=
  ⟨by simpa only [PyData.canLay0] using h.can, by simpa only [PyData.showable] using h.sh, by simpa only [PyData.intsShort] using h.short, by simpa only [PyData.depth] using Nat.succ_le_succ h.dep, by simpa only [PyData.bulk] using h.bk⟩
theorem canLay_ints : ∀ ns : List Int, PyData.canLayAll0 (ns.map .int) = true
  | [] => rfl
  | n :: r => by
    simp only [List.map_cons, PyData.canLayAll0, PyData.canLay0, canLay_ints r, Bool.and_self]
theorem depth_ints : ∀ ns : List Int, PyData.depthAll (ns.map .int) = 0
  | [] => rfl
  | n :: r => by
    simp only [List.map_cons, PyData.depthAll, PyData.depth, depth_ints r, Nat.max_self]
@[simp] theorem shaped_int {i : Int} : SeqAt.shaped (.int i) = true := rfl
@[simp] theorem shaped_bool {i : Bool} : SeqAt.shaped (.bool i) = true := rfl
theorem shaped_tuple {ds : List PyData} (h : PyData.canLayAll0 ds = true) (h2 : PyData.depthAll ds ≤ 63) : SeqAt.shaped (.tuple ds) = true := by
  unfold SeqAt.shaped
  have e1 : PyData.canLay0 (.tuple ds) = true := by simpa only [PyData.canLay0] using h
  have e2 : PyData.depth (.tuple ds) = PyData.depthAll ds + 1 := by simp only [PyData.depth]
  rw [e1, e2]
  exact decide_eq_true (by omega)
theorem shaped_list {ds : List PyData} (h : PyData.canLayAll0 ds = true) (h2 : PyData.depthAll ds ≤ 63) : SeqAt.shaped (.list ds) = true := by
  unfold SeqAt.shaped
  have e1 : PyData.canLay0 (.list ds) = true := by simpa only [PyData.canLay0] using h
  have e2 : PyData.depth (.list ds) = PyData.depthAll ds + 1 := by simp only [PyData.depth]
  rw [e1, e2]
  exact decide_eq_true (by omega)
@[simp] theorem shaped_list_ints {ns : List Int} : SeqAt.shaped (.list (ns.map .int)) = true := shaped_list (canLay_ints ns) (by rw [depth_ints]; decide)
@[simp] theorem shaped_list_nil : SeqAt.shaped (.list []) = true := rfl
theorem eqv_ints : ∀ (ns ms : List Int), PyData.eqvAll (ns.map .int) (ms.map .int) = decide (ns = ms)
  | [], [] => rfl
  | [], m :: ms => by
    simp only [List.map_nil, List.map_cons, PyData.eqvAll]
    exact (decide_eq_false (fun h => by cases h)).symm
  | n :: ns, [] => by
    simp only [List.map_nil, List.map_cons, PyData.eqvAll]
    exact (decide_eq_false (fun h => by cases h)).symm
  | n :: ns, m :: ms => by
    simp only [List.map_cons, PyData.eqvAll, PyData.eqv, eqv_ints ns ms]
    by_cases h : n = m
    · by_cases h2 : ns = ms
      · simp [h, h2]
      · simp [h, h2]
    · simp [h]
theorem log2_small {i : Int} {k : Nat} (h : i.natAbs < 2 ^ k) (hk : 0 < k) : i.natAbs.log2 < k := by
  by_cases z : i.natAbs = 0
  · rw [z]
    exact hk
  · exact (Nat.log2_lt z).mpr h
theorem mulC_small {i j : Int} {k l : Nat} (h : i.natAbs < 2 ^ k) (h2 : j.natAbs < 2 ^ l) (hk : k + l < 1000000) (h0 : 0 < k := by decide) (h1 : 0 < l := by decide) : mulC i j = true := by
  have a := log2_small h h0
  have b := log2_small h2 h1
  exact decide_eq_true (by omega)
/-- what a draw tells -/
structure Fd (t : Int) (f : Feed) : Prop where
  t0 : 0 ≤ f.turn
  t1 : f.turn ≤ t
  s0 : 0 ≤ f.spot
  s1 : f.spot ≤ t
theorem Fd.up {t u : Int} {f : Feed} (h : Fd t f) (hu : t ≤ u) : Fd u f := ⟨h.t0, Int.le_trans h.t1 hu, h.s0, Int.le_trans h.s1 hu⟩
theorem fd_a {t l : Int} {f : Feed} {cs : List Int} (h : Fd t f) : Fd (t + 1) ⟨cs, f.spot, l, f.turn + 1⟩ := ⟨by have := h.t0; show 0 ≤ f.turn + 1; omega, by have := h.t1; show f.turn + 1 ≤ t + 1; omega, h.s0, by have := h.s1; show f.spot ≤ t + 1; omega⟩
theorem fd_b {t l : Int} {f : Feed} {cs : List Int} (h : Fd t f) : Fd (t + 1) ⟨cs, f.spot + 1, l, f.turn + 1⟩ := ⟨by have := h.t0; show 0 ≤ f.turn + 1; omega, by have := h.t1; show f.turn + 1 ≤ t + 1; omega, by have := h.s0; show 0 ≤ f.spot + 1; omega, by have := h.s1; show f.spot + 1 ≤ t + 1; omega⟩
def Drawn (t : Int) (s : Int) (rv : RV) (f2 : Feed) : Prop := ∃ i : Int, rv = .dat (.int i) ∧ 0 ≤ i ∧ i < s ∧ Fd (t + 1) f2
theorem cells_ne (f : Feed) : oNe (.list (f.cells.map .int)) (.list []) = some (.dat (.bool (!decide (f.cells = [])))) := by
  rw [oNe_of shaped_list_ints shaped_list_nil]
  have := eqv_ints f.cells []
  rw [List.map_nil] at this
  simp only [PyData.eqv, this]
@[simp] theorem ne_nil2 : oNe (.list []) (.list []) = some (.dat (.bool false)) := by
  rw [oNe_of rfl rfl]
  rfl
theorem at_mod {cs : List Int} {i : Int} (h : ¬ cs = []) : oMod (.int i) (.int cs.length) = some (.dat (.int (i % cs.length))) ∧ ∃ c, atI (cs.map PyData.int) (i % cs.length) = some (.int c) := by
  have hl : (0 : Int) < cs.length := by
    have := List.length_pos_iff.mpr h
    omega
  refine ⟨oMod_int hl, ?_⟩
  have h1 := Int.emod_nonneg i (show (cs.length : Int) ≠ 0 by omega)
  have h2 := Int.emod_lt_of_pos i hl
  obtain ⟨n, e⟩ := Int.eq_ofNat_of_zero_le h1
  rw [e] at h2 ⊢
  have hn : n < cs.length := by omega
  exact ⟨cs[n], by rw [Dn.atI_nat, List.getElem?_map, List.getElem?_eq_getElem hn]; rfl⟩
theorem drawn_mk {t : Int} {s i : Int} (hs : 0 < s) {g : Feed} (h : Fd (t + 1) g) : Drawn t s (.dat (.int (i % s))) g := ⟨_, rfl, Int.emod_nonneg _ (by omega), Int.emod_lt_of_pos _ hs, h⟩
theorem draw_v3_ok {s t : Int} {f : Feed} (hs : 0 < s) (h2 : s < 2 ^ 500) (hF : Fd t f) (ht : t < 2 ^ 40) : Ev (F_q_draw_v3 [.feed, .dat (.int s)] f) (Drawn t s) := by
  have t0 := hF.t0
  have t1 := hF.t1
  have t2 := hF.s0
  have t3 := hF.s1
  have hl : s.natAbs.log2 < 9000 := Nat.lt_trans (log2_small (k := 500) (by omega) (by decide)) (by decide)
  have m1 : oMul (.int 40009) (.int (f.turn + 1)) = some (.dat (.int (40009 * (f.turn + 1)))) := oMul_int (mulC_small (k := 16) (l := 41) (by decide) (by omega) (by decide))
  have m2 : oMul (.int 99991) (.int (f.turn + 1)) = some (.dat (.int (99991 * (f.turn + 1)))) := oMul_int (mulC_small (k := 17) (l := 41) (by decide) (by omega) (by decide))
  have p0 : oPow (.int 10) (.int 18) = some (.dat (.int (10 ^ 18))) := oPow_int (by decide) (by decide) (by decide)
  have p1 : ∀ c : Int, oPow (.int (c % 999983 + 40009 * (f.turn + 1) + 11)) (.int 5) = some (.dat (.int ((c % 999983 + 40009 * (f.turn + 1) + 11) ^ 5))) := fun c => oPow_int (by decide) (by decide) (by omega)
  have p2 : ∀ c : Int, oPow (.int (c % 2147483647 + 99991 * (f.turn + 1))) (.int 5) = some (.dat (.int ((c % 2147483647 + 99991 * (f.turn + 1)) ^ 5))) := fun c => oPow_int (by decide) (by decide) (by omega)
  have q1 : ∀ c : Int, oMod (.int c) (.int 999983) = some (.dat (.int (c % 999983))) := fun c => oMod_int (by decide)
  have q2 : ∀ c : Int, oMod (.int c) (.int 2147483647) = some (.dat (.int (c % 2147483647))) := fun c => oMod_int (by decide)
  have q3 : ∀ c : Int, oMod (.int c) (.int 2147483587) = some (.dat (.int (c % 2147483587))) := fun c => oMod_int (by decide)
  have q4 : ∀ c : Int, oDiv (.int c) (.int 16) = some (.dat (.int (c / 16))) := fun c => oDiv_int (by decide) (by decide)
  have p9 : oPow (.int (5 + 40009 * (f.turn + 1) + 11)) (.int 5) = some (.dat (.int ((5 + 40009 * (f.turn + 1) + 11) ^ 5))) := oPow_int (by decide) (by decide) (by omega)
  rw [u_q_draw_v3, ev_dEnd]
  unfold S_q_draw_v3
  simp only [e_seq, e_set, e_feedS, e_feed, e_Bin, e_V, e_C, e_if, e_T, e_ret, e_next]
  simp [oMod_int hs, oDiv_int hs hl, ev_ite]
  refine ⟨fun h => drawn_mk hs (by first | exact fd_a hF | exact fd_b hF), fun h => ?_⟩
  by_cases hc : f.cells = []
  · simp [cells_ne, p9, hc, ev_ite, oMod_int hs, oDiv_int hs hl, m1, m2, p0, p1, p2, q1, q2, q3, q4]
    repeat' (first | exact drawn_mk hs (by first | exact fd_a hF | exact fd_b hF) | apply And.intro | intro _)
  · obtain ⟨w1, c, w2⟩ := at_mod (i := f.spot) hc
    simp [cells_ne, p9, hc, ev_ite, oMod_int hs, oDiv_int hs hl, m1, m2, p0, p1, p2, q1, q2, q3, q4, w1, w2]
    repeat' (first | exact drawn_mk hs (by first | exact fd_a hF | exact fd_b hF) | apply And.intro | intro _)
end Fp
namespace Fp
open PySem PySem.Spec L2 Dn
abbrev rat (p : Int) (q : Nat) : PyData := .tuple [.int p, .int q]
/-- in lowest terms -/
def low (p : Int) (q : Nat) : PyData := rat (p / (Nat.gcd p.natAbs q : Nat)) (q / Nat.gcd p.natAbs q)
theorem common_ok {a b : Nat} {f : Feed} : F_common [.dat (.int a), .dat (.int b)] f = .ok (.dat (.int (Nat.gcd a b : Nat))) f := by
  apply ev_is
  rw [u_common, ev_dEnd]
  unfold S_common
  simp only [e_seq, ev_bind]
  refine ev_while (I := fun n ρ g => g = f ∧ ∃ x y : Nat, n = y ∧ ρ = [.dat (.int x), .dat (.int y)] ∧ Nat.gcd x y = Nat.gcd a b) (n := b) ?_ ⟨rfl, a, b, rfl, rfl, rfl⟩
  rintro n ρ g ⟨rfl, x, y, rfl, rfl, e⟩
  simp
  refine ⟨fun h => ?_, fun h => ?_⟩
  · have hy : (0 : Int) < n := by omega
    simp [oMod_int hy]
    exact ⟨x % n, Nat.mod_lt _ (by omega), n, ⟨rfl, by omega⟩, by rw [← e, Nat.gcd_comm x n, Nat.gcd_rec n x]; exact Nat.gcd_comm _ _⟩
  · subst h
    rw [Nat.gcd_zero_right] at e
    rw [e]
theorem lowest_ok {a : Int} {b : Nat} {f : Feed} (hb : 0 < b) (h2 : b < 2 ^ 2000) : F_q_lowest [.dat (.int a), .dat (.int b)] f = .ok (.dat (low a b)) f := by
  have hg : 0 < Nat.gcd a.natAbs b := Nat.gcd_pos_of_pos_right _ hb
  have hl : Nat.gcd a.natAbs b ≤ b := Nat.gcd_le_right _ hb
  have d1 : ∀ c : Int, oDiv (.int c) (.int (Nat.gcd a.natAbs b : Nat)) = some (.dat (.int (c / (Nat.gcd a.natAbs b : Nat)))) := fun c => oDiv_int (by omega) (Nat.lt_trans (log2_small (k := 2000) (by rw [Int.natAbs_natCast]; omega) (by decide)) (by decide))
  apply ev_is
  rw [u_q_lowest, ev_dEnd]
  unfold S_q_lowest
  simp
  refine ev_while (I := fun n ρ g => g = f ∧ ∃ x y : Nat, n = y ∧ ρ = [.dat (.int a), .dat (.int b), .dat (.int x), .dat (.int y)] ∧ Nat.gcd x y = Nat.gcd a.natAbs b) (n := b) ?_ ⟨rfl, a.natAbs, b, rfl, rfl, rfl⟩
  rintro n ρ g ⟨rfl, x, y, rfl, rfl, e⟩
  simp
  refine ⟨fun h => ?_, fun h => ?_⟩
  · have hy : (0 : Int) < n := by omega
    simp [oMod_int hy]
    exact ⟨x % n, Nat.mod_lt _ (by omega), n, ⟨rfl, by omega⟩, by rw [← e, Nat.gcd_comm x n, Nat.gcd_rec n x]; exact Nat.gcd_comm _ _⟩
  · subst h
    rw [Nat.gcd_zero_right] at e
    subst e
    simp [d1, low]
@[simp] theorem is_whole_int {i : Int} {f : Feed} : F_is_whole [.dat (.int i)] f = .ok (.dat (.bool true)) f := by
  apply ev_is
  rw [u_is_whole, ev_dEnd]
  unfold S_is_whole
  simp [isOf, tyName]
theorem ev_forT {τ : Type} {enc : τ → PyData} {T : Tgt} {s : Sm} {P : Ctl → Feed → Prop} (I : List τ → Rho → Feed → Prop) (hs : ∀ x xs ρ f, I (x :: xs) ρ f → ∃ ρ1, T.put (enc x) ρ = some ρ1 ∧ Ev (s ρ1 f) (LoopP (I xs) P)) (he : ∀ ρ f, I [] ρ f → P (.nx ρ) f) :
    ∀ (xs : List τ) (ρ : Rho) (f : Feed), I xs ρ f → Ev (forN T s (xs.map enc) ρ f) P := by
  intro xs ρ f h
  refine ev_forL (fun r ρ f => ∃ ys : List τ, r = ys.map enc ∧ I ys ρ f) (fun d r ρ f z => ?_) (fun ρ f z => ?_) _ ρ f ⟨xs, rfl, h⟩
  · obtain ⟨ys, e, z⟩ := z
    cases ys with
    | nil => cases e
    | cons y ys =>
      cases e
      obtain ⟨ρ1, p, q⟩ := hs y ys ρ f z
      refine ⟨ρ1, p, q.mono fun c f1 w => ?_⟩
      cases c with
      | nx ρ2 => exact ⟨ys, rfl, w⟩
      | ct ρ2 => exact ⟨ys, rfl, w⟩
      | bk ρ2 => exact w
      | rt v => exact w
  · obtain ⟨ys, e, z⟩ := z
    cases ys with
    | nil => exact he ρ f z
    | cons y ys => cases e
theorem eqv_rat {p r : Int} {q s : Nat} : PyData.eqv (rat p q) (rat r s) = (decide (p = r) && decide (q = s)) := by
  simp only [PyData.eqv, PyData.eqvAll, Bool.and_true]
  congr 1
  by_cases h : q = s
  · rw [h]
    simp
  · simp [h]
    omega
theorem shaped_rat {p : Int} {q : Nat} : SeqAt.shaped (rat p q) = true := by
  apply shaped_tuple
  · simp [PyData.canLayAll0, PyData.canLay0]
  · simp [PyData.depthAll, PyData.depth]
theorem nice_rat {p : Int} {q : Nat} (h1 : p.natAbs < 10 ^ 560) (h2 : q < 10 ^ 560) : Nice 2 1 (rat p q) :=
  nice_tuple ((niceL_cons (nice_int h1) (niceL_cons (nice_int (by rw [Int.natAbs_natCast]; exact h2)) niceL_nil)).up (by decide) (by decide))
theorem smallI_ok {n : Int} (h : 0 ≤ n) (h2 : n < 2 ^ 60) : smallI n = true := by
  unfold smallI
  rw [decide_eq_true (by omega), decide_eq_true (by omega)]
  rfl
theorem range_len {lo : Int} {n : Nat} : (rangeD lo n).length = n := by simp [rangeD]
theorem range_at {lo : Int} {n i : Nat} {d : PyData} (h : (rangeD lo n)[i]? = some d) : d = .int (lo + i) ∧ i < n := by
  have hi : i < n := by
    have := (List.getElem?_eq_some_iff.mp h).1
    rwa [range_len] at this
  unfold rangeD at h
  rw [List.getElem?_map, List.getElem?_range hi] at h
  cases h
  exact ⟨rfl, hi⟩
@[simp] theorem oSum_nats {ns : List Nat} : oSum (.list (ns.map fun (n : Nat) => .int n)) = some (.dat (.int (ns.sum : Nat))) := by
  have := oSum_ints (ns := ns.map fun (n : Nat) => (n : Int))
  rw [List.map_map] at this
  refine this.trans ?_
  congr 3
  induction ns with
  | nil => rfl
  | cons n r ih =>
    rw [List.map_cons, List.sum_cons, List.sum_cons, ih (by
      have := oSum_ints (ns := r.map fun (n : Nat) => (n : Int))
      rw [List.map_map] at this
      exact this)]
    simp
theorem cutD_take {ds : List PyData} {n : Nat} : cutD ds none (some (n : Int)) = ds.take n := by
  unfold cutD
  rw [HT.sIx_none, HT.sIx_nat]
  simp
theorem Ev.drawn {β : Type} {t s : Int} {r : R RV} {k : PyData → Feed → R β} {Q : β → Feed → Prop} (h : Ev r (Drawn t s)) (hk : ∀ i g, 0 ≤ i → i < s → Fd (t + 1) g → Ev (k (.int i) g) Q) : Ev (pk r k) Q := by
  obtain ⟨_, g, e, i, rfl, h0, h1, hF⟩ := h
  rw [e]
  exact hk i g h0 h1 hF
theorem Ev.drawnD {β : Type} {t s : Int} {r : R RV} {k : PyData → Feed → R β} {Q : β → Feed → Prop} (h : Ev r (Drawn t s)) (hk : ∀ i g, 0 ≤ i → i < s → Fd (t + 1) g → Ev (k (.int i) g) Q) : Ev (dt r k) Q := by
  obtain ⟨_, g, e, i, rfl, h0, h1, hF⟩ := h
  rw [e]
  exact hk i g h0 h1 hF
theorem Ev.drawnE {t s : Int} {r : R RV} {Q : RV → Feed → Prop} (h : Ev r (Drawn t s)) (hk : ∀ i g, 0 ≤ i → i < s → Fd (t + 1) g → Q (.dat (.int i)) g) : Ev r Q := by
  obtain ⟨_, g, e, i, rfl, h0, h1, hF⟩ := h
  rw [e]
  exact ev_ok.mpr (hk i g h0 h1 hF)
theorem mem_le_sum : ∀ {l : List Nat} {x : Nat}, x ∈ l → x ≤ l.sum
  | y :: l, x, h => by
    rw [List.sum_cons]
    rcases List.mem_cons.mp h with e | h
    · omega
    · have := mem_le_sum h
      omega
end Fp
namespace Fp
open PySem PySem.Spec L2 Dn
section
variable {b : Bool} {i : Int} {x : Str} {xs : List PyData} {kvs : List (PyData × PyData)}
@[simp] theorem is_int_none : isOf "int" .none = false := nr rfl
@[simp] theorem is_int_bool : isOf "int" (.bool b) = true := nr rfl
@[simp] theorem is_int_int : isOf "int" (.int i) = true := nr rfl
@[simp] theorem is_int_str : isOf "int" (.str x) = false := nr rfl
@[simp] theorem is_int_list : isOf "int" (.list xs) = false := nr rfl
@[simp] theorem is_int_tuple : isOf "int" (.tuple xs) = false := nr rfl
@[simp] theorem is_int_dict : isOf "int" (.dict kvs) = false := nr rfl
@[simp] theorem is_bool_none : isOf "bool" .none = false := nr rfl
@[simp] theorem is_bool_bool : isOf "bool" (.bool b) = true := nr rfl
@[simp] theorem is_bool_int : isOf "bool" (.int i) = false := nr rfl
@[simp] theorem is_bool_str : isOf "bool" (.str x) = false := nr rfl
@[simp] theorem is_bool_list : isOf "bool" (.list xs) = false := nr rfl
@[simp] theorem is_bool_tuple : isOf "bool" (.tuple xs) = false := nr rfl
@[simp] theorem is_bool_dict : isOf "bool" (.dict kvs) = false := nr rfl
@[simp] theorem is_str_none : isOf "str" .none = false := nr rfl
@[simp] theorem is_str_bool : isOf "str" (.bool b) = false := nr rfl
@[simp] theorem is_str_int : isOf "str" (.int i) = false := nr rfl
@[simp] theorem is_str_str : isOf "str" (.str x) = true := nr rfl
@[simp] theorem is_str_list : isOf "str" (.list xs) = false := nr rfl
@[simp] theorem is_str_tuple : isOf "str" (.tuple xs) = false := nr rfl
@[simp] theorem is_str_dict : isOf "str" (.dict kvs) = false := nr rfl
@[simp] theorem is_list_none : isOf "list" .none = false := nr rfl
@[simp] theorem is_list_bool : isOf "list" (.bool b) = false := nr rfl
@[simp] theorem is_list_int : isOf "list" (.int i) = false := nr rfl
@[simp] theorem is_list_str : isOf "list" (.str x) = false := nr rfl
@[simp] theorem is_list_list : isOf "list" (.list xs) = true := nr rfl
@[simp] theorem is_list_tuple : isOf "list" (.tuple xs) = false := nr rfl
@[simp] theorem is_list_dict : isOf "list" (.dict kvs) = false := nr rfl
@[simp] theorem is_tuple_none : isOf "tuple" .none = false := nr rfl
@[simp] theorem is_tuple_bool : isOf "tuple" (.bool b) = false := nr rfl
@[simp] theorem is_tuple_int : isOf "tuple" (.int i) = false := nr rfl
@[simp] theorem is_tuple_str : isOf "tuple" (.str x) = false := nr rfl
@[simp] theorem is_tuple_list : isOf "tuple" (.list xs) = false := nr rfl
@[simp] theorem is_tuple_tuple : isOf "tuple" (.tuple xs) = true := nr rfl
@[simp] theorem is_tuple_dict : isOf "tuple" (.dict kvs) = false := nr rfl
end
def okD : List (PyData × PyData) → Bool
  | [] => true
  | [(.int k, .int v)] => decide (k = 0 ∧ v = 1)
  | [(.str x, .tuple [.int a, .int b])] => decide (x = "a" ∧ a = 0 ∧ b = 1)
  | _ => false
theorem okD_is {kvs : List (PyData × PyData)} (h : okD kvs = true) : kvs = [] ∨ kvs = [(.int 0, .int 1)] ∨ kvs = [(.str "a", .tuple [.int 0, .int 1])] := by
  unfold okD at h
  split at h
  · exact .inl rfl
  · rw [decide_eq_true_eq] at h
    obtain ⟨rfl, rfl⟩ := h
    exact .inr (.inl rfl)
  · rw [decide_eq_true_eq] at h
    obtain ⟨rfl, rfl, rfl⟩ := h
    exact .inr (.inr rfl)
  · cases h
mutual
def thg (e : Nat) : PyData → Bool
  | .int i => decide (i.natAbs < 2 ^ e)
  | .str x => x.cps.toList.all fun c => decide (c < 16 ^ 8)
  | .list xs => thgAll e xs
  | .tuple xs => thgAll e xs
  | .dict kvs => okD kvs
  | _ => true
def thgAll (e : Nat) : List PyData → Bool
  | [] => true
  | x :: xs => thg e x && thgAll e xs
end
theorem thgAll_iff {e : Nat} : ∀ {xs : List PyData}, thgAll e xs = true ↔ ∀ x ∈ xs, thg e x = true
  | [] => by simp [thgAll]
  | x :: xs => by
    rw [thgAll, Bool.and_eq_true, thgAll_iff (xs := xs)]
    simp
mutual
/-- how long it is: bits of its numbers, signs of its texts, one for each place -/
def siz : PyData → Nat
  | .int i => i.natAbs.log2 + 1
  | .str x => x.cps.size
  | .list xs => sizAll xs
  | .tuple xs => sizAll xs
  | .dict kvs => PyData.bulkKv kvs
  | _ => 0
def sizAll : List PyData → Nat
  | [] => 0
  | x :: xs => siz x + 1 + sizAll xs
end
theorem sizAll_app : ∀ xs ys : List PyData, sizAll (xs ++ ys) = sizAll xs + sizAll ys
  | [], ys => by simp [sizAll]
  | x :: xs, ys => by
    rw [List.cons_append, sizAll, sizAll, sizAll_app xs ys]
    omega
theorem depthAll_app : ∀ xs ys : List PyData, PyData.depthAll (xs ++ ys) = max (PyData.depthAll xs) (PyData.depthAll ys)
  | [], ys => by simp [PyData.depthAll]
  | x :: xs, ys => by
    rw [List.cons_append, PyData.depthAll, PyData.depthAll, depthAll_app xs ys]
    omega
theorem sizAll_len : ∀ xs : List PyData, xs.length ≤ sizAll xs
  | [] => Nat.le_refl _
  | x :: xs => by
    rw [List.length_cons, sizAll]
    have := sizAll_len xs
    omega
theorem siz_mem : ∀ {xs : List PyData} {x : PyData}, x ∈ xs → siz x + 1 ≤ sizAll xs
  | y :: ys, x, h => by
    rw [sizAll]
    rcases List.mem_cons.mp h with rfl | h
    · omega
    · have := siz_mem h
      omega
theorem depth_mem : ∀ {xs : List PyData} {x : PyData}, x ∈ xs → PyData.depth x ≤ PyData.depthAll xs
  | y :: ys, x, h => by
    rw [PyData.depthAll]
    rcases List.mem_cons.mp h with rfl | h
    · omega
    · have := depth_mem h
      omega
structure Th (e b k : Nat) (d : PyData) : Prop where
  t : thg e d = true
  k : d.depth ≤ k
  b : siz d ≤ b
structure ThL (e b k : Nat) (xs : List PyData) : Prop where
  t : thgAll e xs = true
  k : PyData.depthAll xs ≤ k
  b : sizAll xs ≤ b
mutual
theorem thg_up {e c : Nat} (h : e ≤ c) : ∀ d : PyData, thg e d = true → thg c d = true
  | .int i, q => by
    simp only [thg, decide_eq_true_eq] at q ⊢
    exact Nat.lt_of_lt_of_le q (Nat.pow_le_pow_right (by decide) h)
  | .list xs, q => by
    simp only [thg] at q ⊢
    exact thgAll_up h xs q
  | .tuple xs, q => by
    simp only [thg] at q ⊢
    exact thgAll_up h xs q
  | .str x, q => by simpa only [thg] using q
  | .none, _ => rfl
  | .bool _, _ => rfl
  | .dict kvs, q => by simpa only [thg] using q
theorem thgAll_up {e c : Nat} (h : e ≤ c) : ∀ xs : List PyData, thgAll e xs = true → thgAll c xs = true
  | [], _ => rfl
  | x :: xs, q => by
    simp only [thgAll, Bool.and_eq_true] at q ⊢
    exact ⟨thg_up h x q.1, thgAll_up h xs q.2⟩
end
section
variable {e b k c l g : Nat} {d : PyData} {xs ys : List PyData}
theorem Th.up (h : Th e b k d) (h1 : e ≤ g) (h2 : b ≤ c) (h3 : k ≤ l) : Th g c l d := ⟨thg_up h1 d h.t, Nat.le_trans h.k h3, Nat.le_trans h.b h2⟩
theorem ThL.up (h : ThL e b k xs) (h1 : e ≤ g) (h2 : b ≤ c) (h3 : k ≤ l) : ThL g c l xs := ⟨thgAll_up h1 xs h.t, Nat.le_trans h.k h3, Nat.le_trans h.b h2⟩
theorem ThL.of_app (h : ThL e b k (xs ++ ys)) : ∃ b1 b2, b1 + b2 = b ∧ ThL e b1 k xs ∧ ThL e b2 k ys := by
  have hb := h.b
  have hk := h.k
  rw [sizAll_app] at hb
  rw [depthAll_app] at hk
  have ht := thgAll_iff.mp h.t
  exact ⟨b - sizAll ys, sizAll ys, by omega, ⟨thgAll_iff.mpr fun x hx => ht x (List.mem_append_left _ hx), by omega, by omega⟩, ⟨thgAll_iff.mpr fun x hx => ht x (List.mem_append_right _ hx), by omega, Nat.le_refl _⟩⟩
theorem ThL.take (h : ThL e b k xs) (n : Nat) : ThL e b k (xs.take n) := by
  have q := h
  rw [← List.take_append_drop n xs] at q
  obtain ⟨b1, b2, e1, q1, q2⟩ := q.of_app
  exact q1.up (Nat.le_refl _) (by omega) (Nat.le_refl _)
theorem ThL.drop (h : ThL e b k xs) (n : Nat) : ThL e b k (xs.drop n) := by
  have q := h
  rw [← List.take_append_drop n xs] at q
  obtain ⟨b1, b2, e1, q1, q2⟩ := q.of_app
  exact q2.up (Nat.le_refl _) (by omega) (Nat.le_refl _)
theorem ThL.len (h : ThL e b k xs) : xs.length ≤ b := Nat.le_trans (sizAll_len xs) h.b
theorem thL_nil : ThL e 0 0 [] := ⟨rfl, Nat.le_refl 0, Nat.le_refl 0⟩
theorem thL_cons (h : Th e b k d) (q : ThL e c k xs) : ThL e (b + 1 + c) k (d :: xs) := ⟨by simp only [thgAll, h.t, q.t, Bool.and_self], by
    rw [PyData.depthAll]
    have := h.k
    have := q.k
    omega, by
    rw [sizAll]
    have := h.b
    have := q.b
    omega⟩
theorem thL_one (h : Th e b k d) : ThL e (b + 1) k [d] := thL_cons h (thL_nil.up (Nat.le_refl _) (Nat.le_refl _) (Nat.zero_le _))
theorem ThL.mem (h : ThL e b k xs) (hx : d ∈ xs) : Th e b k d := ⟨thgAll_iff.mp h.t d hx, Nat.le_trans (depth_mem hx) h.k, by
  have := siz_mem hx
  have := h.b
  omega⟩
theorem th_tuple (h : ThL e b k xs) : Th e b (k + 1) (.tuple xs) := ⟨by simpa only [thg] using h.t, by simpa only [PyData.depth] using Nat.succ_le_succ h.k, by simpa only [siz] using h.b⟩
theorem Th.tup (h : Th e b k (.tuple xs)) : ∃ j, j + 1 = k ∧ ThL e b j xs := by
  have hk := h.k
  simp only [PyData.depth] at hk
  exact ⟨k - 1, by omega, by simpa only [thg] using h.t, by omega, by simpa only [siz] using h.b⟩
theorem Th.lst (h : Th e b k (.list xs)) : ∃ j, j + 1 = k ∧ ThL e b j xs := by
  have hk := h.k
  simp only [PyData.depth] at hk
  exact ⟨k - 1, by omega, by simpa only [thg] using h.t, by omega, by simpa only [siz] using h.b⟩
theorem siz_int {i : Int} {n : Nat} (h : i.natAbs < 2 ^ n) : siz (.int i) ≤ n + 1 := by
  simp only [siz]
  by_cases z : i.natAbs = 0
  · rw [z, show Nat.log2 0 = 0 from rfl]
    omega
  · have := (Nat.log2_lt z).mpr h
    omega
theorem int_siz {i : Int} {b : Nat} (h : siz (.int i) ≤ b) : i.natAbs < 2 ^ b := by
  simp only [siz] at h
  exact Nat.lt_of_lt_of_le Nat.lt_log2_self (Nat.pow_le_pow_right (by decide) h)
theorem th_int {i : Int} (h : i.natAbs < 2 ^ e) : Th e (e + 1) 0 (.int i) := ⟨by simpa only [thg, decide_eq_true_eq] using h, Nat.le_refl 0, siz_int h⟩
theorem Th.oky (h : Th e b k d) : okTy d = true := by
  cases d with
  | dict kvs =>
    have q : okD kvs = true := by simpa only [thg] using h.t
    rcases okD_is q with rfl | rfl | rfl <;> rfl
  | _ => rfl
end
mutual
theorem thg_bare {e : Nat} : ∀ d : PyData, thg e d = true → bare d = true
  | .list xs, q => by
    simp only [thg] at q
    simp only [bare]
    exact thgAll_bare xs q
  | .tuple xs, q => by
    simp only [thg] at q
    simp only [bare]
    exact thgAll_bare xs q
  | .int _, _ => rfl
  | .str _, _ => rfl
  | .none, _ => rfl
  | .bool _, _ => rfl
  | .dict kvs, q => by
    have q : okD kvs = true := by simpa only [thg] using q
    rcases okD_is q with rfl | rfl | rfl <;> rfl
theorem thgAll_bare {e : Nat} : ∀ xs : List PyData, thgAll e xs = true → bareAll xs = true
  | [], _ => rfl
  | x :: xs, q => by
    simp only [thgAll, Bool.and_eq_true] at q
    simp only [bareAll, Bool.and_eq_true]
    exact ⟨thg_bare x q.1, thgAll_bare xs q.2⟩
end
mutual
theorem thg_showable {e : Nat} (he : e ≤ 1850) : ∀ d : PyData, thg e d = true → d.showable = true ∧ d.leavesShort 600 = true
  | .list xs, q => by
    simp only [thg] at q
    simp only [PyData.showable, PyData.leavesShort]
    exact thgAll_showable he xs q
  | .tuple xs, q => by
    simp only [thg] at q
    simp only [PyData.showable, PyData.leavesShort]
    exact thgAll_showable he xs q
  | .int i, q => by
    simp only [thg, decide_eq_true_eq] at q
    have q2 : i.natAbs < 2 ^ 1850 := Nat.lt_of_lt_of_le q (Nat.pow_le_pow_right (by decide) he)
    have q3 : i.natAbs < 10 ^ 560 := Nat.lt_of_lt_of_le q2 (by decide)
    have z := nice_int q3
    refine ⟨z.sh, ?_⟩
    have := z.short
    simpa only [PyData.intsShort, PyData.leavesShort] using this
  | .str x, q => by
    simp only [thg] at q
    simp only [PyData.showable, PyData.leavesShort]
    exact ⟨trivial, q⟩
  | .none, _ => ⟨rfl, rfl⟩
  | .bool _, _ => ⟨rfl, rfl⟩
  | .dict kvs, q => by
    have q : okD kvs = true := by simpa only [thg] using q
    rcases okD_is q with rfl | rfl | rfl <;> exact ⟨by decide +kernel, by decide +kernel⟩
theorem thgAll_showable {e : Nat} (he : e ≤ 1850) : ∀ xs : List PyData, thgAll e xs = true → PyData.showableAll xs = true ∧ PyData.leavesShortAll 600 xs = true
  | [], _ => ⟨rfl, rfl⟩
  | x :: xs, q => by
    simp only [thgAll, Bool.and_eq_true] at q
    have a := thg_showable he x q.1
    have b := thgAll_showable he xs q.2
    simp only [PyData.showableAll, PyData.leavesShortAll, a.1, a.2, b.1, b.2, Bool.and_self]
    exact ⟨trivial, trivial⟩
end
open StrLaws in
theorem shown_int {i : Int} : (PyData.shown (.int i)).length ≤ siz (.int i) + 1 := by
  have h : i.natAbs < 10 ^ (siz (.int i)) := by
    have := int_siz (i := i) (Nat.le_refl _)
    exact Nat.lt_of_lt_of_le this (Nat.pow_le_pow_left (by decide) _)
  have e := int_text_length_le10 (k := siz (.int i)) (by simp only [siz]; omega) h
  show (Str.ofString (toString i)).length ≤ _
  rw [ofString_length]
  omega
open StrLaws in
mutual
theorem shown_siz {e : Nat} : ∀ d : PyData, thg e d = true → d.shown.length ≤ 12 * siz d + 10
  | .none, _ => by
    have e : (PyData.shown .none).length = 4 := rfl
    omega
  | .bool b, _ => by
    have e : (PyData.shown (.bool b)).length ≤ 5 := by cases b <;> decide
    omega
  | .int i, _ => by
    have := shown_int (i := i)
    omega
  | .str x, h => by
    have hx : ∀ c ∈ x.cps.toList, c < 16 ^ 8 := by simpa only [thg, List.all_eq_true, decide_eq_true_eq] using h
    have e := reprText_len x hx
    have e2 : x.length = x.cps.size := rfl
    simp only [PyData.shown, siz]
    omega
  | .list xs, h => by
    have h1 := shownAll_siz xs (by simpa only [thg] using h)
    have h2 := listText_len_le (PyData.shownAll xs)
    have h3 := PyData.shownAll_length xs
    simp only [PyData.shown, siz]
    omega
  | .tuple xs, h => by
    have h1 := shownAll_siz xs (by simpa only [thg] using h)
    have h2 := tupleText_len_le (PyData.shownAll xs)
    have h3 := PyData.shownAll_length xs
    simp only [PyData.shown, siz]
    omega
  | .dict kvs, h => by
    have q : okD kvs = true := by simpa only [thg] using h
    rcases okD_is q with rfl | rfl | rfl
    · have e : (PyData.shown (.dict [])).length = 2 := by decide +kernel
      omega
    · have e : (PyData.shown (.dict [(.int 0, .int 1)])).length = 6 := by decide +kernel
      omega
    · have e : (PyData.shown (.dict [(.str "a", .tuple [.int 0, .int 1])])).length = 13 := by decide +kernel
      have e2 : siz (.dict [(.str "a", .tuple [.int 0, .int 1])]) = 5 := by decide +kernel
      omega
theorem shownAll_siz {e : Nat} : ∀ xs : List PyData, thgAll e xs = true → ((PyData.shownAll xs).map (·.length)).sum + 2 * xs.length ≤ 12 * sizAll xs
  | [], _ => by simp only [PyData.shownAll, sizAll, List.map_nil, List.sum_nil, List.length_nil]; omega
  | x :: xs, h => by
    have h' : thg e x = true ∧ thgAll e xs = true := by simpa only [thgAll, Bool.and_eq_true] using h
    have h1 := shown_siz x h'.1
    have h2 := shownAll_siz xs h'.2
    simp only [PyData.shownAll, sizAll, List.map_cons, List.sum_cons, List.length_cons]
    omega
end
theorem Th.shows {e b k : Nat} {d : PyData} (h : Th e b k d) (he : e ≤ 1850) (hb : b ≤ 800000) (hk : k ≤ 60) : showsX d = true := by
  have a := thg_showable he d h.t
  have hl := shown_siz d h.t
  have h3 : d.shown.length ≤ 10000000 := by
    have h4 := h.b
    omega
  unfold showsX
  rw [thg_bare d h.t, a.1, decide_eq_true (Nat.le_trans h.k hk), decide_eq_true h3]
  rfl
end Fp
namespace Fp
open PySem PySem.Spec L2 Dn
section
variable {e b k : Nat} {d : PyData} {xs : List PyData}
end
end Fp
namespace Fp
open PySem PySem.Spec L2 Dn
/-- a rational number as a ratio in lowest terms -/
def enc (x : Rat) : PyData := .tuple [.int x.num, .int (x.den : Nat)]
theorem low_eq {p : Int} {q : Nat} (hq : 0 < q) : low p q = enc (mkRat p q) := by
  have h : mkRat p q = Rat.normalize p q (by omega) := by
    unfold mkRat
    rw [dif_neg (by omega)]
  rw [h, Rat.normalize_eq]
  rfl
theorem cast_ne {D : Nat} (hD : 0 < D) : (D : Rat) ≠ 0 := by
  intro z
  have := Rat.natCast_eq_zero_iff.mp z
  omega
theorem num_div (x : Rat) : x = x.num / (x.den : Rat) := by
  rw [← Rat.mkRat_eq_div, Rat.mkRat_self]
theorem mul_den (x : Rat) : x * (x.den : Rat) = (x.num : Rat) := by
  have h := num_div x
  have d := cast_ne x.den_pos
  grind
/-- a whole number comes of it by D -/
def Wh (D : Nat) (x : Rat) : Prop := ∃ i : Int, x * (D : Rat) = (i : Rat)
theorem Wh.dvd {D : Nat} {x : Rat} (hD : 0 < D) (h : Wh D x) : x.den ∣ D := by
  obtain ⟨i, h⟩ := h
  have e : x = mkRat i D := by
    rw [Rat.mkRat_eq_div, ← h]
    have d := cast_ne hD
    grind
  rw [e, Rat.den_mkRat, if_neg (by omega)]
  exact Nat.div_dvd_of_dvd (Nat.gcd_dvd_left _ _)
theorem Wh.up {D E : Nat} {x : Rat} (h : Wh D x) (hd : D ∣ E) : Wh E x := by
  obtain ⟨k, rfl⟩ := hd
  obtain ⟨i, h⟩ := h
  refine ⟨i * k, ?_⟩
  rw [Rat.natCast_mul, Rat.intCast_mul, Rat.intCast_natCast, ← h]
  grind
theorem Wh.add {D : Nat} {x y : Rat} (h : Wh D x) (k : Wh D y) : Wh D (x + y) := by
  obtain ⟨i, h⟩ := h
  obtain ⟨j, k⟩ := k
  refine ⟨i + j, ?_⟩
  rw [Rat.intCast_add, ← h, ← k]
  grind
theorem Wh.neg {D : Nat} {x : Rat} (h : Wh D x) : Wh D (-x) := by
  obtain ⟨i, h⟩ := h
  refine ⟨-i, ?_⟩
  rw [Rat.intCast_neg, ← h]
  grind
theorem Wh.sub {D : Nat} {x y : Rat} (h : Wh D x) (k : Wh D y) : Wh D (x - y) := by
  rw [Rat.sub_eq_add_neg]
  exact h.add k.neg
theorem Wh.mul {D E : Nat} {x y : Rat} (h : Wh D x) (k : Wh E y) : Wh (D * E) (x * y) := by
  obtain ⟨i, h⟩ := h
  obtain ⟨j, k⟩ := k
  refine ⟨i * j, ?_⟩
  rw [Rat.intCast_mul, ← h, ← k, Rat.natCast_mul]
  grind
theorem wh_int {D : Nat} (i : Int) : Wh D (i : Rat) := ⟨i * D, by rw [Rat.intCast_mul, Rat.intCast_natCast]⟩
theorem wh_0 {D : Nat} : Wh D 0 := wh_int 0
theorem wh_1 {D : Nat} : Wh D 1 := wh_int 1
/-- at most B either way -/
def Ab (B x : Rat) : Prop := -B ≤ x ∧ x ≤ B
theorem Ab.up {B C x : Rat} (h : Ab B x) (hC : B ≤ C) : Ab C x := ⟨by have := h.1; grind, by have := h.2; grind⟩
theorem Ab.add {B C x y : Rat} (h : Ab B x) (k : Ab C y) : Ab (B + C) (x + y) := ⟨by have := h.1; have := k.1; grind, by have := h.2; have := k.2; grind⟩
theorem Ab.sub {B C x y : Rat} (h : Ab B x) (k : Ab C y) : Ab (B + C) (x - y) := ⟨by have := h.1; have := k.2; grind, by have := h.2; have := k.1; grind⟩
theorem Ab.mul {B C x y : Rat} (h : Ab B x) (k : Ab C y) : Ab (B * C) (x * y) := by
  obtain ⟨h1, h2⟩ := h
  obtain ⟨k1, k2⟩ := k
  have a := Rat.mul_nonneg (show 0 ≤ B - x by grind) (show 0 ≤ C + y by grind)
  have b := Rat.mul_nonneg (show 0 ≤ B + x by grind) (show 0 ≤ C - y by grind)
  have c := Rat.mul_nonneg (show 0 ≤ B - x by grind) (show 0 ≤ C - y by grind)
  have d := Rat.mul_nonneg (show 0 ≤ B + x by grind) (show 0 ≤ C + y by grind)
  exact ⟨by grind, by grind⟩
theorem ab_01 {x : Rat} (h : 0 ≤ x) (h1 : x ≤ 1) : Ab 1 x := ⟨by grind, h1⟩
theorem ab_0 {B : Rat} (h : 0 ≤ B) : Ab B 0 := ⟨by grind, h⟩
/-- short enough for the operations -/
structure Sz (n : Nat) (x : Rat) : Prop where
  num : x.num.natAbs < 2 ^ n
  den : x.den < 2 ^ n
theorem Sz.up {m n : Nat} {x : Rat} (h : Sz m x) (hn : m ≤ n) : Sz n x := ⟨Nat.lt_of_lt_of_le h.num (Nat.pow_le_pow_right (by decide) hn), Nat.lt_of_lt_of_le h.den (Nat.pow_le_pow_right (by decide) hn)⟩
theorem num_le {B : Nat} {x : Rat} (h : Ab (B : Rat) x) : x.num.natAbs ≤ B * x.den := by
  obtain ⟨h1, h2⟩ := h
  have e := mul_den x
  have d : (0 : Rat) ≤ (x.den : Rat) := Rat.natCast_nonneg
  have a := Rat.mul_nonneg (show 0 ≤ (B : Rat) - x by grind) d
  have b := Rat.mul_nonneg (show 0 ≤ (B : Rat) + x by grind) d
  have a2 : ((x.num : Int) : Rat) ≤ ((B * x.den : Int) : Rat) := by
    rw [Rat.intCast_mul, Rat.intCast_natCast, Rat.intCast_natCast, ← e]
    grind
  have b2 : ((-(B * x.den) : Int) : Rat) ≤ ((x.num : Int) : Rat) := by
    rw [Rat.intCast_neg, Rat.intCast_mul, Rat.intCast_natCast, Rat.intCast_natCast, ← e]
    grind
  have a3 := Rat.intCast_le_intCast.mp a2
  have b3 := Rat.intCast_le_intCast.mp b2
  rw [← Int.natCast_mul] at a3 b3
  omega
theorem sz_of {D B n : Nat} {x : Rat} (hD : 0 < D) (hw : Wh D x) (ha : Ab (B : Rat) x) (h1 : B * D < 2 ^ n) (h2 : D < 2 ^ n) : Sz n x := by
  have hd := Nat.le_of_dvd hD (hw.dvd hD)
  exact ⟨Nat.lt_of_le_of_lt (num_le ha) (Nat.lt_of_le_of_lt (Nat.mul_le_mul_left B hd) h1), Nat.lt_of_le_of_lt hd h2⟩
section
variable {x y : Rat} {f : Feed}
theorem mulC_sz {a b : Int} {n : Nat} (h : a.natAbs < 2 ^ n) (h2 : b.natAbs < 2 ^ n) (hn : n ≤ 4000) : mulC a b = true := by
  have h3 : (2 : Nat) ^ n ≤ 2 ^ 4000 := Nat.pow_le_pow_right (by decide) hn
  exact mulC_small (k := 4000) (l := 4000) (Nat.lt_of_lt_of_le h h3) (Nat.lt_of_lt_of_le h2 h3) (by decide)
theorem ratio_big {p : Int} {q : Nat} {f : Feed} (hq : 0 < q) (h1 : p.natAbs < 2 ^ 8500) (h2 : q < 2 ^ 8500) : F_ratio [.dat (.int p), .dat (.int q)] f = .ok (.dat (enc (mkRat p q))) f := by
  have hg : 0 < Nat.gcd p.natAbs q := Nat.gcd_pos_of_pos_right _ hq
  have hl : Nat.gcd p.natAbs q ≤ q := Nat.gcd_le_right _ hq
  have d1 : ∀ c : Int, oDiv (.int c) (.int (Nat.gcd p.natAbs q : Nat)) = some (.dat (.int (c / (Nat.gcd p.natAbs q : Nat)))) := fun c => oDiv_int (by omega) (Nat.lt_trans (log2_small (k := 8500) (by rw [Int.natAbs_natCast]; omega) (by decide)) (by decide))
  have m1 : ∀ c : Int, c.natAbs < 2 ^ 8500 → oMul (.int 1) (.int c) = some (.dat (.int (1 * c))) := fun c hc => oMul_int (mulC_small (k := 1) (l := 8500) (by decide) hc (by decide))
  have m2 := m1 p h1
  have m3 := m1 q (by rw [Int.natAbs_natCast]; exact h2)
  have z1 : ¬ (q : Int) < 0 := by omega
  have z2 : ¬ (q : Int) = 0 := by omega
  have z3 : ¬ q = 0 := by omega
  rw [← low_eq hq]
  apply ev_is
  rw [u_ratio, ev_dEnd]
  unfold S_ratio
  simp [common_ok, z1, z2, z3, m2, m3, d1, ev_ite]
  simp [low]
theorem prod_lt {a b : Nat} {n : Nat} (h : a < 2 ^ n) (h2 : b < 2 ^ n) (hn : n ≤ 4000) : a * b < 2 ^ 8000 := by
  have h3 : (2 : Nat) ^ n ≤ 2 ^ 4000 := Nat.pow_le_pow_right (by decide) hn
  have := Nat.mul_lt_mul_of_lt_of_lt (Nat.lt_of_lt_of_le h h3) (Nat.lt_of_lt_of_le h2 h3)
  exact Nat.lt_of_lt_of_le this (by decide)
theorem add_eq (x y : Rat) : mkRat (x.num * y.den + y.num * x.den) (x.den * y.den) = x + y := by
  rw [Rat.mkRat_eq_div, Rat.natCast_mul, Rat.intCast_add, Rat.intCast_mul, Rat.intCast_mul, Rat.intCast_natCast, Rat.intCast_natCast, ← mul_den x, ← mul_den y]
  have a := cast_ne x.den_pos
  have b := cast_ne y.den_pos
  grind
theorem sub_eq (x y : Rat) : mkRat (x.num * y.den - y.num * x.den) (x.den * y.den) = x - y := by
  rw [Rat.mkRat_eq_div, Rat.natCast_mul, Rat.intCast_sub, Rat.intCast_mul, Rat.intCast_mul, Rat.intCast_natCast, Rat.intCast_natCast, ← mul_den x, ← mul_den y]
  have a := cast_ne x.den_pos
  have b := cast_ne y.den_pos
  grind
theorem mul_eq (x y : Rat) : mkRat (x.num * y.num) (x.den * y.den) = x * y := by
  rw [Rat.mkRat_eq_div, Rat.natCast_mul, Rat.intCast_mul, ← mul_den x, ← mul_den y]
  have a := cast_ne x.den_pos
  have b := cast_ne y.den_pos
  grind
theorem plus_q {n : Nat} (hx : Sz n x) (hy : Sz n y) (hn : n ≤ 4000) : F_plus [.dat (enc x), .dat (enc y)] f = .ok (.dat (enc (x + y))) f := by
  have m1 : oMul (.int x.num) (.int (y.den : Nat)) = some (.dat (.int (x.num * y.den))) := oMul_int (mulC_sz hx.num (by rw [Int.natAbs_natCast]; exact hy.den) hn)
  have m2 : oMul (.int y.num) (.int (x.den : Nat)) = some (.dat (.int (y.num * x.den))) := oMul_int (mulC_sz hy.num (by rw [Int.natAbs_natCast]; exact hx.den) hn)
  have m3 : oMul (.int (x.den : Nat)) (.int (y.den : Nat)) = some (.dat (.int (x.den * y.den))) := oMul_int (mulC_sz (by rw [Int.natAbs_natCast]; exact hx.den) (by rw [Int.natAbs_natCast]; exact hy.den) hn)
  have b1 := prod_lt hx.num hy.den hn
  have b2 := prod_lt hy.num hx.den hn
  have b3 := prod_lt hx.den hy.den hn
  have k : (2 : Nat) ^ 8000 + 2 ^ 8000 ≤ 2 ^ 8500 := by decide
  have b4 : (x.num * y.den + y.num * x.den).natAbs < 2 ^ 8500 := by
    have a1 : (x.num * y.den).natAbs = x.num.natAbs * y.den := by rw [Int.natAbs_mul, Int.natAbs_natCast]
    have a2 : (y.num * x.den).natAbs = y.num.natAbs * x.den := by rw [Int.natAbs_mul, Int.natAbs_natCast]
    have a3 := Int.natAbs_add_le (x.num * y.den) (y.num * x.den)
    omega
  have r1 := ratio_big (f := f) (Nat.mul_pos x.den_pos y.den_pos) b4 (by omega)
  rw [Int.natCast_mul, add_eq] at r1
  apply ev_is
  rw [u_plus, ev_dEnd]
  unfold S_plus enc
  simp [m1, m2, m3]
  exact ⟨_, f, r1, by simp [enc]⟩
theorem times_q {n : Nat} (hx : Sz n x) (hy : Sz n y) (hn : n ≤ 4000) : F_times [.dat (enc x), .dat (enc y)] f = .ok (.dat (enc (x * y))) f := by
  have m1 : oMul (.int x.num) (.int y.num) = some (.dat (.int (x.num * y.num))) := oMul_int (mulC_sz hx.num hy.num hn)
  have m3 : oMul (.int (x.den : Nat)) (.int (y.den : Nat)) = some (.dat (.int (x.den * y.den))) := oMul_int (mulC_sz (by rw [Int.natAbs_natCast]; exact hx.den) (by rw [Int.natAbs_natCast]; exact hy.den) hn)
  have b1 := prod_lt hx.num hy.num hn
  have b3 := prod_lt hx.den hy.den hn
  have k : (2 : Nat) ^ 8000 ≤ 2 ^ 8500 := by decide
  have b4 : (x.num * y.num).natAbs < 2 ^ 8500 := by
    rw [Int.natAbs_mul]
    omega
  have r1 := ratio_big (f := f) (Nat.mul_pos x.den_pos y.den_pos) b4 (by omega)
  rw [Int.natCast_mul, mul_eq] at r1
  apply ev_is
  rw [u_times, ev_dEnd]
  unfold S_times enc
  simp [m1, m3]
  exact ⟨_, f, r1, by simp [enc]⟩
end
end Fp
namespace Fp
open PySem PySem.Spec L2 Dn
theorem enc1 : enc 1 = .tuple [.int 1, .int 1] := rfl
theorem shaped_enc {x : Rat} : SeqAt.shaped (enc x) = true := shaped_rat (p := x.num) (q := x.den)
theorem eqv_enc {x y : Rat} : PyData.eqv (enc x) (enc y) = decide (x = y) := by
  refine (eqv_rat (p := x.num) (q := x.den) (r := y.num) (s := y.den)).trans ?_
  by_cases h : x = y
  · subst h
    simp
  · rw [decide_eq_false h]
    by_cases a : x.num = y.num
    · by_cases b : x.den = y.den
      · exact absurd (Rat.ext a b) h
      · simp [b]
    · simp [a]
theorem eq_enc {x y : Rat} : oEq (enc x) (enc y) = some (.dat (.bool (decide (x = y)))) := by
  rw [oEq_of shaped_enc shaped_enc, eqv_enc]
theorem ne_enc {x y : Rat} : oNe (enc x) (enc y) = some (.dat (.bool (!decide (x = y)))) := by
  rw [oNe_of shaped_enc shaped_enc, eqv_enc]
theorem eq_enc0 {x : Rat} : oEq (enc x) (.tuple [.int 0, .int 1]) = some (.dat (.bool (decide (x = 0)))) := eq_enc (y := 0)
theorem ne_enc0 {x : Rat} : oNe (enc x) (.tuple [.int 0, .int 1]) = some (.dat (.bool (!decide (x = 0)))) := ne_enc (y := 0)
theorem nice_enc {x : Rat} {n : Nat} (h : Sz n x) (hn : n ≤ 1850) : Nice 2 1 (enc x) := by
  have k : (2 : Nat) ^ n ≤ 2 ^ 1850 := Nat.pow_le_pow_right (by decide) hn
  have k2 : (2 : Nat) ^ 1850 < 10 ^ 560 := by decide
  have := h.num
  have := h.den
  exact nice_rat (p := x.num) (q := x.den) (by omega) (by omega)
section
variable {x y : Rat} {f : Feed}
theorem ab_sz {D B n : Nat} (hD : 0 < D) (hw : Wh D x) (ha : Ab (B : Rat) x) (hB : 0 < B) (h1 : B * D < 2 ^ n) : Sz n x := sz_of hD hw ha h1 (Nat.lt_of_le_of_lt (Nat.le_mul_of_pos_left D hB) h1)
end
theorem sum_wh {D : Nat} : ∀ {xs : List Rat}, (∀ x ∈ xs, Wh D x) → Wh D xs.sum
  | [], _ => wh_0
  | x :: xs, h => by
    rw [List.sum_cons]
    exact (h x List.mem_cons_self).add (sum_wh fun y hy => h y (List.mem_cons_of_mem _ hy))
theorem summed_q {D B L : Nat} {xs : List Rat} {f : Feed} (hD : 0 < D) (hB : 0 < B) (hw : ∀ x ∈ xs, Wh D x) (hb : ∀ x ∈ xs, Ab (B : Rat) x) (hL : xs.length ≤ L) (hs : B * (L + 1) * D < 2 ^ 4000) : F_summed [.dat (.list (xs.map enc))] f = .ok (.dat (enc xs.sum)) f := by
  apply ev_is
  rw [u_summed, ev_dEnd]
  unfold S_summed
  simp
  refine ev_forT (I := fun (rest : List Rat) ρ g => g = f ∧ ∃ (acc : Rat) (k : Nat) (s2 : Slot), ρ = [.dat (.list (xs.map enc)), .dat (enc acc), s2] ∧ acc + rest.sum = xs.sum ∧ Wh D acc ∧ Ab ((B * k : Nat) : Rat) acc ∧ k + rest.length ≤ L ∧ (∀ x ∈ rest, Wh D x ∧ Ab (B : Rat) x)) ?_ ?_ xs _ f ⟨rfl, 0, 0, .emp, rfl, by grind, wh_0, ab_0 Rat.natCast_nonneg, by omega, fun x hx => ⟨hw x hx, hb x hx⟩⟩
  · rintro x rest ρ g ⟨rfl, acc, k, s2, rfl, e, w, a, l, h⟩
    obtain ⟨hx1, hx2⟩ := h x List.mem_cons_self
    rw [List.length_cons] at l
    rw [List.sum_cons] at e
    have hm : ∀ j, j ≤ L → (B * (j + 1)) * D < 2 ^ 4000 := fun j hj => Nat.lt_of_le_of_lt (Nat.mul_le_mul_right D (Nat.mul_le_mul_left B (by omega))) hs
    have s1 : Sz 4000 acc := ab_sz hD w (a.up (Rat.natCast_le_natCast.mpr (Nat.mul_le_mul_left B (Nat.le_succ k)))) (Nat.mul_pos hB (Nat.succ_pos k)) (hm k (by omega))
    have s2 : Sz 4000 x := ab_sz hD hx1 hx2 hB (by have := hm 0 (by omega); rwa [Nat.zero_add, Nat.mul_one] at this)
    have p := plus_q (f := g) s1 s2 (Nat.le_refl _)
    refine ⟨_, rfl, ?_⟩
    simp [p]
    refine ⟨acc + x, rfl, by grind, w.add hx1, k + 1, ?_, by omega, fun y hy => h y (List.mem_cons_of_mem _ hy)⟩
    have := a.add hx2
    rw [← Rat.natCast_add] at this
    rw [← Rat.natCast_mul, Nat.mul_succ]
    exact this
  · rintro ρ g ⟨rfl, acc, k, s2, rfl, e, w, a, l, h⟩
    simp
    rw [List.sum_nil] at e
    have : acc = xs.sum := by grind
    rw [this]
end Fp
namespace Fp
open PySem PySem.Spec L2 Dn
structure Life where
  row : List Rat
  step : Rat
def lifeD (L : Life) : PyData := .tuple [.tuple (L.row.map enc), enc L.step]
def lastR (L : Life) : Rat := L.row.getLastD 0
/-- all chances, added -/
def tot (L : Life) : Rat := L.row.sum + lastR L * L.step / (1 - L.step)
/-- the chance at k -/
def ch (L : Life) (k : Nat) : Rat := if k ≤ L.row.length then L.row.getD (k - 1) 0 else if L.step = 0 then 0 else lastR L * L.step ^ (k - L.row.length)
/-- what is needed of a life here: W the rows' bottom, s the step's -/
structure LOk (W s : Nat) (L : Life) : Prop where
  W0 : 0 < W
  s0 : 0 < s
  row : ∀ x ∈ L.row, Wh W x ∧ 0 ≤ x ∧ x ≤ 1
  step : Wh s L.step
  st0 : 0 ≤ L.step
  st1 : L.step < 1
  emp : L.row = [] → L.step = 0
  tot1 : tot L ≤ 1
theorem lastR_mem {L : Life} (h : L.row ≠ []) : lastR L ∈ L.row := by
  unfold lastR
  rw [List.getLastD_eq_getLast?, List.getLast?_eq_some_getLast h]
  exact List.getLast_mem h
theorem wh_pow {D : Nat} {x : Rat} (h : Wh D x) : ∀ n : Nat, Wh (D ^ n) (x ^ n)
  | 0 => by
    rw [Rat.pow_zero, Nat.pow_zero]
    exact wh_1
  | n + 1 => by
    rw [Rat.pow_succ, Nat.pow_succ]
    exact (wh_pow h n).mul h
theorem pow_01 {x : Rat} (h : 0 ≤ x) (h1 : x ≤ 1) : ∀ n : Nat, 0 ≤ x ^ n ∧ x ^ n ≤ 1
  | 0 => by
    rw [Rat.pow_zero]
    exact ⟨by decide, by decide⟩
  | n + 1 => by
    rw [Rat.pow_succ]
    obtain ⟨a, b⟩ := pow_01 h h1 n
    have c := Rat.mul_nonneg a h
    have d := Rat.mul_nonneg (show 0 ≤ 1 - x ^ n by grind) h
    exact ⟨c, by grind⟩
theorem mul_01 {x y : Rat} (h : 0 ≤ x ∧ x ≤ 1) (k : 0 ≤ y ∧ y ≤ 1) : 0 ≤ x * y ∧ x * y ≤ 1 := by
  have c := Rat.mul_nonneg h.1 k.1
  have d := Rat.mul_nonneg (show 0 ≤ 1 - x by grind) k.1
  exact ⟨c, by grind⟩
section
variable {W s : Nat} {L : Life}
theorem LOk.tail (h : LOk W s L) (hr : L.row ≠ []) (n : Nat) : Wh (W * s ^ n) (lastR L * L.step ^ n) ∧ 0 ≤ lastR L * L.step ^ n ∧ lastR L * L.step ^ n ≤ 1 := by
  have a := h.row _ (lastR_mem hr)
  have b := pow_01 h.st0 (by have := h.st1; grind) n
  exact ⟨a.1.mul (wh_pow h.step n), mul_01 a.2 b⟩
theorem LOk.ch (h : LOk W s L) {k m : Nat} (hk : k ≤ m) : Wh (W * s ^ m) (ch L k) ∧ 0 ≤ Fp.ch L k ∧ Fp.ch L k ≤ 1 := by
  have z : Wh (W * s ^ m) 0 ∧ (0 : Rat) ≤ 0 ∧ (0 : Rat) ≤ 1 := ⟨wh_0, by decide, by decide⟩
  unfold Fp.ch
  split
  · rename_i hl
    by_cases q : k - 1 < L.row.length
    · rw [List.getD_eq_getElem?_getD, List.getElem?_eq_getElem q]
      have a := h.row _ (List.getElem_mem q)
      exact ⟨a.1.up (Nat.dvd_mul_right _ _), a.2⟩
    · rw [List.getD_eq_getElem?_getD, List.getElem?_eq_none (by omega)]
      exact z
  · split
    · exact z
    · rename_i h1 h2
      have hr : L.row ≠ [] := fun q => h2 (h.emp q)
      have a := h.tail hr (k - L.row.length)
      exact ⟨a.1.up (Nat.mul_dvd_mul_left W (Nat.pow_dvd_pow s (by omega))), a.2⟩
end
theorem atI_last {x : Rat} {row : List Rat} (h : row ≠ []) : atI (row.map enc) (-1) = some (enc (row.getLastD 0)) := by
  obtain ⟨ys, y, rfl⟩ : ∃ ys y, row = ys ++ [y] := ⟨row.dropLast, row.getLast h, (List.dropLast_concat_getLast h).symm⟩
  rw [List.map_append, List.map_cons, List.map_nil]
  rw [L2.atI_last]
  simp
end Fp
namespace Fp
open PySem PySem.Spec L2 Dn
theorem ev_step {s s2 : Sm} {ρ : Rho} {f : Feed} {P : Ctl → Feed → Prop} (Q : Rho → Feed → Prop) (h : Ev (s ρ f) fun c g => ∃ ρ2, c = .nx ρ2 ∧ Q ρ2 g) (k : ∀ ρ2 g, Q ρ2 g → Ev (s2 ρ2 g) P) : Ev (sSeq s s2 ρ f) P := by
  rw [e_seq, ev_bind]
  refine h.mono ?_
  rintro _ g ⟨ρ2, rfl, q⟩
  rw [e_then_nx]
  exact k ρ2 g q
theorem wh_mk {W : Nat} {i : Int} (hW : 0 < W) : Wh W (mkRat i W) := by
  refine ⟨i, ?_⟩
  rw [Rat.mkRat_eq_div]
  have := cast_ne hW
  grind
theorem mk_mul {W : Nat} {i : Int} (hW : 0 < W) : mkRat i W * (W : Rat) = (i : Rat) := by
  rw [Rat.mkRat_eq_div]
  have := cast_ne hW
  grind
theorem frac01 {W i : Nat} (hW : 0 < W) (h : i ≤ W) : 0 ≤ mkRat (i : Nat) W ∧ mkRat (i : Nat) W ≤ 1 := by
  have e := mk_mul (i := (i : Nat)) hW
  have w0 : (0 : Rat) < (W : Rat) := Rat.natCast_pos.mpr hW
  rw [Rat.intCast_natCast] at e
  have h2 : (i : Rat) ≤ (W : Rat) := Rat.natCast_le_natCast.mpr h
  have h3 : (0 : Rat) ≤ (i : Rat) := Rat.natCast_nonneg
  exact ⟨Rat.le_of_mul_le_mul_right (c := (W : Rat)) (by grind) w0, Rat.le_of_mul_le_mul_right (c := (W : Rat)) (by grind) w0⟩
theorem range0 {n : Nat} : rangeD 0 n = (List.range n).map fun (i : Nat) => .int (i : Nat) := by
  unfold rangeD
  simp
theorem sum_mk {W B : Nat} (W0 : 0 < W) : ∀ us : List Nat, (us.map fun (w : Nat) => mkRat ((B * w : Nat) : Int) W).sum * (W : Rat) = (B : Rat) * (us.sum : Nat)
  | [] => by
    rw [List.map_nil, List.sum_nil, List.sum_nil]
    have : ((0 : Nat) : Rat) = 0 := rfl
    grind
  | u :: us => by
    have e := mk_mul (i := ((B * u : Nat) : Int)) W0
    have ih := sum_mk (B := B) W0 us
    rw [Rat.intCast_natCast, Rat.natCast_mul] at e
    rw [List.map_cons, List.sum_cons, List.sum_cons, Rat.natCast_add]
    grind
theorem tot_more {L : Life} (h : L.step < 1) : tot ⟨L.row ++ [lastR L * L.step], L.step⟩ = tot L := by
  have e : lastR ⟨L.row ++ [lastR L * L.step], L.step⟩ = lastR L * L.step := by
    unfold lastR
    simp
  unfold tot
  rw [e]
  show (L.row ++ [lastR L * L.step]).sum + lastR L * L.step * L.step / (1 - L.step) = _
  rw [List.sum_append, List.sum_cons, List.sum_nil]
  have : 1 - L.step ≠ 0 := by grind
  grind
theorem LOk.more {W s : Nat} {L : Life} (h : LOk W s L) (hr : L.row ≠ []) : LOk (W * s) s ⟨L.row ++ [lastR L * L.step], L.step⟩ := by
  refine ⟨Nat.mul_pos h.W0 h.s0, h.s0, fun x hx => ?_, h.step, h.st0, h.st1, fun z => by simp at z, by rw [tot_more h.st1]; exact h.tot1⟩
  rcases List.mem_append.mp hx with q | q
  · exact ⟨(h.row x q).1.up (Nat.dvd_mul_right _ _), (h.row x q).2⟩
  · have t := h.tail hr 1
    rw [Rat.pow_one, Nat.pow_one] at t
    rw [List.mem_singleton.mp q]
    exact t
end Fp
namespace Fp
open PySem PySem.Spec L2 Dn
end Fp
namespace Fp
open PySem PySem.Spec L2 Dn
structure Tc (e b k : Nat) (d : PyData) : Prop where
  th : Th e b k d
  c : d.canLay0 = true
theorem canAll_iff : ∀ {xs : List PyData}, PyData.canLayAll0 xs = true ↔ ∀ x ∈ xs, PyData.canLay0 x = true
  | [] => by simp [PyData.canLayAll0]
  | x :: xs => by
    rw [PyData.canLayAll0, Bool.and_eq_true, canAll_iff (xs := xs)]
    simp
section
variable {e b k e' b' k' : Nat} {d : PyData} {xs ys : List PyData}
theorem Tc.up (h : Tc e b k d) (h1 : e ≤ e') (h2 : b ≤ b') (h3 : k ≤ k') : Tc e' b' k' d := ⟨h.th.up h1 h2 h3, h.c⟩
theorem Tc.shaped (h : Tc e b k d) (hk : k ≤ 64) : SeqAt.shaped d = true := by
  unfold SeqAt.shaped
  rw [h.c, Bool.true_and, decide_eq_true_eq]
  exact Nat.le_trans h.th.k hk
theorem can_tup (h : PyData.canLay0 (.tuple xs) = true) : ∀ x ∈ xs, PyData.canLay0 x = true := canAll_iff.mp h
theorem tup_can (h : ∀ x ∈ xs, PyData.canLay0 x = true) : PyData.canLay0 (.tuple xs) = true := canAll_iff.mpr h
end
end Fp
namespace Fp
open PySem PySem.Spec L2 Dn
def rs (n : Nat) (g : Nat → Rat) : Rat := ((List.range n).map g).sum
theorem sum_app : ∀ (xs ys : List Rat), (xs ++ ys).sum = xs.sum + ys.sum
  | [], ys => by
    rw [List.nil_append, List.sum_nil]
    grind
  | x :: xs, ys => by
    rw [List.cons_append, List.sum_cons, List.sum_cons, sum_app xs ys]
    grind
theorem rs_zero {g : Nat → Rat} : rs 0 g = 0 := rfl
theorem rs_succ {n : Nat} {g : Nat → Rat} : rs (n + 1) g = rs n g + g n := by
  unfold rs
  rw [List.range_succ, List.map_append, sum_app, List.map_cons, List.map_nil, List.sum_cons, List.sum_nil]
  grind
theorem rs_congr {n : Nat} {g h : Nat → Rat} (e : ∀ i, i < n → g i = h i) : rs n g = rs n h := by
  induction n with
  | zero => rfl
  | succ n ih => rw [rs_succ, rs_succ, ih fun i hi => e i (by omega), e n (by omega)]
theorem rs_add {n : Nat} {g h : Nat → Rat} : rs n (fun i => g i + h i) = rs n g + rs n h := by
  induction n with
  | zero => rw [rs_zero, rs_zero, rs_zero]; grind
  | succ n ih => rw [rs_succ, rs_succ, rs_succ, ih]; grind
theorem rs_mul {n : Nat} {g : Nat → Rat} {c : Rat} : rs n (fun i => c * g i) = c * rs n g := by
  induction n with
  | zero => rw [rs_zero, rs_zero]; grind
  | succ n ih => rw [rs_succ, rs_succ, ih]; grind
theorem rs_0 {n : Nat} : rs n (fun _ => 0) = 0 := by
  induction n with
  | zero => rfl
  | succ n ih => rw [rs_succ, ih]; grind
theorem rs_swap {n m : Nat} {g : Nat → Nat → Rat} : rs n (fun i => rs m (fun j => g i j)) = rs m (fun j => rs n (fun i => g i j)) := by
  induction n with
  | zero => rw [rs_zero, rs_congr (h := fun _ => 0) fun i _ => rs_zero, rs_0]
  | succ n ih => rw [rs_succ, ih, ← rs_add]; exact rs_congr fun i _ => rs_succ.symm
theorem rs_wh {D n : Nat} {g : Nat → Rat} (h : ∀ i, i < n → Wh D (g i)) : Wh D (rs n g) := by
  induction n with
  | zero => exact wh_0
  | succ n ih =>
    rw [rs_succ]
    exact (ih fun i hi => h i (by omega)).add (h n (by omega))
theorem rs_ab {n B : Nat} {g : Nat → Rat} (h : ∀ i, i < n → Ab (B : Rat) (g i)) : Ab ((n * B : Nat) : Rat) (rs n g) := by
  induction n with
  | zero => exact ab_0 Rat.natCast_nonneg
  | succ n ih =>
    rw [rs_succ, Nat.succ_mul, Rat.natCast_add]
    exact (ih fun i hi => h i (by omega)).add (h n (by omega))
/-- own plus what is behind -/
def an (c t : Nat → Rat) (n : Nat) : Rat := t n + ((List.range n).attach.map fun k => c k.1 * an c t (n - 1 - k.1)).sum
termination_by n
decreasing_by
  have := List.mem_range.mp k.2
  omega
theorem an_eq (c t : Nat → Rat) (n : Nat) : an c t n = t n + rs n (fun k => c k * an c t (n - 1 - k)) := by
  rw [an]
  congr 2
  exact List.attach_map_val (l := List.range n) (f := fun k => c k * an c t (n - 1 - k))
theorem an_wh {c t : Nat → Rat} {D E m : Nat} (hc : ∀ k, k < m → Wh D (c k)) (ht : ∀ k, k ≤ m → Wh E (t k)) : ∀ n, n ≤ m → Wh (E * D ^ n) (an c t n) := by
  intro n
  induction n using Nat.strongRecOn with
  | ind n ih =>
    intro hn
    rw [an_eq]
    refine ((ht n hn).up (Nat.dvd_mul_right _ _)).add (rs_wh fun k hk => ?_)
    have q := (hc k (by omega)).mul (ih (n - 1 - k) (by omega) (by omega))
    refine q.up ?_
    have e : D * (E * D ^ (n - 1 - k)) = E * D ^ (n - k) := by
      rw [show n - k = n - 1 - k + 1 by omega, Nat.pow_succ]
      simp only [Nat.mul_assoc, Nat.mul_left_comm, Nat.mul_comm]
    rw [e]
    exact Nat.mul_dvd_mul_left E (Nat.pow_dvd_pow D (by omega))
theorem an_ab {c t : Nat → Rat} {B M m : Nat} (hc : ∀ k, k < m → Ab 1 (c k)) (ht : ∀ k, k ≤ m → Ab (B : Rat) (t k)) (hM : m + 1 ≤ M) : ∀ n, n ≤ m → Ab ((B * M ^ n : Nat) : Rat) (an c t n) := by
  intro n
  induction n using Nat.strongRecOn with
  | ind n ih =>
    intro hn
    rw [an_eq]
    cases n with
    | zero =>
      rw [rs_zero, Nat.pow_zero, Nat.mul_one]
      have := ht 0 hn
      exact ⟨by have := this.1; grind, by have := this.2; grind⟩
    | succ n =>
      have q : ∀ k, k < n + 1 → Ab ((B * M ^ n : Nat) : Rat) (c k * an c t (n + 1 - 1 - k)) := fun k hk => by
        have a := (hc k (by omega)).mul (ih (n + 1 - 1 - k) (by omega) (by omega))
        have e : (1 : Rat) * ((B * M ^ (n + 1 - 1 - k) : Nat) : Rat) = ((B * M ^ (n + 1 - 1 - k) : Nat) : Rat) := by grind
        rw [e] at a
        exact a.up (Rat.natCast_le_natCast.mpr (Nat.mul_le_mul_left B (Nat.pow_le_pow_right (by omega) (by omega))))
      have r := (ht (n + 1) hn).add (rs_ab q)
      rw [← Rat.natCast_add] at r
      refine r.up (Rat.natCast_le_natCast.mpr ?_)
      have h1 : B ≤ B * M ^ n := Nat.le_mul_of_pos_right B (Nat.pow_pos (by omega))
      have h2 : (n + 1) * (B * M ^ n) + B * M ^ n ≤ B * M ^ (n + 1) := by
        have e : (n + 1) * (B * M ^ n) + B * M ^ n = (n + 2) * (B * M ^ n) := by rw [← Nat.succ_mul]
        have e2 : B * M ^ (n + 1) = M * (B * M ^ n) := by rw [Nat.pow_succ, ← Nat.mul_assoc, Nat.mul_comm]
        rw [e, e2]
        exact Nat.mul_le_mul_right _ (by omega)
      omega
theorem pairsD_range2 (ds : List PyData) (g : Nat → PyData) (h : ∀ i (hi : i < ds.length), ds[i] = g i) : pairsD ds = (List.range ds.length).map fun (i : Nat) => .tuple [.int (i : Nat), g i] := by
  unfold pairsD
  apply List.ext_getElem
  · simp
  · intro i h1 h2
    rw [List.getElem_mapIdx, List.getElem_map, List.getElem_range, h i (by simpa using h2)]
theorem at_range {n i : Nat} {g : Nat → PyData} (h : i < n) : atI ((List.range n).map g) (i : Int) = some (g i) := by
  rw [Dn.atI_nat, List.getElem?_map, List.getElem?_range h]
  rfl
def tg (ts : List Rat) (i : Nat) : Rat := ts.getD i 0
end Fp
namespace Fp
open PySem PySem.Spec L2 Dn
def pp (c : Nat → Rat) : Nat → Nat → Rat
  | 0, n => if n = 0 then 1 else 0
  | j + 1, m => rs m fun n => pp c j n * c (m - 1 - n)
/-- the row of one part more, while it is filled: i beats done -/
def mv (h c : Nat → Rat) (i m : Nat) : Rat := rs (min i m) fun n => h n * c (m - 1 - n)
theorem map_set {n j : Nat} {g : Nat → PyData} {x : PyData} (hj : j < n) : ((List.range n).map g).set j x = (List.range n).map fun m => if m = j then x else g m := by
  apply List.ext_getElem
  · simp
  · intro i h1 h2
    rw [List.getElem_set]
    simp
    by_cases e : j = i
    · subst e
      simp
    · rw [if_neg e, if_neg (fun z => e z.symm)]
end Fp
namespace Fp
open PySem PySem.Spec L2 Dn
end Fp
namespace Fp
open PySem PySem.Spec L2 Dn
theorem pow_two {D n k : Nat} (h : D ≤ 2 ^ 56) (hn : n ≤ k) : D ^ n ≤ 2 ^ (56 * k) := by
  have h1 : D ^ n ≤ (2 ^ 56) ^ n := Nat.pow_le_pow_left h n
  rw [← Nat.pow_mul] at h1
  exact Nat.le_trans h1 (Nat.pow_le_pow_right (by decide) (Nat.mul_le_mul_left 56 hn))
end Fp
namespace Fp
open PySem PySem.Spec L2 Dn
end Fp
namespace Fp
open PySem PySem.Spec L2 Dn
end Fp
namespace Fp
open PySem PySem.Spec L2 Dn
/-- a whole number comes of it by K to the n-th, it is at most 2 to the e-th -/
structure G (K n e : Nat) (x : Rat) : Prop where
  w : Wh (K ^ n) x
  a : Ab ((2 ^ e : Nat) : Rat) x
section
variable {K n m e d b l : Nat} {x y : Rat}
theorem G.up (h : G K n e x) (hn : n ≤ m) (he : e ≤ d) : G K m d x := ⟨h.w.up (Nat.pow_dvd_pow K hn), h.a.up (Rat.natCast_le_natCast.mpr (Nat.pow_le_pow_right (by decide) he))⟩
theorem G.mul (h : G K n e x) (k : G K m d y) : G K (n + m) (e + d) (x * y) := ⟨by rw [Nat.pow_add]; exact h.w.mul k.w, by rw [Nat.pow_add, Rat.natCast_mul]; exact h.a.mul k.a⟩
theorem two_more {e : Nat} : ((2 ^ (e + 1) : Nat) : Rat) = ((2 ^ e : Nat) : Rat) + ((2 ^ e : Nat) : Rat) := by
  rw [← Rat.natCast_add]
  congr 1
  rw [Nat.pow_succ]
  omega
theorem G.add (h : G K n e x) (k : G K n e y) : G K n (e + 1) (x + y) := ⟨h.w.add k.w, by rw [two_more]; exact h.a.add k.a⟩
theorem G.sub (h : G K n e x) (k : G K n e y) : G K n (e + 1) (x - y) := ⟨h.w.sub k.w, by rw [two_more]; exact h.a.sub k.a⟩
theorem sum_ab {B : Nat} : ∀ {xs : List Rat}, (∀ x ∈ xs, Ab (B : Rat) x) → Ab ((xs.length * B : Nat) : Rat) xs.sum
  | [], _ => by
    rw [List.sum_nil]
    exact ab_0 Rat.natCast_nonneg
  | x :: xs, h => by
    have a := (h x List.mem_cons_self).add (sum_ab fun y hy => h y (List.mem_cons_of_mem _ hy))
    rw [← Rat.natCast_add] at a
    rw [List.sum_cons, List.length_cons, Nat.add_mul, Nat.one_mul, Nat.add_comm]
    exact a
theorem G.sum {xs : List Rat} (h : ∀ x ∈ xs, G K n e x) (hl : xs.length ≤ 2 ^ l) : G K n (e + l) xs.sum :=
  ⟨sum_wh fun x hx => (h x hx).w, (sum_ab fun x hx => (h x hx).a).up (Rat.natCast_le_natCast.mpr (by rw [Nat.pow_add, Nat.mul_comm]; exact Nat.mul_le_mul_left _ hl))⟩
theorem G.rs {N : Nat} {g : Nat → Rat} (h : ∀ k, k < N → G K n e (g k)) (hl : N ≤ 2 ^ l) : G K n (e + l) (rs N g) := by
  refine G.sum (fun x hx => ?_) (by rw [List.length_map, List.length_range]; exact hl)
  obtain ⟨k, hk, rfl⟩ := List.mem_map.mp hx
  exact h k (List.mem_range.mp hk)
theorem pow_le_two (hK : K ≤ 2 ^ b) (n : Nat) : K ^ n ≤ 2 ^ (b * n) := by
  rw [Nat.pow_mul]
  exact Nat.pow_le_pow_left hK n
theorem g_size (hK : K ≤ 2 ^ b) (hb : b * n + e < m) : 2 ^ e * K ^ n < 2 ^ m := by
  have h1 := Nat.mul_le_mul_left (2 ^ e) (pow_le_two hK n)
  rw [← Nat.pow_add] at h1
  exact Nat.lt_of_le_of_lt h1 (Nat.pow_lt_pow_right (by decide) (by omega))
theorem G.szN {N : Nat} (h : G K n e x) (K0 : 0 < K) (hK : K ≤ 2 ^ b) (hb : b * n + e < N) : Sz N x := ab_sz (Nat.pow_pos K0) h.w h.a (Nat.pow_pos (by decide)) (g_size hK hb)
theorem G.sz (h : G K n e x) (K0 : 0 < K) (hK : K ≤ 2 ^ b) (hb : b * n + e < 4000) : Sz 4000 x := h.szN K0 hK hb
theorem G.of {D : Nat} (hw : Wh D x) (hd : D ∣ K) (h0 : 0 ≤ x) (h1 : x ≤ 1) : G K 1 0 x := ⟨by rw [Nat.pow_one]; exact hw.up hd, by rw [Nat.pow_zero]; exact ab_01 h0 h1⟩
theorem g_int {i : Int} (h : i.natAbs ≤ 2 ^ e) : G K n e (i : Rat) := by
  refine ⟨wh_int i, ?_, ?_⟩
  · rw [← Rat.intCast_natCast, ← Rat.intCast_neg]
    exact Rat.intCast_le_intCast.mpr (by omega)
  · rw [← Rat.intCast_natCast]
    exact Rat.intCast_le_intCast.mpr (by omega)
theorem g_nat {i : Nat} (h : i ≤ 2 ^ e) : G K n e (i : Rat) := g_int (i := i) (by rw [Int.natAbs_natCast]; exact h)
theorem g_1 : G K n e 1 := g_int (i := 1) (Nat.pow_pos (by decide))
theorem sz_int {i : Int} (h : i.natAbs < 2 ^ 3900) : Sz 4000 (i : Rat) := by
  refine ⟨?_, ?_⟩
  · rw [Rat.num_intCast]
    exact Nat.lt_trans h (by decide)
  · rw [Rat.den_intCast]
    decide
theorem sz_1 : Sz 4000 1 := sz_int (i := 1) (by decide)
end
section
variable {K n e b : Nat} {x y : Rat} {f : Feed}
theorem summed_d {d0 : PyData} {D B L : Nat} {xs : List Rat} {f : Feed} (hd : seqOf d0 = some (xs.map enc)) (hD : 0 < D) (hB : 0 < B) (hw : ∀ x ∈ xs, Wh D x) (hb : ∀ x ∈ xs, Ab (B : Rat) x) (hL : xs.length ≤ L) (hs : B * (L + 1) * D < 2 ^ 4000) : F_summed [.dat d0] f = .ok (.dat (enc xs.sum)) f := by
  apply ev_is
  rw [u_summed, ev_dEnd]
  unfold S_summed
  simp [hd]
  refine ev_forT (I := fun (rest : List Rat) ρ g => g = f ∧ ∃ (acc : Rat) (k : Nat) (s2 : Slot), ρ = [.dat d0, .dat (enc acc), s2] ∧ acc + rest.sum = xs.sum ∧ Wh D acc ∧ Ab ((B * k : Nat) : Rat) acc ∧ k + rest.length ≤ L ∧ (∀ x ∈ rest, Wh D x ∧ Ab (B : Rat) x)) ?_ ?_ xs _ f ⟨rfl, 0, 0, .emp, rfl, by grind, wh_0, ab_0 Rat.natCast_nonneg, by omega, fun x hx => ⟨hw x hx, hb x hx⟩⟩
  · rintro x rest ρ g ⟨rfl, acc, k, s2, rfl, e, w, a, l, h⟩
    obtain ⟨hx1, hx2⟩ := h x List.mem_cons_self
    rw [List.length_cons] at l
    rw [List.sum_cons] at e
    have hm : ∀ j, j ≤ L → (B * (j + 1)) * D < 2 ^ 4000 := fun j hj => Nat.lt_of_le_of_lt (Nat.mul_le_mul_right D (Nat.mul_le_mul_left B (by omega))) hs
    have s1 : Sz 4000 acc := ab_sz hD w (a.up (Rat.natCast_le_natCast.mpr (Nat.mul_le_mul_left B (Nat.le_succ k)))) (Nat.mul_pos hB (Nat.succ_pos k)) (hm k (by omega))
    have s2 : Sz 4000 x := ab_sz hD hx1 hx2 hB (by have := hm 0 (by omega); rwa [Nat.zero_add, Nat.mul_one] at this)
    have p := plus_q (f := g) s1 s2 (Nat.le_refl _)
    refine ⟨_, rfl, ?_⟩
    simp [p]
    refine ⟨acc + x, rfl, by grind, w.add hx1, k + 1, ?_, by omega, fun y hy => h y (List.mem_cons_of_mem _ hy)⟩
    have := a.add hx2
    rw [← Rat.natCast_add] at this
    rw [← Rat.natCast_mul, Nat.mul_succ]
    exact this
  · rintro ρ g ⟨rfl, acc, k, s2, rfl, e, w, a, l, h⟩
    simp
    rw [List.sum_nil] at e
    have : acc = xs.sum := by grind
    rw [this]
theorem summed_gd {d0 : PyData} {xs : List Rat} (hd : seqOf d0 = some (xs.map enc)) (h : ∀ x ∈ xs, G K n e x) (K0 : 0 < K) (hK : K ≤ 2 ^ b) (hl : xs.length ≤ 63) (hb : b * n + e + 6 < 4000) : F_summed [.dat d0] f = .ok (.dat (enc xs.sum)) f :=
  summed_d (D := K ^ n) (B := 2 ^ e) (L := 63) hd (Nat.pow_pos K0) (Nat.pow_pos (by decide)) (fun x hx => (h x hx).w) (fun x hx => (h x hx).a) hl (by
    rw [show 2 ^ e * (63 + 1) = 2 ^ (e + 6) by rw [Nat.pow_add]]
    exact g_size hK hb)
theorem summed_g {xs : List Rat} (h : ∀ x ∈ xs, G K n e x) (K0 : 0 < K) (hK : K ≤ 2 ^ b) (hl : xs.length ≤ 63) (hb : b * n + e + 6 < 4000) : F_summed [.dat (.list (xs.map enc))] f = .ok (.dat (enc xs.sum)) f :=
  summed_q (D := K ^ n) (B := 2 ^ e) (L := 63) (Nat.pow_pos K0) (Nat.pow_pos (by decide)) (fun x hx => (h x hx).w) (fun x hx => (h x hx).a) hl (by
    rw [show 2 ^ e * (63 + 1) = 2 ^ (e + 6) by rw [Nat.pow_add]]
    exact g_size hK hb)
theorem summed_r {N : Nat} {g : Nat → Rat} (h : ∀ k, k < N → G K n e (g k)) (K0 : 0 < K) (hK : K ≤ 2 ^ b) (hl : N ≤ 63) (hb : b * n + e + 6 < 4000) : F_summed [.dat (.list ((List.range N).map fun k => enc (g k)))] f = .ok (.dat (enc (rs N g))) f := by
  have q := summed_g (f := f) (xs := (List.range N).map g) (fun x hx => by
    obtain ⟨k, hk, rfl⟩ := List.mem_map.mp hx
    exact h k (List.mem_range.mp hk)) K0 hK (by rw [List.length_map, List.length_range]; exact hl) hb
  rw [List.map_map] at q
  exact q
theorem sub_size (hx : Sz 4000 x) (hy : Sz 4000 y) : (x.num * y.den - y.num * x.den).natAbs < 2 ^ 8500 ∧ x.den * y.den < 2 ^ 8500 := by
  have b1 := prod_lt hx.num hy.den (Nat.le_refl _)
  have b2 := prod_lt hy.num hx.den (Nat.le_refl _)
  have b3 := prod_lt hx.den hy.den (Nat.le_refl _)
  have k : (2 : Nat) ^ 8000 + 2 ^ 8000 ≤ 2 ^ 8500 := by decide
  have a1 : (x.num * y.den).natAbs = x.num.natAbs * y.den := by rw [Int.natAbs_mul, Int.natAbs_natCast]
  have a2 : (y.num * x.den).natAbs = y.num.natAbs * x.den := by rw [Int.natAbs_mul, Int.natAbs_natCast]
  have a3 := Int.natAbs_sub_le (x.num * y.den) (y.num * x.den)
  exact ⟨by omega, by omega⟩
theorem minus_q (hx : Sz 4000 x) (hy : Sz 4000 y) : F_minus [.dat (enc x), .dat (enc y)] f = .ok (.dat (enc (x - y))) f := by
  have m1 : oMul (.int x.num) (.int (y.den : Nat)) = some (.dat (.int (x.num * y.den))) := oMul_int (mulC_sz hx.num (by rw [Int.natAbs_natCast]; exact hy.den) (Nat.le_refl _))
  have m2 : oMul (.int y.num) (.int (x.den : Nat)) = some (.dat (.int (y.num * x.den))) := oMul_int (mulC_sz hy.num (by rw [Int.natAbs_natCast]; exact hx.den) (Nat.le_refl _))
  have m3 : oMul (.int (x.den : Nat)) (.int (y.den : Nat)) = some (.dat (.int (x.den * y.den))) := oMul_int (mulC_sz (by rw [Int.natAbs_natCast]; exact hx.den) (by rw [Int.natAbs_natCast]; exact hy.den) (Nat.le_refl _))
  have s := sub_size hx hy
  have r1 := ratio_big (f := f) (Nat.mul_pos x.den_pos y.den_pos) s.1 s.2
  rw [Int.natCast_mul, sub_eq] at r1
  apply ev_is
  rw [u_minus, ev_dEnd]
  unfold S_minus enc
  simp [m1, m2, m3]
  exact ⟨_, f, r1, by simp [enc]⟩
theorem num_pos {y : Rat} (h : 0 < y) : 0 < y.num := by
  have d : (0 : Rat) < (y.den : Rat) := Rat.natCast_pos.mpr y.den_pos
  have e := mul_den y
  have : (0 : Rat) < (y.num : Rat) := by
    rw [← e]
    exact Rat.mul_pos h d
  exact Rat.intCast_lt_intCast.mp (show ((0 : Int) : Rat) < (y.num : Rat) from this)
theorem div_eq {x y : Rat} (h : 0 < y) : mkRat (x.num * y.den) (x.den * y.num.toNat) = x / y := by
  have hn := num_pos h
  have e : ((y.num.toNat : Nat) : Rat) = (y.num : Rat) := by
    rw [← Rat.intCast_natCast, Int.toNat_of_nonneg (by omega)]
  rw [Rat.mkRat_eq_div, Rat.natCast_mul, Rat.intCast_mul, Rat.intCast_natCast, e, ← mul_den x, ← mul_den y]
  have a := cast_ne x.den_pos
  have b := cast_ne y.den_pos
  have c : y ≠ 0 := by grind
  grind
theorem over_q (hx : Sz 4000 x) (hy : Sz 4000 y) (h0 : 0 < y) : F_over [.dat (enc x), .dat (enc y)] f = .ok (.dat (enc (x / y))) f := by
  have hn := num_pos h0
  have m1 : oMul (.int x.num) (.int (y.den : Nat)) = some (.dat (.int (x.num * y.den))) := oMul_int (mulC_sz hx.num (by rw [Int.natAbs_natCast]; exact hy.den) (Nat.le_refl _))
  have m3 : oMul (.int (x.den : Nat)) (.int y.num) = some (.dat (.int (x.den * y.num))) := oMul_int (mulC_sz (by rw [Int.natAbs_natCast]; exact hx.den) hy.num (Nat.le_refl _))
  have e : (x.den * y.num : Int) = ((x.den * y.num.toNat : Nat) : Int) := by
    rw [Int.natCast_mul, Int.toNat_of_nonneg (by omega)]
  have b1 := prod_lt hx.num hy.den (Nat.le_refl _)
  have b3 := prod_lt hx.den hy.num (Nat.le_refl _)
  have k : (2 : Nat) ^ 8000 ≤ 2 ^ 8500 := by decide
  have e2 : y.num.toNat = y.num.natAbs := by omega
  have r1 := ratio_big (f := f) (p := x.num * y.den) (q := x.den * y.num.toNat) (Nat.mul_pos x.den_pos (by omega)) (by rw [Int.natAbs_mul, Int.natAbs_natCast]; omega) (by rw [e2]; omega)
  rw [div_eq h0] at r1
  rw [e] at m3
  apply ev_is
  rw [u_over, ev_dEnd]
  unfold S_over
  rw [show enc x = .tuple [.int x.num, .int (x.den : Nat)] from rfl, show enc y = .tuple [.int y.num, .int (y.den : Nat)] from rfl]
  simp only [e_ret, e_Call, e_Vals_cons, e_Vals_nil, e_Bin, e_V, e_C, e_fnSlot_dat, List.getElem?_cons_succ, List.getElem?_cons_zero, pk_ok_dat, e_ix_tuple, e_at0, e_at1, Option.map_some, give_some, m1, m3, bind_ok, e_arg_dat, r1, ev_ok, retP_rt, e_up_dat]
  exact ⟨trivial, trivial⟩
theorem sz_div {a c : Nat} (hx : Sz a x) (hy : Sz c y) (h0 : 0 < y) : Sz (a + c) (x / y) := by
  have hn := num_pos h0
  have e2 : y.num.toNat = y.num.natAbs := by omega
  rw [← div_eq h0]
  have q0 : 0 < x.den * y.num.toNat := Nat.mul_pos x.den_pos (by omega)
  have l1 : x.num.natAbs * y.den < 2 ^ (a + c) := by
    rw [Nat.pow_add]
    exact Nat.mul_lt_mul_of_lt_of_lt hx.num hy.den
  have l2 : x.den * y.num.toNat < 2 ^ (a + c) := by
    rw [Nat.pow_add, e2]
    exact Nat.mul_lt_mul_of_lt_of_lt hx.den hy.num
  refine ⟨?_, ?_⟩
  · rw [Rat.num_mkRat, if_neg (by omega), Int.natAbs_ediv_of_dvd (Int.ofNat_dvd_left.mpr (Nat.gcd_dvd_right _ _)), Int.natAbs_mul, Int.natAbs_natCast]
    exact Nat.lt_of_le_of_lt (Nat.div_le_self _ _) l1
  · rw [Rat.den_mkRat, if_neg (by omega)]
    exact Nat.lt_of_le_of_lt (Nat.div_le_self _ _) l2
end
@[simp] theorem ix_enc0 {x : Rat} : oIx (enc x) (.int 0) = some (.dat (.int x.num)) := nr rfl
@[simp] theorem ix_enc1 {x : Rat} : oIx (enc x) (.int 1) = some (.dat (.int (x.den : Nat))) := nr rfl
theorem nicel_range {N : Nat} {g : Nat → Rat} (h : ∀ k, k < N → Sz 1850 (g k)) : NiceL (N * 3) 1 ((List.range N).map fun k => enc (g k)) := by
  have h1 : NiceL (((List.range N).map fun k => enc (g k)).length * 3) 1 ((List.range N).map fun k => enc (g k)) := niceL_of fun d hd => by
    obtain ⟨k, hk, rfl⟩ := List.mem_map.mp hd
    exact nice_enc (h k (List.mem_range.mp hk)) (Nat.le_refl _)
  rwa [List.length_map, List.length_range] at h1
theorem oRepr_of {d : PyData} (h : Dn.shows d = true) : oRepr d = some (.dat (.str d.shown)) := by
  unfold oRepr
  rw [if_pos h]
theorem fd0 (ns : List Int) : Fd 0 (feed0 ns) := ⟨Int.le_refl 0, Int.le_refl 0, Int.le_refl 0, Int.le_refl 0⟩
end Fp
namespace Fp
open PySem PySem.Spec L2 Dn
/-- a triple: a stretch, the kind that comes next, a chance -/
structure Tri where
  st : Nat
  nx : Nat
  c : Rat
def triD (t : Tri) : PyData := .tuple [.int t.st, .int t.nx, enc t.c]
def kindD (k : List Tri) : PyData := .tuple (k.map triD)
def kindsD (ks : List (List Tri)) : PyData := .tuple (ks.map kindD)
def TLt (s t : Tri) : Prop := s.st < t.st ∨ (s.st = t.st ∧ s.nx < t.nx)
/-- a kind among n, its chances whole by W -/
structure KdOk (n W : Nat) (k : List Tri) : Prop where
  W0 : 0 < W
  len : k.length ≤ 24
  st : ∀ t ∈ k, 1 ≤ t.st ∧ t.st ≤ 6 ∧ t.nx < n
  c : ∀ t ∈ k, Wh W t.c ∧ 0 < t.c ∧ t.c ≤ 1
  sum : (k.map (·.c)).sum ≤ 1
  rise : k.Pairwise TLt
theorem KdOk.up {n W V : Nat} {k : List Tri} (h : KdOk n W k) (d : W ∣ V) (V0 : 0 < V) : KdOk n V k :=
  ⟨V0, h.len, h.st, fun t ht => ⟨(h.c t ht).1.up d, (h.c t ht).2⟩, h.sum, h.rise⟩
structure KsOk (W : Nat) (ks : List (List Tri)) : Prop where
  n1 : 1 ≤ ks.length
  n4 : ks.length ≤ 4
  W0 : 0 < W
  ok : ∀ k ∈ ks, KdOk ks.length W k
  own : ∀ k ∈ ks, ∃ V, V ≤ 200 ∧ KdOk ks.length V k
abbrev Mk3 := Nat × Nat × Nat
def keyI (x : Mk3) : List Int := [(x.1 : Int), (x.2.1 : Int)]
def markI (x : Mk3) : List Int × PyData := (keyI x, .int (x.2.2 : Nat))
theorem map_of {α β : Type} {f : α → β} {P : α → Prop} : ∀ {l : List β}, (∀ p ∈ l, ∃ x, p = f x ∧ P x) → ∃ ws : List α, l = ws.map f ∧ ∀ x ∈ ws, P x
  | [], _ => ⟨[], rfl, fun x h => by cases h⟩
  | p :: r, h => by
    obtain ⟨ws, e, q⟩ := map_of fun y hy => h y (List.mem_cons_of_mem _ hy)
    obtain ⟨x, rfl, px⟩ := h p List.mem_cons_self
    refine ⟨x :: ws, by rw [e]; rfl, fun y hy => ?_⟩
    rcases List.mem_cons.mp hy with rfl | hy
    · exact px
    · exact q y hy
theorem lex2 {a b c d : Int} : HT.lexLt [a, b] [c, d] = if a = c then (if b = d then false else decide (b < d)) else decide (a < c) := by
  rw [HT.lexLt_cons, HT.lexLt_cons]
  rfl
theorem sort_marks (ws : List Mk3) (hn : (ws.map keyI).Nodup) : ∃ vs : List Mk3, vs.Perm ws ∧ sortL (ws.map keyI) = vs.map keyI ∧ vs.Pairwise fun x y => x.1 < y.1 ∨ (x.1 = y.1 ∧ x.2.1 < y.2.1) := by
  have s : (ws.mergeSort fun x y => lexLe (keyI x) (keyI y)).Pairwise fun x y => lexLe (keyI x) (keyI y) = true :=
    List.pairwise_mergeSort (fun a b c => lexLe_trans (keyI a) (keyI b) (keyI c)) (fun a b => lexLe_total (keyI a) (keyI b)) ws
  have p : (ws.mergeSort fun x y => lexLe (keyI x) (keyI y)).Perm ws := List.mergeSort_perm ws _
  generalize (ws.mergeSort fun x y => lexLe (keyI x) (keyI y)) = vs at s p
  have s2 : Srt (vs.map keyI) := List.pairwise_map.mpr (s.imp fun {a b} h => by
    unfold lexLe at h
    simpa using h)
  refine ⟨vs, p, sortL_is s2 (p.map keyI), ?_⟩
  have nd : (vs.map keyI).Nodup := (p.map keyI).nodup_iff.mpr hn
  have nd2 : vs.Pairwise fun x y => keyI x ≠ keyI y := List.pairwise_map.mp nd
  refine ((List.pairwise_map.mp s2).and nd2).imp fun {x y} h => ?_
  obtain ⟨h1, h2⟩ := h
  unfold keyI at h1 h2
  rw [lex2] at h1
  simp only [ne_eq, List.cons.injEq, and_true, Int.natCast_inj] at h2
  split at h1
  · rename_i e
    split at h1
    · exact absurd ⟨by omega, by omega⟩ h2
    · have := of_decide_eq_false h1
      exact .inr ⟨by omega, by omega⟩
  · have := of_decide_eq_false h1
    exact .inl (by omega)
theorem perm_sumK {l m : List Rat} (h : l.Perm m) : l.sum = m.sum := by
  induction h with
  | nil => rfl
  | cons x _ ih => rw [List.sum_cons, List.sum_cons, ih]
  | swap x y l =>
    rw [List.sum_cons, List.sum_cons, List.sum_cons, List.sum_cons]
    grind
  | trans _ _ a b => exact a.trans b
def triM (T : Nat) (x : Mk3) : Tri := ⟨x.1, x.2.1, mkRat (x.2.2 : Nat) T⟩
theorem sum_mk1 {W : Nat} (W0 : 0 < W) (us : List Nat) : (us.map fun (w : Nat) => mkRat (w : Nat) W).sum * (W : Rat) = (us.sum : Nat) := by
  have := sum_mk (B := 1) W0 us
  simpa using this
theorem mk_pos {W i : Nat} (hW : 0 < W) (h : 0 < i) : 0 < mkRat (i : Nat) W := by
  have h1 := (frac01 (W := max W i) (i := i) (by omega) (by omega)).1
  have e : mkRat (i : Nat) W * (W : Rat) = (i : Rat) := mk_mul (i := i) hW
  have hW2 : (0 : Rat) < W := Rat.natCast_pos.mpr hW
  have hi : (0 : Rat) < i := Rat.natCast_pos.mpr h
  apply Rat.not_le.mp
  intro z
  have : mkRat (i : Nat) W * (W : Rat) ≤ 0 * W := Rat.mul_le_mul_of_nonneg_right z (by grind)
  grind
/-- marks, sorted, by their whole -/
theorem marks_kind {n T : Nat} {ws : List Mk3} (hn : (ws.map keyI).Nodup) (hl : ws.length ≤ 24) (hb : ∀ x ∈ ws, 1 ≤ x.1 ∧ x.1 ≤ 6 ∧ x.2.1 < n ∧ 1 ≤ x.2.2) (T0 : 0 < T) (hT : (ws.map (·.2.2)).sum ≤ T) :
    ∃ vs : List Mk3, sortL (ws.map keyI) = vs.map keyI ∧ vs.Perm ws ∧ KdOk n T (vs.map (triM T)) ∧ ((ws.map (·.2.2)).sum = T → ((vs.map (triM T)).map (·.c)).sum = 1) := by
  obtain ⟨vs, p, e, r⟩ := sort_marks ws hn
  have hs : ((vs.map (triM T)).map (·.c)).sum * (T : Rat) = ((ws.map (·.2.2)).sum : Nat) := by
    rw [← sum_mk1 T0, List.map_map, List.map_map]
    congr 1
    exact perm_sumK (p.map _)
  have hT2 : (0 : Rat) < T := Rat.natCast_pos.mpr T0
  have hTn : (T : Rat) ≠ 0 := by grind
  refine ⟨vs, e, p, ⟨T0, by rw [List.length_map, p.length_eq]; exact hl, fun t ht => ?_, fun t ht => ?_, ?_, List.pairwise_map.mpr (r.imp fun {x y} h => h)⟩, fun h => ?_⟩
  · obtain ⟨x, hx, rfl⟩ := List.mem_map.mp ht
    obtain ⟨h1, h2, h3, _⟩ := hb x (p.mem_iff.mp hx)
    exact ⟨h1, h2, h3⟩
  · obtain ⟨x, hx, rfl⟩ := List.mem_map.mp ht
    have hx2 := p.mem_iff.mp hx
    obtain ⟨_, _, _, h4⟩ := hb x hx2
    have h5 : x.2.2 ≤ T := Nat.le_trans (mem_le_sum (List.mem_map.mpr ⟨x, hx2, rfl⟩)) hT
    exact ⟨wh_mk T0, mk_pos T0 (by omega), (frac01 T0 h5).2⟩
  · have h1 : (((ws.map (·.2.2)).sum : Nat) : Rat) ≤ T := Rat.natCast_le_natCast.mpr hT
    apply Rat.not_lt.mp
    intro z
    have := Rat.mul_lt_mul_of_pos_right z hT2
    grind
  · rw [h] at hs
    have : (((vs.map (triM T)).map (·.c)).sum - 1) * (T : Rat) = 0 := by grind
    rcases Rat.mul_eq_zero.mp this with h | h
    · grind
    · exact absurd h hTn
end Fp
namespace Fp
open PySem PySem.Spec L2 Dn
theorem following_ok {t : Int} {f : Feed} {way k n : Int} (hF : Fd t f) (ht : t < 2 ^ 39) (k0 : 0 ≤ k) (kn : k < n) (n4 : n ≤ 4) : Ev (F_q_following [.feed, .dat (.int way), .dat (.int k), .dat (.int n)] f) (Drawn t n) := by
  rw [u_q_following, ev_dEnd]
  unfold S_q_following
  have m1 := oMod_int (x := k + 1) (y := n) (by omega)
  have d1 := oDiv_int (x := k) (y := 2) (by decide) (by decide)
  have hk : (k / 2).natAbs < 2 ^ 10 := by omega
  have u1 := oMul_int (x := k / 2) (y := 2) (mulC_small (k := 10) (l := 10) hk (by decide) (by decide))
  simp [m1, d1, u1, ev_ite]
  refine ⟨fun _ => ⟨_, rfl, Int.emod_nonneg _ (by omega), Int.emod_lt_of_pos _ (by omega), hF.up (by omega)⟩, fun _ => ⟨fun _ => ⟨_, rfl, k0, kn, hF.up (by omega)⟩, fun _ => ⟨fun _ => ?_, fun _ => ⟨fun _ => ?_, fun _ => ?_⟩⟩⟩⟩
  · refine Ev.drawn (draw_v3_ok (by decide) (by decide) hF (by omega)) fun a g a0 a1 hF1 => ?_
    simp
    exact ⟨_, rfl, by omega, by omega, hF1⟩
  · refine Ev.mono (draw_v3_ok (s := k + 1) (by omega) (by omega) hF (by omega)) ?_
    rintro _ g ⟨i, rfl, i0, i1, hF1⟩
    exact ⟨_, rfl, i0, by omega, hF1⟩
  · refine Ev.mono (draw_v3_ok (s := n) (by omega) (by omega) hF (by omega)) ?_
    rintro _ g ⟨i, rfl, i0, i1, hF1⟩
    exact ⟨_, rfl, i0, by omega, hF1⟩
/-- marks as they grow -/
structure MOk (n m : Nat) (kvs : List (List Int × PyData)) : Prop where
  nd : (kvs.map (·.1)).Nodup
  len : kvs.length ≤ m
  at' : ∀ p ∈ kvs, ∃ x : Mk3, p = markI x ∧ 1 ≤ x.1 ∧ x.1 ≤ 6 ∧ x.2.1 < n ∧ 1 ≤ x.2.2 ∧ x.2.2 ≤ 9
theorem MOk.put {n m : Nat} {kvs : List (List Int × PyData)} (h : MOk n m kvs) {x : Mk3} (h1 : 1 ≤ x.1) (h2 : x.1 ≤ 6) (h3 : x.2.1 < n) (h4 : 1 ≤ x.2.2) (h5 : x.2.2 ≤ 9) : MOk n (m + 1) (setK kvs (keyI x) (.int (x.2.2 : Nat))) where
  nd := setK_nodup _ _ h.nd
  len := Nat.le_trans (setK_len _ _ _) (Nat.succ_le_succ h.len)
  at' := fun p hp => by
    rcases setK_mem hp with hp | rfl
    · exact h.at' p hp
    · exact ⟨x, rfl, h1, h2, h3, h4, h5⟩
theorem sum_le_len {b : Nat} : ∀ {l : List Nat}, (∀ x ∈ l, x ≤ b) → l.sum ≤ l.length * b
  | [], _ => by simp
  | a :: r, h => by
    have := sum_le_len fun x hx => h x (List.mem_cons_of_mem _ hx)
    have := h a List.mem_cons_self
    rw [List.sum_cons, List.length_cons, Nat.succ_mul]
    omega
/-- the kind that marks tell -/
theorem MOk.kind {n m lack : Nat} {kvs : List (List Int × PyData)} (h : MOk n m kvs) (m4 : m ≤ 4) (hl : lack ≤ 9) (h0 : kvs ≠ [] ∨ 0 < lack) :
    ∃ (T : Nat) (vs : List Mk3), 0 < T ∧ T ≤ 45 ∧ oSum (.list (kvs.map (·.2))) = some (.dat (.int ((T : Int) - lack))) ∧ sortL (kvs.map (·.1)) = vs.map keyI ∧ (∀ x ∈ vs, getK kvs (keyI x) = some (.int (x.2.2 : Nat))) ∧ vs.length ≤ 4 ∧ KdOk n T (vs.map (triM T)) ∧ (lack = 0 → ((vs.map (triM T)).map (·.c)).sum = 1) := by
  obtain ⟨ws, e, hw⟩ := map_of h.at'
  subst e
  have k1 : (ws.map markI).map (·.1) = ws.map keyI := by
    rw [List.map_map]
    rfl
  have k2 : (ws.map markI).map (·.2) = (ws.map (·.2.2)).map fun (w : Nat) => PyData.int w := by
    rw [List.map_map, List.map_map]
    rfl
  have hn := h.nd
  rw [k1] at hn
  have hlen : ws.length ≤ 4 := by
    have := h.len
    rw [List.length_map] at this
    omega
  have hs9 : (ws.map (·.2.2)).sum ≤ 36 := by
    have := sum_le_len (b := 9) (l := ws.map (·.2.2)) fun x hx => by
      obtain ⟨y, hy, rfl⟩ := List.mem_map.mp hx
      exact (hw y hy).2.2.2.2
    rw [List.length_map] at this
    omega
  have T0 : 0 < (ws.map (·.2.2)).sum + lack := by
    rcases h0 with h0 | h0
    · cases ws with
      | nil => exact absurd rfl h0
      | cons a r =>
        have := (hw a List.mem_cons_self).2.2.2.1
        rw [List.map_cons, List.sum_cons]
        omega
    · omega
  obtain ⟨vs, e1, e2, e3, e4⟩ := marks_kind hn (by omega) (fun x hx => ⟨(hw x hx).1, (hw x hx).2.1, (hw x hx).2.2.1, (hw x hx).2.2.2.1⟩) T0 (Nat.le_add_right _ _)
  refine ⟨(ws.map (·.2.2)).sum + lack, vs, T0, by omega, ?_, by rw [k1, e1], fun x hx => ?_, by rw [e2.length_eq]; exact hlen, e3, fun z => e4 (by omega)⟩
  · rw [k2, oSum_nats]
    congr 3
    omega
  · exact getK_of_mem (p := markI x) h.nd (List.mem_map.mpr ⟨x, e2.mem_iff.mp hx, rfl⟩)
theorem setK_ne {kvs : List (List Int × PyData)} {x : List Int} {d : PyData} : setK kvs x d ≠ [] := fun z => by
  have := setK_get kvs x x d
  rw [z, if_pos rfl] at this
  cases this
def fullK (k : List Tri) : Prop := (k.map (·.c)).sum = 1
/-- kinds so far -/
structure SoFar (n i : Nat) (full : Bool) (ks : List (List Tri)) : Prop where
  len : ks.length = i
  W : ∃ W, 0 < W ∧ W ≤ 200 ^ i ∧ ∀ k ∈ ks, KdOk n W k
  full : full = true → ∀ k ∈ ks, fullK k
  own : ∀ k ∈ ks, ∃ V, V ≤ 200 ∧ KdOk n V k
theorem SoFar.nil {n : Nat} {full : Bool} : SoFar n 0 full [] := ⟨rfl, ⟨1, by decide, by decide, fun k h => (by cases h)⟩, fun _ k h => (by cases h), fun k h => (by cases h)⟩
theorem SoFar.snoc {n i T : Nat} {full : Bool} {ks : List (List Tri)} {k : List Tri} (h : SoFar n i full ks) (hk : KdOk n T k) (hT : T ≤ 200) (hf : full = true → fullK k) : SoFar n (i + 1) full (ks ++ [k]) := by
  obtain ⟨W, W0, W1, w⟩ := h.W
  refine ⟨by rw [List.length_append, h.len]; rfl, ⟨W * T, Nat.mul_pos W0 hk.W0, ?_, fun l hl => ?_⟩, fun z l hl => ?_, fun l hl => ?_⟩
  · rw [Nat.pow_succ]
    exact Nat.mul_le_mul W1 hT
  · rcases List.mem_append.mp hl with hl | hl
    · exact (w l hl).up (Nat.dvd_mul_right _ _) (Nat.mul_pos W0 hk.W0)
    · rw [List.mem_singleton] at hl
      subst hl
      exact hk.up (Nat.dvd_mul_left _ _) (Nat.mul_pos W0 hk.W0)
  · rcases List.mem_append.mp hl with hl | hl
    · exact h.full z l hl
    · rw [List.mem_singleton] at hl
      subst hl
      exact hf z
  · rcases List.mem_append.mp hl with hl | hl
    · exact h.own l hl
    · rw [List.mem_singleton] at hl
      subst hl
      exact ⟨T, hT, hk⟩
theorem SoFar.all {n : Nat} {full : Bool} {ks : List (List Tri)} (h : SoFar n n full ks) (n1 : 1 ≤ n) (n4 : n ≤ 4) : ∃ W, W ≤ 2 ^ 31 ∧ KsOk W ks := by
  obtain ⟨W, W0, W1, w⟩ := h.W
  have : 200 ^ n ≤ 200 ^ 4 := Nat.pow_le_pow_right (by decide) n4
  exact ⟨W, by omega, by rw [h.len]; exact n1, by rw [h.len]; exact n4, W0, by rw [h.len]; exact w, by rw [h.len]; exact h.own⟩
theorem kinds_ok {t : Int} {f : Feed} {n : Nat} {full : Bool} (hF : Fd t f) (ht : t < 2 ^ 30) (t0 : 0 ≤ t) (n1 : 1 ≤ n) (n4 : n ≤ 4) : Ev (F_q_kinds [.feed, .dat (.int n), .dat (.bool full)] f) fun rv g => ∃ ks W, rv = .dat (kindsD ks) ∧ KsOk W ks ∧ W ≤ 2 ^ 31 ∧ ks.length = n ∧ (full = true → ∀ k ∈ ks, fullK k) ∧ Fd (t + 70) g := by
  rw [u_q_kinds, ev_dEnd]
  unfold S_q_kinds
  simp
  refine Ev.drawnE (draw_v3_ok (by decide) (by decide) hF (by omega)) fun way f1 way0 way1 hF1 => ?_
  simp [smallI_ok (n := (n : Int)) (by omega) (by omega)]
  refine ev_for (I := fun i ρ g => Fd (t + 1 + 15 * i) g ∧ ∃ ks s5 s6 s7 s8 s9 s10, SoFar n i full ks ∧ ρ = [.feed, .dat (.int n), .dat (.bool full), .dat (.int way), .own (ks.map kindD), s5, s6, s7, s8, s9, s10]) ⟨by simpa using hF1, [], _, _, _, _, _, _, SoFar.nil, rfl⟩ ?_ ?_
  · rintro k d ρ g hd ⟨hG, ks, s5, s6, s7, s8, s9, s10, hs, rfl⟩
    obtain ⟨rfl, hk⟩ := range_at hd
    refine ⟨_, rfl, ?_⟩
    simp
    refine Ev.drawn (draw_v3_ok (by decide) (by decide) hG (by omega)) fun c g1 c0 c5 hG1 => ?_
    obtain ⟨l0, hl0, el0⟩ : ∃ l : Nat, l ≤ 9 ∧ atI [PyData.int 0, PyData.int 0, PyData.int 1, PyData.int 5, PyData.int 9] c = some (.int l) := by
      obtain rfl | rfl | rfl | rfl | rfl : c = 0 ∨ c = 1 ∨ c = 2 ∨ c = 3 ∨ c = 4 := by omega
      · exact ⟨0, by decide, rfl⟩
      · exact ⟨0, by decide, rfl⟩
      · exact ⟨1, by decide, rfl⟩
      · exact ⟨5, by decide, rfl⟩
      · exact ⟨9, by decide, rfl⟩
    obtain ⟨lack, hl, elack, lf⟩ : ∃ lack : Nat, lack ≤ 9 ∧ oMul (.int l0) (.int (if full = false then 1 else 0)) = some (.dat (.int lack)) ∧ (full = true → lack = 0) := by
      cases full with
      | true => exact ⟨0, by decide, by rw [oMul_int (mulC_small (k := 10) (l := 10) (by omega) (by decide) (by decide))]; simp, fun _ => rfl⟩
      | false => exact ⟨l0, hl0, by rw [oMul_int (mulC_small (k := 10) (l := 10) (by omega) (by decide) (by decide))]; simp, fun z => by cases z⟩
    simp [el0, elack]
    refine Ev.drawn (draw_v3_ok (by decide) (by decide) hG1 (by omega)) fun m g2 m0 m4 hG2 => ?_
    simp [smallI_ok (n := 1 + m) (by omega) (by omega)]
    refine ev_for (I := fun i ρ g => Fd (t + 1 + 15 * k + 2 + 3 * i) g ∧ ∃ kvs s8 s9, MOk n i kvs ∧ (0 < i → kvs ≠ []) ∧ ρ = [.feed, .dat (.int n), .dat (.bool full), .dat (.int way), .own (ks.map kindD), .dat (.int k), .dct (.T kvs), .dat (.int lack), s8, s9, s10]) ⟨hG2.up (by omega), [], _, _, ⟨List.Pairwise.nil, Nat.le_refl 0, fun p hp => by cases hp⟩, fun z => by omega, rfl⟩ ?_ ?_
    · rintro i d ρ g hd ⟨hH, kvs, s8, s9, hm, hne, rfl⟩
      obtain ⟨rfl, hi⟩ := range_at hd
      refine ⟨_, rfl, ?_⟩
      simp
      refine Ev.drawn (draw_v3_ok (by decide) (by decide) hH (by omega)) fun a g3 a0 a6 hH3 => ?_
      simp
      refine Ev.drawnD (following_ok hH3 (by omega) (by omega) (by omega) (by omega)) fun b g4 b0 bn hH4 => ?_
      simp
      refine Ev.drawn (draw_v3_ok (by decide) (by decide) hH4 (by omega)) fun w g5 w0 w9 hH5 => ?_
      have hp := hm.put (x := ((1 + a).toNat, b.toNat, (1 + w).toNat)) (by dsimp only; omega) (by dsimp only; omega) (by dsimp only; omega) (by dsimp only; omega) (by dsimp only; omega)
      have e1 : keyI ((1 + a).toNat, b.toNat, (1 + w).toNat) = [1 + a, b] := by
        unfold keyI
        simp
        omega
      have e2 : (((1 + w).toNat : Nat) : Int) = 1 + w := by omega
      have hlen := hm.len
      rw [e1] at hp
      dsimp only at hp
      rw [e2] at hp
      simp [show kvs.length < 100000 by omega]
      exact ⟨hH5.up (by omega), hp, fun z => setK_ne z⟩
    · rintro ρ g ⟨hH, kvs, s8, s9, hm, hne, rfl⟩
      rw [range_len] at hm hH hne
      rw [e_then_nx]
      refine ev_step (fun ρ2 g2 => Fd (t + 1 + 15 * (k + 1)) g2 ∧ ∃ kvs s8 s9, MOk n 4 kvs ∧ (kvs ≠ [] ∨ 0 < lack) ∧ ρ2 = [.feed, .dat (.int n), .dat (.bool full), .dat (.int way), .own (ks.map kindD), .dat (.int k), .dct (.T kvs), .dat (.int lack), s8, s9, s10]) ?_ ?_
      · have hm4 : MOk n 4 kvs := ⟨hm.nd, Nat.le_trans hm.len (by omega), hm.at'⟩
        have hne := hne (by omega)
        have h0 : MOk n 4 [] := ⟨List.Pairwise.nil, Nat.zero_le _, fun p hp => by cases hp⟩
        by_cases h9 : lack = 9
        · subst h9
          simp
          refine Ev.drawn (draw_v3_ok (by decide) (by decide) hH (by omega)) fun c g1 c0 c3 hH1 => ?_
          simp
          by_cases c9 : c = 0
          · simp [c9]
            exact ⟨hH1.up (by omega), h0⟩
          · simp [c9]
            exact ⟨hH1.up (by omega), hm4⟩
        · simp [show ¬ (lack : Int) = 9 by omega]
          exact ⟨hH.up (by omega), hm4, .inl hne⟩
      · rintro ρ g ⟨hH, kvs, s8, s9, hm, h0, rfl⟩
        obtain ⟨T, vs, T0, T45, e1, e2, e3, e4, e5, e6⟩ := hm.kind (Nat.le_refl 4) hl h0
        have k0 : ∀ x : Mk3, (keyI x)[0]? = some (x.1 : Int) := fun _ => rfl
        have k1 : ∀ x : Mk3, (keyI x)[1]? = some (x.2.1 : Int) := fun _ => rfl
        have lc : ∀ s8 : Slot, lcN (.one 9) cYes (cTup [cBin oIx (cVar 9) (cC (.int 0)), cBin oIx (cVar 9) (cC (.int 1)), cCall F_q_lowest [cDGet 6 (cVar 9), cVar 10]]) [.feed, .dat (.int n), .dat (.bool full), .dat (.int way), .own (ks.map kindD), .dat (.int k), .dct (.T kvs), .dat (.int lack), s8, .emp, .dat (.int T)] ((vs.map keyI).map tupI) [] g = .ok (vs.map fun x => triD (triM T x)) g := fun s8 => by
          rw [List.map_map]
          refine lc_map (by omega) fun x hx => ⟨_, rfl, ?_⟩
          simp [e3 x hx, k0, k1, lowest_ok T0 (show T < 2 ^ 2000 by omega), low_eq T0]
          rfl
        have e7 : (vs.map fun x => triD (triM T x)) = (vs.map (triM T)).map triD := by rw [List.map_map]; rfl
        have e8 : ks.map kindD ++ [.tuple ((vs.map (triM T)).map triD)] = (ks ++ [vs.map (triM T)]).map kindD := by rw [List.map_append]; rfl
        have hlen := hm.len
        have hkl := hs.len
        simp only [e_seq, e_set, e_Bin, e_Un, e_dvals]
        simp [e1, show kvs.length ≤ 100000 by omega, e2]
        rw [← List.map_map, lc]
        simp [show ks.length < 100000 by omega, e7, e8]
        exact ⟨hH, _, hs.snoc e5 (by omega) fun z => e6 (lf z), by simp [kindD]⟩
  · rintro ρ g ⟨hG, ks, s5, s6, s7, s8, s9, s10, hs, rfl⟩
    simp
    rw [range_len] at hs hG
    obtain ⟨W, hW, hk⟩ := hs.all n1 n4
    exact ⟨ks, rfl, W, hk, hW, hs.len, hs.full, hG.up (by omega)⟩
end Fp
namespace Fp
open PySem PySem.Spec L2 Dn
/-- all chances behind k -/
def rest (L : Life) (k : Nat) : Rat := tot L - rs k fun i => ch L (i + 1)
/-- it lasts more than k -/
def lasts (L : Life) (k : Nat) : Rat := 1 - rs k fun i => ch L (i + 1)
def miss (L : Life) : Rat := 1 - tot L
theorem rest_succ (L : Life) (k : Nat) : rest L k = ch L (k + 1) + rest L (k + 1) := by
  unfold rest
  rw [rs_succ]
  grind
theorem rest_0 (L : Life) : rest L 0 = tot L := by
  unfold rest
  rw [rs_zero]
  grind
/-- as it is reckoned -/
def restR (L : Life) (k : Nat) : Rat := (L.row.drop k).sum + lastR L * L.step ^ (1 + (k - L.row.length)) / (1 - L.step)
theorem restR_succ {L : Life} (h1 : L.step < 1) (k : Nat) : restR L k = ch L (k + 1) + restR L (k + 1) := by
  have hn : 1 - L.step ≠ 0 := by grind
  unfold restR ch
  by_cases h : k + 1 ≤ L.row.length
  · have hk : k < L.row.length := by omega
    rw [if_pos h, List.drop_eq_getElem_cons hk, List.sum_cons, show 1 + (k - L.row.length) = 1 by omega, show 1 + (k + 1 - L.row.length) = 1 by omega, Nat.add_sub_cancel, List.getD_eq_getElem?_getD, List.getElem?_eq_getElem hk]
    simp only [Option.getD_some]
    grind
  · rw [if_neg h, List.drop_eq_nil_of_le (by omega), List.drop_eq_nil_of_le (by omega), List.sum_nil, show 1 + (k - L.row.length) = k + 1 - L.row.length by omega, show 1 + (k + 1 - L.row.length) = (k + 1 - L.row.length) + 1 by omega, Rat.pow_succ]
    have hp : 0 < k + 1 - L.row.length := by omega
    by_cases z : L.step = 0
    · rw [if_pos z, z]
      obtain ⟨j, e⟩ : ∃ j, k + 1 - L.row.length = j + 1 := ⟨k - L.row.length, by omega⟩
      rw [e, Rat.pow_succ]
      grind
    · rw [if_neg z]
      grind
theorem restR_eq {L : Life} (h1 : L.step < 1) : ∀ k, restR L k = rest L k := by
  intro k
  induction k with
  | zero =>
    rw [rest_0]
    unfold restR tot
    rw [List.drop_zero, Nat.zero_sub, Nat.add_zero, Rat.pow_one]
  | succ k ih =>
    have a := restR_succ h1 k
    have b := rest_succ L k
    grind
theorem sum_nonneg : ∀ {xs : List Rat}, (∀ x ∈ xs, 0 ≤ x) → 0 ≤ xs.sum
  | [], _ => by
    rw [List.sum_nil]
    decide
  | x :: xs, h => by
    have a := h x List.mem_cons_self
    have b := sum_nonneg fun y hy => h y (List.mem_cons_of_mem _ hy)
    rw [List.sum_cons]
    grind
theorem rs_nonneg {n : Nat} {g : Nat → Rat} (h : ∀ k, k < n → 0 ≤ g k) : 0 ≤ rs n g := by
  refine sum_nonneg fun x hx => ?_
  obtain ⟨k, hk, rfl⟩ := List.mem_map.mp hx
  exact h k (List.mem_range.mp hk)
theorem inv_wh {s : Nat} {x : Rat} (hw : Wh s x) (s0 : 0 < s) (hs : s ≤ 4) (h0 : 0 ≤ x) (h1 : x < 1) : Wh 12 (1 / (1 - x)) := by
  obtain ⟨i, hi⟩ := hw
  have sp : (0 : Rat) < (s : Rat) := Rat.natCast_pos.mpr s0
  have i0 : 0 ≤ i := by
    have : (0 : Rat) ≤ (i : Rat) := by
      rw [← hi]
      exact Rat.mul_nonneg h0 (by grind)
    exact Rat.intCast_le_intCast.mp (show ((0 : Int) : Rat) ≤ (i : Rat) from this)
  have i1 : i < s := by
    have : (i : Rat) < (s : Rat) := by
      rw [← hi]
      have := Rat.mul_lt_mul_of_pos_right h1 sp
      grind
    rw [← Rat.intCast_natCast] at this
    exact Rat.intCast_lt_intCast.mp this
  obtain ⟨j, rfl⟩ := Int.eq_ofNat_of_zero_le i0
  have hj : j < s := by omega
  have e : x = mkRat (j : Nat) s := by
    rw [Rat.mkRat_eq_div]
    have := cast_ne s0
    grind
  subst e
  have z : ∀ (q : Rat) (c : Nat), q * (1 - mkRat ((j : Nat) : Int) s) = 1 → q * 12 = (c : Rat) → Wh 12 (1 / (1 - mkRat ((j : Nat) : Int) s)) := fun q c h1 h2 => ⟨c, by
    have n : (1 - mkRat ((j : Nat) : Int) s) ≠ 0 := by
      intro y
      rw [y] at h1
      grind
    have e : 1 / (1 - mkRat ((j : Nat) : Int) s) = q := by grind
    rw [e]
    exact h2⟩
  have : s = 1 ∨ s = 2 ∨ s = 3 ∨ s = 4 := by omega
  have hj4 : j = 0 ∨ j = 1 ∨ j = 2 ∨ j = 3 := by omega
  rcases this with rfl | rfl | rfl | rfl <;> rcases hj4 with rfl | rfl | rfl | rfl <;> first
    | omega
    | exact z 1 12 (by decide +kernel) (by decide +kernel)
    | exact z 2 24 (by decide +kernel) (by decide +kernel)
    | exact z 3 36 (by decide +kernel) (by decide +kernel)
    | exact z 4 48 (by decide +kernel) (by decide +kernel)
    | exact z (mkRat 3 2) 18 (by decide +kernel) (by decide +kernel)
    | exact z (mkRat 4 3) 16 (by decide +kernel) (by decide +kernel)
/-- the bottom of all to m -/
abbrev kk (W s m : Nat) : Nat := 12 * (W * s ^ m)
section
variable {W s m k : Nat} {L : Life} {f : Feed}
theorem LOk.k0 (h : LOk W s L) : 0 < kk W s m := Nat.mul_pos (by decide) (Nat.mul_pos h.W0 (Nat.pow_pos h.s0))
theorem kk_le (hW : W ≤ 12800) (hs : s ≤ 4) : kk W s m ≤ 2 ^ (18 + 2 * m) := by
  have h1 : s ^ m ≤ 4 ^ m := Nat.pow_le_pow_left hs m
  have h2 : (4 : Nat) ^ m = 2 ^ (2 * m) := by rw [Nat.pow_mul]
  rw [h2] at h1
  have h3 := Nat.mul_le_mul_left 12 (Nat.mul_le_mul hW h1)
  rw [Nat.pow_add]
  have : 12 * (12800 * 2 ^ (2 * m)) ≤ 2 ^ 18 * 2 ^ (2 * m) := by
    rw [← Nat.mul_assoc]
    exact Nat.mul_le_mul_right _ (by decide)
  show 12 * (W * s ^ m) ≤ _
  omega
theorem LOk.st1' (h : LOk W s L) : L.step ≤ 1 := by
  have := h.st1
  grind
theorem LOk.ch0 (h : LOk W s L) : 0 ≤ Fp.ch L k := (h.ch (Nat.le_refl k)).2.1
theorem lastR_01 (h : LOk W s L) : 0 ≤ lastR L ∧ lastR L ≤ 1 ∧ Wh W (lastR L) := by
  by_cases z : L.row = []
  · unfold lastR
    rw [z]
    exact ⟨by decide, by decide, wh_0⟩
  · have := h.row _ (lastR_mem z)
    exact ⟨this.2.1, this.2.2, this.1⟩
theorem rest_wh (h : LOk W s L) (hs : s ≤ 4) (hk : k + 1 ≤ m) : Wh (kk W s m) (rest L k) := by
  rw [← restR_eq h.st1]
  unfold restR
  refine Wh.add ?_ ?_
  · refine (sum_wh (D := W) fun x hx => (h.row x (List.mem_of_mem_drop hx)).1).up ?_
    exact Nat.dvd_trans (Nat.dvd_mul_right _ _) (Nat.dvd_mul_left _ _)
  · have a := ((lastR_01 h).2.2.mul (wh_pow h.step (1 + (k - L.row.length)))).mul (inv_wh h.step h.s0 hs h.st0 h.st1)
    have e : lastR L * L.step ^ (1 + (k - L.row.length)) / (1 - L.step) = lastR L * L.step ^ (1 + (k - L.row.length)) * (1 / (1 - L.step)) := by
      have hn : 1 - L.step ≠ 0 := by have := h.st1; grind
      grind
    rw [e]
    refine a.up ?_
    rw [Nat.mul_comm]
    exact Nat.mul_dvd_mul_left _ (Nat.mul_dvd_mul_left _ (Nat.pow_dvd_pow _ (by omega)))
theorem rest_01 (h : LOk W s L) : 0 ≤ rest L k ∧ rest L k ≤ 1 := by
  refine ⟨?_, ?_⟩
  · rw [← restR_eq h.st1]
    unfold restR
    have a := sum_nonneg (xs := L.row.drop k) fun x hx => (h.row x (List.mem_of_mem_drop hx)).2.1
    have b := Rat.mul_nonneg (lastR_01 h).1 (pow_01 h.st0 h.st1' (1 + (k - L.row.length))).1
    have hn : 0 < 1 - L.step := by have := h.st1; grind
    have c : 0 ≤ lastR L * L.step ^ (1 + (k - L.row.length)) / (1 - L.step) := by
      rw [Rat.div_def]
      exact Rat.mul_nonneg b (Rat.le_of_lt (Rat.inv_pos.mpr hn))
    grind
  · unfold rest
    have a := rs_nonneg (n := k) (g := fun i => Fp.ch L (i + 1)) fun i _ => h.ch0
    have := h.tot1
    grind
theorem grest (h : LOk W s L) (hs : s ≤ 4) (hk : k + 1 ≤ m) : G (kk W s m) 1 0 (rest L k) := by
  refine ⟨by rw [Nat.pow_one]; exact rest_wh h hs hk, by rw [Nat.pow_zero]; exact ab_01 (rest_01 h).1 (rest_01 h).2⟩
theorem gtot (h : LOk W s L) (hs : s ≤ 4) (hm : 1 ≤ m) : G (kk W s m) 1 0 (tot L) := by
  rw [← rest_0]
  exact grest h hs (by omega)
theorem chances_added_q (h : LOk W s L) (hW : W ≤ 12800) (hs : s ≤ 4) (hl : L.row.length ≤ 63) : F_chances_added [.dat (lifeD L)] f = .ok (.dat (enc (tot L))) f := by
  have K := kk_le (m := 2) hW hs
  have dv : W ∣ kk W s 2 := Nat.dvd_trans (Nat.dvd_mul_right _ _) (Nat.dvd_mul_left _ _)
  have gr : ∀ x ∈ L.row, G (kk W s 2) 1 0 x := fun x hx => G.of (h.row x hx).1 dv (h.row x hx).2.1 (h.row x hx).2.2
  have q := summed_gd (d0 := .tuple (L.row.map enc)) (f := f) rfl gr h.k0 K hl (by decide)
  have gs : G (kk W s 2) 1 0 L.step := G.of h.step (Nat.dvd_trans (Nat.dvd_trans (Nat.dvd_mul_right s s) (by rw [Nat.pow_two]; exact Nat.dvd_mul_left _ W)) (Nat.dvd_mul_left _ _)) h.st0 h.st1'
  apply ev_is
  rw [u_chances_added, ev_dEnd]
  unfold S_chances_added lifeD
  simp [eq_enc0, ev_ite, q]
  refine ⟨fun z => ?_, fun z => ?_⟩
  · unfold tot
    rw [z]
    congr 1
    grind
  · have hr : L.row ≠ [] := fun y => z (h.emp y)
    have al : atI (L.row.map enc) (-1) = some (enc (lastR L)) := atI_last (x := 0) hr
    have gl := gr _ (lastR_mem hr)
    have t1 := times_q (f := f) (gl.sz h.k0 K (by decide)) (gs.sz h.k0 K (by decide)) (Nat.le_refl _)
    have t2 := minus_q (f := f) sz_1 (gs.sz h.k0 K (by decide))
    have n1 : G (kk W s 2) 1 1 (1 - L.step) := (g_1 (n := 1)).sub gs
    have hp : 0 < 1 - L.step := by have := h.st1; grind
    have t3 := over_q (f := f) ((gl.mul gs).sz h.k0 K (by decide)) (n1.sz h.k0 K (by decide)) hp
    have t4 := plus_q (f := f) ((G.sum (l := 6) gr (Nat.le_trans hl (by decide))).sz h.k0 K (by decide)) ((sz_div ((gl.mul gs).szN (N := 100) h.k0 K (by decide)) (n1.szN (N := 100) h.k0 K (by decide)) hp).up (n := 4000) (by decide)) (Nat.le_refl _)
    rw [enc1] at t2
    simp [al, t1, t2, t3, t4]
    rfl
theorem miss_q (h : LOk W s L) (hW : W ≤ 12800) (hs : s ≤ 4) (hl : L.row.length ≤ 63) : F_miss [.dat (lifeD L)] f = .ok (.dat (enc (miss L))) f := by
  have K := kk_le (m := 2) hW hs
  have c := chances_added_q (f := f) h hW hs hl
  have r := minus_q (f := f) sz_1 ((gtot (m := 2) h hs (by decide)).sz h.k0 K (by decide))
  rw [enc1] at r
  apply ev_is
  rw [u_miss, ev_dEnd]
  unfold S_miss
  simp [c, r]
  rfl
end
end Fp
namespace Fp
open PySem PySem.Spec L2 Dn
theorem put_two {i j : Nat} {a b : PyData} {ρ : Rho} : (Tgt.many [i, j]).put (.tuple [a, b]) ρ = some ((ρ.set i (.dat a)).set j (.dat b)) := rfl
end Fp
namespace Fp
open PySem PySem.Spec L2 Dn
@[simp] theorem ix_life0 {L : Life} : oIx (lifeD L) (.int 0) = some (.dat (.tuple (L.row.map enc))) := nr rfl
@[simp] theorem ix_life1 {L : Life} : oIx (lifeD L) (.int 1) = some (.dat (enc L.step)) := nr rfl
theorem G.an {K d e m : Nat} {c t : Nat → Rat} (hc : ∀ k, k < m → G K 1 0 (c k)) (ht : ∀ k, k ≤ m → G K d e (t k)) (hm : m ≤ 31) : ∀ n, n ≤ m → G K (d + n) (e + 5 * n) (an c t n) := fun n hn => by
  refine ⟨?_, ?_⟩
  · rw [Nat.pow_add]
    exact an_wh (fun k hk => by have := (hc k hk).w; rwa [Nat.pow_one] at this) (fun k hk => (ht k hk).w) n hn
  · have a := an_ab (B := 2 ^ e) (M := 32) (m := m) (c := c) (t := t) (fun k hk => by have := (hc k hk).a; rwa [Nat.pow_zero] at this) (fun k hk => (ht k hk).a) (by omega) n hn
    rwa [show 2 ^ e * 32 ^ n = 2 ^ (e + 5 * n) by rw [Nat.pow_add, Nat.pow_mul]] at a
end Fp
namespace Fp
open PySem PySem.Spec L2 Dn
section
variable {W s N : Nat} {L : Life} {f : Feed}
end
end Fp
namespace Fp
open PySem PySem.Spec L2 Dn
def far (L : Life) (n : Nat) : Life := ⟨List.replicate n 0 ++ L.row, L.step⟩
theorem sum_zeros : ∀ n : Nat, (List.replicate n (0 : Rat)).sum = 0
  | 0 => rfl
  | n + 1 => by
    rw [List.replicate_succ, List.sum_cons, sum_zeros n]
    grind
theorem far_tot {L : Life} {n : Nat} (h : L.row = [] → L.step = 0) : tot (far L n) = tot L := by
  unfold tot far
  show (List.replicate n 0 ++ L.row).sum + lastR ⟨List.replicate n 0 ++ L.row, L.step⟩ * L.step / (1 - L.step) = _
  rw [List.sum_append, sum_zeros, Rat.zero_add]
  congr 1
  by_cases z : L.row = []
  · rw [h z, Rat.mul_zero, Rat.mul_zero]
  · congr 2
    unfold lastR
    rw [List.getLastD_eq_getLast?, List.getLastD_eq_getLast?, List.getLast?_append, List.getLast?_eq_some_getLast z]
    rfl
theorem LOk.far {W s n : Nat} {L : Life} (h : LOk W s L) : LOk W s (Fp.far L n) := by
  refine ⟨h.W0, h.s0, fun x hx => ?_, h.step, h.st0, h.st1, fun z => ?_, by rw [far_tot h.emp]; exact h.tot1⟩
  · rcases List.mem_append.mp hx with q | q
    · rw [List.eq_of_mem_replicate q]
      exact ⟨wh_0, by decide, by decide⟩
    · exact h.row x q
  · exact h.emp (List.append_eq_nil_iff.mp z).2
end Fp
namespace Fp
open PySem PySem.Spec L2 Dn
@[simp] theorem isNone_enc {x : Rat} : isNone (enc x) = false := nr rfl
@[simp] theorem isNone_none : isNone .none = true := nr rfl
theorem encN {k : Nat} : PyData.tuple [.int (k : Nat), .int 1] = enc (k : Rat) := by
  unfold enc
  rw [Rat.num_natCast, Rat.den_natCast]
  rfl
theorem encN1 {k : Nat} : PyData.tuple [.int ((k : Int) + 1), .int 1] = enc ((k : Rat) + 1) := by
  have := encN (k := k + 1)
  rw [Rat.natCast_add] at this
  exact this
theorem sz_mk {p : Int} {q n : Nat} (hq : 0 < q) (h1 : p.natAbs < 2 ^ n) (h2 : q < 2 ^ n) : Sz n (mkRat p q) := by
  refine ⟨?_, ?_⟩
  · rw [Rat.num_mkRat, if_neg (by omega), Int.natAbs_ediv_of_dvd (Int.ofNat_dvd_left.mpr (Nat.gcd_dvd_right _ _))]
    exact Nat.lt_of_le_of_lt (Nat.div_le_self _ _) h1
  · rw [Rat.den_mkRat, if_neg (by omega)]
    exact Nat.lt_of_le_of_lt (Nat.div_le_self _ _) h2
theorem Sz.mul {a b : Nat} {x y : Rat} (hx : Sz a x) (hy : Sz b y) : Sz (a + b) (x * y) := by
  rw [← mul_eq]
  refine sz_mk (Nat.mul_pos x.den_pos y.den_pos) ?_ ?_
  · rw [Int.natAbs_mul, Nat.pow_add]
    exact Nat.mul_lt_mul_of_lt_of_lt hx.num hy.num
  · rw [Nat.pow_add]
    exact Nat.mul_lt_mul_of_lt_of_lt hx.den hy.den
theorem Sz.add {a b : Nat} {x y : Rat} (hx : Sz a x) (hy : Sz b y) : Sz (a + b + 1) (x + y) := by
  rw [← add_eq]
  have h1 := Nat.mul_lt_mul_of_lt_of_lt hx.num hy.den
  have h2 := Nat.mul_lt_mul_of_lt_of_lt hy.num hx.den
  have h3 := Nat.mul_lt_mul_of_lt_of_lt hx.den hy.den
  have e : 2 ^ (a + b + 1) = 2 ^ a * 2 ^ b + 2 ^ b * 2 ^ a := by
    rw [Nat.pow_succ, Nat.pow_add, Nat.mul_comm (2 ^ b)]
    omega
  refine sz_mk (Nat.mul_pos x.den_pos y.den_pos) ?_ ?_
  · have a1 : (x.num * y.den).natAbs = x.num.natAbs * y.den := by rw [Int.natAbs_mul, Int.natAbs_natCast]
    have a2 : (y.num * x.den).natAbs = y.num.natAbs * x.den := by rw [Int.natAbs_mul, Int.natAbs_natCast]
    have a3 := Int.natAbs_add_le (x.num * y.den) (y.num * x.den)
    omega
  · omega
theorem Sz.neg {a : Nat} {x : Rat} (hx : Sz a x) : Sz a (-x) := ⟨by rw [show (-x).num = -x.num from rfl, Int.natAbs_neg]; exact hx.num, by rw [show (-x).den = x.den from rfl]; exact hx.den⟩
theorem Sz.sub {a b : Nat} {x y : Rat} (hx : Sz a x) (hy : Sz b y) : Sz (a + b + 1) (x - y) := by
  rw [Rat.sub_eq_add_neg]
  exact hx.add hy.neg
theorem inv_g {s : Nat} {x : Rat} (hw : Wh s x) (s0 : 0 < s) (hs : s ≤ 4) (h0 : 0 ≤ x) (h1 : x < 1) : 0 ≤ 1 / (1 - x) ∧ 1 / (1 - x) ≤ 4 := by
  have sp : (0 : Rat) < (s : Rat) := Rat.natCast_pos.mpr s0
  have hn : 0 < 1 - x := by grind
  obtain ⟨i, hi⟩ := hw
  have i1 : (i : Rat) < (s : Rat) := by
    rw [← hi]
    have := Rat.mul_lt_mul_of_pos_right h1 sp
    grind
  rw [← Rat.intCast_natCast] at i1
  have i2 : i < s := Rat.intCast_lt_intCast.mp i1
  have i3 : (i : Rat) + 1 ≤ (s : Rat) := by
    have : ((i + 1 : Int) : Rat) ≤ ((s : Int) : Rat) := Rat.intCast_le_intCast.mpr (by omega)
    rw [Rat.intCast_add, Rat.intCast_natCast] at this
    exact this
  have i4 : 1 ≤ (1 - x) * (s : Rat) := by grind
  have s4 : (s : Rat) ≤ 4 := by
    have : (s : Rat) ≤ ((4 : Nat) : Rat) := Rat.natCast_le_natCast.mpr hs
    exact this
  have iv : 0 ≤ 1 / (1 - x) := by
    rw [Rat.div_def, Rat.one_mul]
    exact Rat.le_of_lt (Rat.inv_pos.mpr hn)
  have e : 1 / (1 - x) * (1 - x) = 1 := by
    have : 1 - x ≠ 0 := by grind
    grind
  refine ⟨iv, ?_⟩
  have a := Rat.mul_le_mul_of_nonneg_left i4 iv
  have b := Rat.mul_le_mul_of_nonneg_left s4 iv
  have c : 1 / (1 - x) * ((1 - x) * (s : Rat)) = (s : Rat) := by
    rw [← Rat.mul_assoc, e, Rat.one_mul]
  grind
/-- the mean of a stretch -/
def meanV (L : Life) : Rat := (rs L.row.length fun k => ((k : Rat) + 1) * ch L (k + 1)) + lastR L * ((L.row.length : Rat) * (L.step / (1 - L.step)) + L.step / (1 - L.step) / (1 - L.step))
section
variable {W s m k N : Nat} {L : Life} {f : Feed}
theorem row_at (h : k < L.row.length) : L.row[k] = ch L (k + 1) := by
  unfold ch
  rw [if_pos (by omega), Nat.add_sub_cancel, List.getD_eq_getElem?_getD, List.getElem?_eq_getElem h]
  rfl
theorem once_g (h : LOk W s L) (hs : s ≤ 4) : G (kk W s 4) 1 2 (L.step / (1 - L.step)) ∧ 0 ≤ L.step / (1 - L.step) ∧ G (kk W s 4) 2 4 (L.step / (1 - L.step) / (1 - L.step)) ∧ 0 ≤ L.step / (1 - L.step) / (1 - L.step) := by
  have iw := inv_wh h.step h.s0 hs h.st0 h.st1
  have ia := inv_g h.step h.s0 hs h.st0 h.st1
  have hn : 1 - L.step ≠ 0 := by have := h.st1; grind
  have e1 : L.step / (1 - L.step) = L.step * (1 / (1 - L.step)) := by grind
  have e2 : L.step / (1 - L.step) / (1 - L.step) = L.step * (1 / (1 - L.step)) * (1 / (1 - L.step)) := by grind
  have d1 : s * 12 ∣ kk W s 4 := by
    rw [Nat.mul_comm]
    exact Nat.mul_dvd_mul_left 12 (Nat.dvd_trans (by rw [Nat.pow_succ]; exact Nat.dvd_mul_left s (s ^ 3)) (Nat.dvd_mul_left _ W))
  have n1 := Rat.mul_nonneg h.st0 ia.1
  have n2 := Rat.mul_nonneg n1 ia.1
  have gi : G (kk W s 4) 1 2 (1 / (1 - L.step)) := ⟨by rw [Nat.pow_one]; exact iw.up (Nat.dvd_mul_right _ _), ⟨by have := ia.1; show -(4 : Rat) ≤ _; grind, ia.2⟩⟩
  have ab : Ab ((2 ^ 2 : Nat) : Rat) (L.step * (1 / (1 - L.step))) := by
    refine ⟨by show -(4 : Rat) ≤ _; grind, ?_⟩
    have a := Rat.mul_le_mul_of_nonneg_right h.st1' ia.1
    rw [Rat.one_mul] at a
    show _ ≤ (4 : Rat)
    grind
  rw [e2, e1]
  have g1 : G (kk W s 4) 1 2 (L.step * (1 / (1 - L.step))) := ⟨by rw [Nat.pow_one]; exact (h.step.mul iw).up d1, ab⟩
  exact ⟨g1, n1, g1.mul gi, n2⟩
theorem gchs (h : LOk W s L) (hl : L.row.length ≤ 40) (hk : k < L.row.length) : G (kk W s 4) 1 0 (ch L (k + 1)) := by
  have b := h.row _ (List.getElem_mem hk)
  rw [← row_at hk]
  exact G.of b.1 (Nat.dvd_trans (Nat.dvd_mul_right _ _) (Nat.dvd_mul_left _ _)) b.2.1 b.2.2
theorem gnat {K n e : Nat} {k : Nat} (h : k ≤ 2 ^ e) : G K n e ((k : Nat) : Rat) := g_nat h
theorem behind_row_q (h : LOk W s L) (hW : W ≤ 12800) (hs : s ≤ 4) (hl : L.row.length ≤ 40) : F_behind_row [.dat (lifeD L), .dat (.int 1)] f = .ok (.dat (enc (lastR L * ((L.row.length : Rat) * (L.step / (1 - L.step)) + L.step / (1 - L.step) / (1 - L.step))))) f := by
  obtain ⟨g1, n1, g2, n2⟩ := once_g h hs
  have K := kk_le (m := 4) hW hs
  apply ev_is
  rw [u_behind_row, ev_dEnd]
  unfold S_behind_row
  (rw [e_seq, ev_bind]; simp [-e_seq, -Int.natCast_add, -Int.natCast_mul, lifeD])
  (rw [e_seq, ev_bind]; simp [-e_seq, -Int.natCast_add, -Int.natCast_mul, eq_enc0, ev_ite])
  refine ⟨fun z => ?_, fun z => ?_⟩
  · rw [z]
    have : lastR L * ((L.row.length : Rat) * (0 / (1 - 0)) + 0 / (1 - 0) / (1 - 0)) = 0 := by grind
    rw [this]
    rfl
  have hr : L.row ≠ [] := fun y => z (h.emp y)
  have al : atI (L.row.map enc) (-1) = some (enc (lastR L)) := atI_last (x := 0) hr
  have gs : G (kk W s 4) 1 0 L.step := G.of h.step (Nat.dvd_trans (Nat.dvd_trans (Nat.dvd_mul_left s (s ^ 3)) (by rw [← Nat.pow_succ]; exact Nat.dvd_mul_left _ W)) (Nat.dvd_mul_left _ _)) h.st0 h.st1'
  have hn : 0 < 1 - L.step := by have := h.st1; grind
  have gn : G (kk W s 4) 1 1 (1 - L.step) := (g_1 (n := 1)).sub gs
  have t2 := minus_q (f := f) sz_1 (gs.sz h.k0 K (by decide))
  rw [enc1] at t2
  have t3 := over_q (f := f) (gs.sz h.k0 K (by decide)) (gn.sz h.k0 K (by decide)) hn
  have t4 := over_q (f := f) (g1.sz h.k0 K (by decide)) (gn.sz h.k0 K (by decide)) hn
  have gl : G (kk W s 4) 1 0 (lastR L) := G.of (lastR_01 h).2.2 (Nat.dvd_trans (Nat.dvd_mul_right _ _) (Nat.dvd_mul_left _ _)) (lastR_01 h).1 (lastR_01 h).2.1
  have gN : G (kk W s 4) 0 6 ((L.row.length : Nat) : Rat) := gnat (by omega)
  have t5 := times_q (f := f) (gN.sz h.k0 K (by decide)) (g1.sz h.k0 K (by decide)) (Nat.le_refl _)
  have g5 := (gN.mul g1).up (show 0 + 1 ≤ 2 by decide) (show 6 + 2 ≤ 8 by decide)
  have t6 := plus_q (f := f) (g5.sz h.k0 K (by decide)) (g2.sz h.k0 K (by decide)) (Nat.le_refl _)
  have t7 := times_q (f := f) (gl.sz h.k0 K (by decide)) ((g5.add (g2.up (Nat.le_refl _) (by decide))).sz h.k0 K (by decide)) (Nat.le_refl _)
  have eN := encN (k := L.row.length)
  (rw [e_seq, ev_bind]; simp [-e_seq, -Int.natCast_add, -Int.natCast_mul])
  rw [eN]
  (rw [e_seq, ev_bind]; simp [-e_seq, -Int.natCast_add, -Int.natCast_mul, t2])
  (rw [e_seq, ev_bind]; simp [-e_seq, -Int.natCast_add, -Int.natCast_mul, t3])
  (rw [e_seq, ev_bind]; simp [-e_seq, -Int.natCast_add, -Int.natCast_mul, t4])
  (rw [e_seq, ev_bind]; simp [-e_seq, -Int.natCast_add, -Int.natCast_mul, al, t5, t6, t7])
theorem mean_q (h : LOk W s L) (hW : W ≤ 12800) (hs : s ≤ 4) (hl : L.row.length ≤ 40) (z : miss L = 0) : F_mean [.dat (lifeD L)] f = .ok (.dat (enc (meanV L))) f := by
  have K := kk_le (m := 4) hW hs
  have m1 := miss_q (f := f) h hW hs (by omega)
  have b1 := behind_row_q (f := f) h hW hs hl
  obtain ⟨g1, n1, g2, n2⟩ := once_g h hs
  have pd : pairsD (L.row.map enc) = (List.range L.row.length).map fun (i : Nat) => .tuple [.int (i : Nat), enc (ch L (i + 1))] := by
    rw [pairsD_range2 _ (fun i => enc (ch L (i + 1))) fun i hi => by rw [List.getElem_map, row_at (by simpa using hi)]]
    simp
  have ga : ∀ k, k < L.row.length → G (kk W s 4) 0 6 ((k : Rat) + 1) := fun k hk => by
    have := gnat (K := kk W s 4) (n := 0) (e := 6) (k := k + 1) (by omega)
    rwa [Rat.natCast_add] at this
  have lc : lcN (.many [2, 3]) cYes (cCall F_times [cTup [cBin oAdd (cVar 2) (cC (.int 1)), cC (.int 1)], cVar 3]) [.dat (lifeD L), .emp, .emp, .emp] ((List.range L.row.length).map fun (i : Nat) => .tuple [.int (i : Nat), enc (ch L (i + 1))]) [] f = .ok ((List.range L.row.length).map fun (k : Nat) => enc (((k : Rat) + 1) * ch L (k + 1))) f := by
    refine lc_map (by rw [List.length_range]; omega) fun k hk => ⟨_, put_two, ?_⟩
    have hk2 := List.mem_range.mp hk
    have q := times_q (f := f) ((ga k hk2).sz h.k0 K (by decide)) ((gchs h hl hk2).sz h.k0 K (by decide)) (Nat.le_refl _)
    simp [encN1, q]
  have gk : ∀ k, k < L.row.length → G (kk W s 4) 1 6 (((k : Rat) + 1) * ch L (k + 1)) := fun k hk => ((ga k hk).mul (gchs h hl hk)).up (by decide) (by decide)
  have sm := summed_r (f := f) gk h.k0 K (by omega) (by decide)
  have gl : G (kk W s 4) 1 0 (lastR L) := G.of (lastR_01 h).2.2 (Nat.dvd_trans (Nat.dvd_mul_right _ _) (Nat.dvd_mul_left _ _)) (lastR_01 h).1 (lastR_01 h).2.1
  have gN : G (kk W s 4) 0 6 ((L.row.length : Nat) : Rat) := gnat (by omega)
  have gb := gl.mul (((gN.mul g1).up (show 0 + 1 ≤ 2 by decide) (show 6 + 2 ≤ 8 by decide)).add (g2.up (Nat.le_refl _) (by decide)))
  have p := plus_q (f := f) ((G.rs (l := 6) gk (by omega)).sz h.k0 K (by decide)) (gb.sz h.k0 K (by decide)) (Nat.le_refl _)
  apply ev_is
  rw [u_mean, ev_dEnd]
  unfold S_mean
  (rw [e_seq, ev_bind]; simp [-e_seq, -Int.natCast_add, -Int.natCast_mul, m1, ne_enc0, z])
  (rw [e_seq, ev_bind]; simp [-e_seq, -Int.natCast_add, -Int.natCast_mul, pd, lc, sm])
  simp [b1, p]
  rfl
end
end Fp
namespace Fp
open PySem PySem.Spec L2 Dn
/-- of a row from its end: noughts out -/
def tz : List Rat → List Rat
  | [] => []
  | x :: r => if x = 0 then tz r else x :: r
/-- .. chances that go on by the step out -/
def ts (st : Rat) : List Rat → List Rat
  | [] => []
  | x :: r => match r with
    | [] => [x]
    | y :: r2 => if y * st = x then ts st (y :: r2) else x :: y :: r2
theorem ts_two (st x y : Rat) (r : List Rat) : ts st (x :: y :: r) = if y * st = x then ts st (y :: r) else x :: y :: r := by
  rw [ts]
theorem ts_one (st x : Rat) : ts st [x] = [x] := by
  rw [ts]
def shortR (r : List Rat) (st : Rat) : Life := if r.head? = some 0 ∨ st = 0 then ⟨(tz r).reverse, 0⟩ else ⟨(ts st r).reverse, st⟩
def shortL (L : Life) : Life := shortR L.row.reverse L.step
theorem tz_split : ∀ r : List Rat, ∃ n, r = List.replicate n 0 ++ tz r
  | [] => ⟨0, rfl⟩
  | x :: r => by
    by_cases q : x = 0
    · obtain ⟨n, e⟩ := tz_split r
      refine ⟨n + 1, ?_⟩
      rw [tz, if_pos q, q, List.replicate_succ, List.cons_append, ← e]
    · refine ⟨0, ?_⟩
      rw [tz, if_neg q]
      rfl
theorem tz_id {r : List Rat} (h : r.head? ≠ some 0) : tz r = r := by
  cases r with
  | nil => rfl
  | cons x r =>
    rw [tz, if_neg (by simpa using h)]
theorem cutD_last {ds : List PyData} : cutD ds none (some (-1)) = ds.dropLast := by
  unfold cutD
  have e : HT.sIx ds.length ds.length (some (-1)) = ds.length - 1 := by
    unfold HT.sIx
    simp only
    split
    · omega
    · omega
  rw [HT.sIx_none, e, List.dropLast_eq_take]
  simp
/-- a row from its end, as data -/
def rd (r : List Rat) : List PyData := r.reverse.map enc
theorem rd_len {r : List Rat} : (rd r).length = r.length := by simp [rd]
theorem cut_rd {x : Rat} {r : List Rat} : cutD (rd (x :: r)) none (some (-1)) = rd r := by
  rw [cutD_last]
  unfold rd
  rw [List.reverse_cons, List.map_append, List.map_cons, List.map_nil, List.dropLast_concat]
theorem at_rd {x : Rat} {r : List Rat} : atI (rd (x :: r)) (-1) = some (enc x) := by
  unfold rd
  rw [List.reverse_cons, List.map_append, List.map_cons, List.map_nil]
  exact L2.atI_last _ _
theorem at_rd2 {x y : Rat} {r : List Rat} : atI (rd (x :: y :: r)) (-2) = some (enc y) := by
  unfold rd
  rw [List.reverse_cons, List.reverse_cons, List.map_append, List.map_append]
  unfold atI
  have e : ixN (((r.reverse.map enc) ++ [y].map enc) ++ [x].map enc).length (-2) = some r.length := by
    unfold ixN
    simp
    omega
  rw [e]
  simp
theorem life_rd (L : Life) : lifeD L = .tuple [.tuple (rd L.row.reverse), enc L.step] := by
  unfold lifeD rd
  rw [List.reverse_reverse]
theorem mk_rd (r : List Rat) (st : Rat) : PyData.tuple [.tuple (rd r), enc st] = lifeD ⟨r.reverse, st⟩ := rfl
/-- what a life's numbers are: short -/
def Plain (L : Life) : Prop := (∀ x ∈ L.row, Sz 400 x) ∧ Sz 400 L.step
theorem LOk.plain {W s : Nat} {L : Life} (h : LOk W s L) (hW : W ≤ 2 ^ 90) (hs : s ≤ 4) : Plain L :=
  ⟨fun x hx => ab_sz (B := 1) h.W0 (h.row x hx).1 (ab_01 (h.row x hx).2.1 (h.row x hx).2.2) (by decide) (Nat.lt_of_le_of_lt (Nat.mul_le_mul_left 1 hW) (by decide)), ab_sz (B := 1) h.s0 h.step (ab_01 h.st0 h.st1') (by decide) (Nat.lt_of_le_of_lt (Nat.mul_le_mul_left 1 hs) (by decide))⟩
section
variable {L : Life} {f : Feed}
theorem short_q (h : Plain L) : F_short [.dat (lifeD L)] f = .ok (.dat (lifeD (shortL L))) f := by
  have hr : ∀ x ∈ L.row.reverse, Sz 400 x := fun x hx => h.1 x (List.mem_reverse.mp hx)
  have hst := h.2
  apply ev_is
  rw [u_short, ev_dEnd, life_rd L]
  unfold S_short shortL shortR
  generalize L.row.reverse = r at *
  generalize L.step = st at *
  (rw [e_seq, ev_bind]; simp [-e_seq, -Int.natCast_add, -Int.natCast_mul])
  refine ev_step (fun ρ g => g = f ∧ ∃ (r2 : List Rat) (s2 : Rat), ρ = [.dat (.tuple [.tuple (rd r), enc st]), .dat (.tuple (rd r2)), .dat (enc s2)] ∧ tz r2 = tz r ∧ r2.head? ≠ some 0 ∧ ((r2 = r ∧ s2 = st) ∨ (s2 = 0 ∧ r.head? = some 0))) ?_ ?_
  · refine ev_while (I := fun n ρ g => g = f ∧ ∃ (r2 : List Rat) (s2 : Rat), n = r2.length ∧ ρ = [.dat (.tuple [.tuple (rd r), enc st]), .dat (.tuple (rd r2)), .dat (enc s2)] ∧ tz r2 = tz r ∧ ((r2 = r ∧ s2 = st) ∨ (s2 = 0 ∧ r.head? = some 0))) (n := r.length) ?_ ⟨rfl, r, st, rfl, rfl, rfl, .inl ⟨rfl, rfl⟩⟩
    rintro n ρ g ⟨rfl, r2, s2, rfl, rfl, e1, e2⟩
    cases r2 with
    | nil =>
      simp [rd_len]
      exact ⟨[], s2, ⟨rfl, rfl⟩, e1, by simp, e2⟩
    | cons x r2 =>
      have lp : (0 : Int) < (r2.length : Int) + 1 := by omega
      by_cases z : x = 0
      · subst z
        simp [lp, rd_len, at_rd, eq_enc0, cut_rd]
        refine ⟨r2.length, by omega, r2, rfl, 0, ⟨rfl, rfl⟩, ?_, .inr ⟨rfl, ?_⟩⟩
        · rw [← e1, tz, if_pos rfl]
        · rcases e2 with ⟨e2, _⟩ | ⟨_, e2⟩
          · rw [← e2, List.head?_cons]
          · exact e2
      · simp [lp, rd_len, at_rd, eq_enc0, z]
        exact ⟨x :: r2, s2, ⟨rfl, rfl⟩, e1, by simpa using z, e2⟩
  rintro _ g ⟨rfl, r2, s2, rfl, e1, e2, e3⟩
  (rw [e_seq, ev_bind]; simp [-e_seq, -Int.natCast_add, -Int.natCast_mul, eq_enc0, ev_ite])
  refine ⟨fun z => ?_, fun z => ?_⟩
  · subst z
    have c : r.head? = some 0 ∨ st = 0 := by
      rcases e3 with ⟨_, e⟩ | ⟨_, e⟩
      · exact .inr e.symm
      · exact .inl e
    rw [if_pos c, mk_rd, ← e1, tz_id e2]
  · rcases e3 with ⟨rfl, rfl⟩ | ⟨e, _⟩
    · rw [if_neg (by rintro (q | q); exact e2 q; exact z q)]
      refine ev_step (fun ρ g' => g' = g ∧ ∃ (r3 : List Rat), ρ = [.dat (.tuple [.tuple (rd r2), enc s2]), .dat (.tuple (rd r3)), .dat (enc s2)] ∧ r3 = ts s2 r2) ?_ ?_
      · refine ev_while (I := fun n ρ g' => g' = g ∧ ∃ (r3 : List Rat), n = r3.length ∧ ρ = [.dat (.tuple [.tuple (rd r2), enc s2]), .dat (.tuple (rd r3)), .dat (enc s2)] ∧ ts s2 r3 = ts s2 r2 ∧ ∀ x ∈ r3, Sz 400 x) (n := r2.length) ?_ ⟨rfl, r2, rfl, rfl, rfl, hr⟩
        rintro n ρ g ⟨rfl, r3, rfl, rfl, e4, e5⟩
        match r3 with
        | [] =>
          simp [rd_len]
          rw [← e4, ts]
        | [x] =>
          simp [rd_len]
          rw [← e4, ts_one]
        | x :: y :: r4 =>
          have lp : (1 : Int) < (r4.length : Int) + 1 + 1 := by omega
          have t1 := times_q (f := g) ((e5 y (by simp)).up (n := 4000) (by decide)) (hst.up (by decide)) (Nat.le_refl _)
          by_cases q : y * s2 = x
          · simp [lp, rd_len, at_rd, at_rd2, t1, eq_enc, q, cut_rd]
            refine ⟨(y :: r4).length, by simp, y :: r4, rfl, rfl, ?_, fun x hx => e5 x (List.mem_cons_of_mem _ hx)⟩
            rw [← e4, ts_two, if_pos q]
          · simp [lp, rd_len, at_rd, at_rd2, t1, eq_enc, q]
            rw [← e4, ts_two, if_neg q]
      rintro _ g ⟨rfl, r3, rfl, rfl⟩
      simp [mk_rd]
    · exact absurd e z
end
end Fp
namespace Fp
open PySem PySem.Spec L2 Dn
/-- chances of a kind, of some triples, added -/
def cp (k : List Tri) (p : Tri → Bool) : Rat := ((k.filter p).map (·.c)).sum
theorem cp_snoc {k : List Tri} {t : Tri} {p : Tri → Bool} : cp (k ++ [t]) p = cp k p + if p t = true then t.c else 0 := by
  unfold cp
  rw [List.filter_append, List.map_append, sum_app]
  congr 1
  by_cases h : p t = true
  · rw [List.filter_cons_of_pos h, if_pos h]
    show t.c + 0 = t.c
    grind
  · rw [List.filter_cons_of_neg h, if_neg h]
    rfl
theorem cp_nil {p : Tri → Bool} : cp [] p = 0 := rfl
theorem cp_cons {k : List Tri} {t : Tri} {p : Tri → Bool} : cp (t :: k) p = (if p t = true then t.c else 0) + cp k p := by
  unfold cp
  by_cases h : p t = true
  · rw [List.filter_cons_of_pos h, if_pos h]
    simp
  · rw [List.filter_cons_of_neg h, if_neg h]
    simp [Rat.zero_add]
theorem cp_bd {k : List Tri} {p : Tri → Bool} (h : ∀ t ∈ k, 0 ≤ t.c) : 0 ≤ cp k p ∧ cp k p ≤ (k.map (·.c)).sum := by
  induction k with
  | nil => exact ⟨Rat.le_refl, Rat.le_refl⟩
  | cons t k ih =>
    obtain ⟨h1, h2⟩ := ih fun s hs => h s (List.mem_cons_of_mem _ hs)
    have h3 := h t List.mem_cons_self
    rw [cp_cons, List.map_cons, List.sum_cons]
    constructor
    · split <;> grind
    · split <;> grind
theorem cp_wh {W : Nat} {k : List Tri} {p : Tri → Bool} (h : ∀ t ∈ k, Wh W t.c) : Wh W (cp k p) :=
  sum_wh fun x hx => by
    obtain ⟨t, ht, rfl⟩ := List.mem_map.mp hx
    exact h t (List.mem_filter.mp ht).1
theorem KdOk.cp {n W : Nat} {k : List Tri} (h : KdOk n W k) (p : Tri → Bool) : Wh W (cp k p) ∧ 0 ≤ Fp.cp k p ∧ Fp.cp k p ≤ 1 := by
  have := cp_bd (p := p) fun t ht => (show 0 ≤ t.c by have := (h.c t ht).2.1; grind)
  have h1 := h.sum
  exact ⟨cp_wh fun t ht => (h.c t ht).1, this.1, by grind⟩
theorem sz01 {D n : Nat} {x : Rat} (hD : 0 < D) (w : Wh D x) (h0 : 0 ≤ x) (h1 : x ≤ 1) (hn : D < 2 ^ n) : Sz n x := ab_sz (B := 1) hD w (by simpa using ab_01 h0 h1) (by decide) (by omega)
theorem KdOk.cpS {n W : Nat} {k : List Tri} (h : KdOk n W k) (hW : W ≤ 2 ^ 31) (p : Tri → Bool) : Sz 40 (Fp.cp k p) := by
  obtain ⟨w, h0, h1⟩ := h.cp p
  exact sz01 h.W0 w h0 h1 (by omega)
theorem KdOk.cS {n W : Nat} {k : List Tri} (h : KdOk n W k) (hW : W ≤ 2 ^ 31) {t : Tri} (ht : t ∈ k) : Sz 40 t.c := by
  obtain ⟨w, h0, h1⟩ := h.c t ht
  exact sz01 h.W0 w (by grind) h1 (by omega)
/-- a part of a kind is a kind -/
theorem KdOk.sub {n W : Nat} {k l : List Tri} (h : KdOk n W k) (s : l.Sublist k) : KdOk n W l where
  W0 := h.W0
  len := Nat.le_trans s.length_le h.len
  st := fun t ht => h.st t (s.subset ht)
  c := fun t ht => h.c t (s.subset ht)
  sum := by
    have hc : ∀ t ∈ k, 0 ≤ t.c := fun t ht => by have := (h.c t ht).2.1; grind
    have h1 := h.sum
    have : ∀ {k l : List Tri}, l.Sublist k → (∀ t ∈ k, 0 ≤ t.c) → (l.map (·.c)).sum ≤ (k.map (·.c)).sum := by
      intro k l s
      induction s with
      | slnil => exact fun _ => Rat.le_refl
      | cons a _ ih =>
        intro h
        have h1 := ih fun t ht => h t (List.mem_cons_of_mem _ ht)
        have h2 := h a List.mem_cons_self
        rw [List.map_cons, List.sum_cons]
        grind
      | cons_cons a _ ih =>
        intro h
        have h1 := ih fun t ht => h t (List.mem_cons_of_mem _ ht)
        rw [List.map_cons, List.map_cons, List.sum_cons, List.sum_cons]
        grind
    have := this s hc
    grind
  rise := h.rise.sublist s
def pN (f : Nat) (t : Tri) : Bool := decide (t.nx = f)
def pS (j : Nat) (t : Tri) : Bool := decide (t.st = j)
/-- a list that chances are put to, triple by triple -/
theorem put_row {n j : Nat} {g : Nat → Rat} {x : Rat} (hj : j < n) : ((List.range n).map fun m => enc (g m)).set j (enc x) = (List.range n).map fun m => enc (if m = j then x else g m) := by
  rw [map_set hj]
  refine List.map_congr_left fun m _ => ?_
  split <;> rfl
def rowN (n : Nat) (k : List Tri) : List PyData := (List.range n).map fun f => enc (cp k (pN f))
def rowsD (ks : List (List Tri)) : PyData := .tuple (ks.map fun k => .tuple (rowN ks.length k))
theorem const_row (n : Nat) : (List.range n).map (fun _ => enc 0) = List.replicate n (enc 0) := by
  rw [List.map_const', List.length_range]
theorem rowN_len {n : Nat} {k : List Tri} : (rowN n k).length = n := by
  unfold rowN
  rw [List.length_map, List.length_range]
theorem rowN_at {n j : Nat} {k : List Tri} (h : j < n) : atI (rowN n k) (j : Int) = some (enc (cp k (pN j))) := at_range h
theorem rowN_put {n : Nat} {k : List Tri} {t : Tri} (h : t.nx < n) : (rowN n k).set t.nx (enc (cp k (pN t.nx) + t.c)) = rowN n (k ++ [t]) := by
  unfold rowN
  rw [put_row h]
  refine List.map_congr_left fun m _ => ?_
  rw [cp_snoc]
  unfold pN
  by_cases e : m = t.nx
  · subst e
    rw [if_pos rfl, if_pos (decide_eq_true rfl)]
  · rw [if_neg e, if_neg (by simp; exact fun z => e z.symm)]
    congr 1
    grind
theorem chain_q {W : Nat} {ks : List (List Tri)} {f : Feed} (h : KsOk W ks) (hW : W ≤ 2 ^ 31) : F_chain [.dat (kindsD ks)] f = .ok (.dat (rowsD ks)) f := by
  apply ev_is
  rw [u_chain, ev_dEnd]
  unfold S_chain kindsD
  simp
  refine ev_forT (I := fun (rest : List (List Tri)) ρ g => g = f ∧ ∃ done s2 s3 s4 s5 s6 s7, done ++ rest = ks ∧ ρ = [.dat (.tuple (ks.map kindD)), .own (done.map fun k => .tuple (rowN ks.length k)), s2, s3, s4, s5, s6, s7]) ?_ ?_ ks _ f ⟨rfl, [], _, _, _, _, _, _, rfl, rfl⟩
  · rintro k rest ρ g ⟨rfl, done, s2, s3, s4, s5, s6, s7, e, rfl⟩
    have hk : KdOk ks.length W k := h.ok k (by rw [← e]; simp)
    have hn4 := h.n4
    have hdl : done.length < 100000 := by
      have := congrArg List.length e
      rw [List.length_append, List.length_cons] at this
      omega
    refine ⟨_, rfl, ?_⟩
    have lc : lcN (.one 7) cYes (cC d_NOUGHT) [.dat (.tuple (ks.map kindD)), .own (done.map fun k => .tuple (rowN ks.length k)), .dat (kindD k), s3, s4, s5, s6, .emp] (ks.map kindD) [] g = .ok (ks.map fun _ => enc 0) g := by
      refine lc_map (by omega) fun x hx => ⟨_, rfl, ?_⟩
      simp
      rfl
    have e0 : (ks.map fun _ => enc 0) = rowN ks.length [] := by
      rw [List.map_const']
      unfold rowN
      rw [← const_row]
      rfl
    simp
    rw [lc]
    simp [e0, kindD]
    refine ev_forT (I := fun (rest2 : List Tri) ρ f2 => f2 = g ∧ ∃ dn s4 s5 s6, dn ++ rest2 = k ∧ ρ = [.dat (.tuple (ks.map kindD)), .own (done.map fun k => .tuple (rowN ks.length k)), .dat (.tuple (k.map triD)), .own (rowN ks.length dn), s4, s5, s6, s7]) ?_ ?_ k _ g ⟨rfl, [], _, _, _, rfl, rfl⟩
    · rintro t rest2 ρ f2 ⟨rfl, dn, s4, s5, s6, e2, rfl⟩
      have ht : t ∈ k := by rw [← e2]; simp
      have hd : KdOk ks.length W dn := hk.sub (by rw [← e2]; exact List.sublist_append_left _ _)
      have p1 := plus_q (f := f2) (hd.cpS hW (pN t.nx)) (hk.cS hW ht) (by decide)
      have hx := (hk.st t ht).2.2
      refine ⟨_, rfl, ?_⟩
      simp [-Dn.atI_nat, rowN_at hx, p1, rowN_len, hx, rowN_put hx]
      exact ⟨dn ++ [t], by rw [← e2]; simp, rfl⟩
    · rintro ρ f2 ⟨rfl, dn, s4, s5, s6, e2, rfl⟩
      simp at e2
      subst e2
      simp [hdl]
      exact ⟨done ++ [dn], by rw [← e]; simp, by simp⟩
  · rintro ρ g ⟨rfl, done, s2, s3, s4, s5, s6, s7, e, rfl⟩
    simp at e
    subst e
    simp
    rfl
/-- the life of how long a kind lasts -/
def rowS (k : List Tri) : List Rat := (List.range 6).map fun j => cp k (pS (j + 1))
def lifeK (k : List Tri) : Life := shortL ⟨rowS k, 0⟩
def rowSD (k : List Tri) : List PyData := (List.range 6).map fun j => enc (cp k (pS (j + 1)))
theorem rowSD_eq {k : List Tri} : rowSD k = (rowS k).map enc := by
  unfold rowSD rowS
  rw [List.map_map]
  rfl
theorem rowSD_len {k : List Tri} : (rowSD k).length = 6 := by
  unfold rowSD
  rw [List.length_map, List.length_range]
theorem rowSD_at {j : Nat} {k : List Tri} (h : j < 6) : atI (rowSD k) (j : Int) = some (enc (cp k (pS (j + 1)))) := at_range h
theorem rowSD_put {k : List Tri} {t : Tri} {j : Nat} (hj : t.st = j + 1) (h : j < 6) : (rowSD k).set j (enc (cp k (pS (j + 1)) + t.c)) = rowSD (k ++ [t]) := by
  unfold rowSD
  rw [put_row (g := fun j => cp k (pS (j + 1))) h]
  refine List.map_congr_left fun m _ => ?_
  rw [cp_snoc]
  unfold pS
  rw [hj]
  by_cases e : m = j
  · subst e
    rw [if_pos rfl, if_pos (decide_eq_true rfl)]
  · rw [if_neg e, if_neg (by simp; exact fun z => e z.symm)]
    congr 1
    grind
theorem KdOk.plain {n W : Nat} {k : List Tri} (h : KdOk n W k) (hW : W ≤ 2 ^ 31) : Plain ⟨rowS k, 0⟩ := by
  refine ⟨fun x hx => ?_, sz01 (D := 1) (by decide) wh_0 Rat.le_refl (by show (0 : Rat) ≤ 1; decide) (by decide)⟩
  obtain ⟨j, _, rfl⟩ := List.mem_map.mp hx
  exact (h.cpS hW _).up (by decide)
theorem kind_life_q {W i : Nat} {ks : List (List Tri)} {k : List Tri} {f : Feed} (h : KsOk W ks) (hW : W ≤ 2 ^ 31) (hi : ks[i]? = some k) : F_kind_life [.dat (kindsD ks), .dat (.int i)] f = .ok (.dat (lifeD (lifeK k))) f := by
  have hk : KdOk ks.length W k := h.ok k (List.mem_of_getElem? hi)
  apply ev_is
  rw [u_kind_life, ev_dEnd]
  unfold S_kind_life kindsD
  have lc : lcN (.one 6) cYes (cC d_NOUGHT) [.dat (.tuple (ks.map kindD)), .dat (.int i), .emp, .emp, .emp, .emp, .emp] (rangeD 0 6) [] f = .ok (rowSD []) f := by
    rw [range0]
    refine lc_map (by rw [List.length_range]; decide) fun x hx => ⟨_, rfl, ?_⟩
    simp
    rfl
  have ha : atI (ks.map kindD) (i : Int) = some (kindD k) := by rw [Dn.atI_nat, List.getElem?_map, hi]; rfl
  simp [smallI_ok (n := 6) (by decide) (by decide), lc, -Dn.atI_nat, ha, kindD]
  refine ev_forT (I := fun (rest2 : List Tri) ρ f2 => f2 = f ∧ ∃ dn s3 s4 s5, dn ++ rest2 = k ∧ ρ = [.dat (.tuple (ks.map kindD)), .dat (.int i), .own (rowSD dn), s3, s4, s5, .emp]) ?_ ?_ k _ f ⟨rfl, [], _, _, _, rfl, rfl⟩
  · rintro t rest2 ρ f2 ⟨rfl, dn, s3, s4, s5, e2, rfl⟩
    have ht : t ∈ k := by rw [← e2]; simp
    have hd : KdOk ks.length W dn := hk.sub (by rw [← e2]; exact List.sublist_append_left _ _)
    obtain ⟨h1, h6, _⟩ := hk.st t ht
    obtain ⟨j, hj⟩ : ∃ j, t.st = j + 1 := ⟨t.st - 1, by omega⟩
    have p1 := plus_q (f := f2) (hd.cpS hW (pS (j + 1))) (hk.cS hW ht) (by decide)
    have hx : j < 6 := by omega
    have ej : ((t.st : Nat) : Int) - 1 = (j : Int) := by omega
    refine ⟨_, rfl, ?_⟩
    simp [-Dn.atI_nat, ej, rowSD_at hx, p1, rowSD_len, hx, rowSD_put hj hx]
    exact ⟨dn ++ [t], by rw [← e2]; simp, rfl⟩
  · rintro ρ f2 ⟨rfl, dn, s3, s4, s5, e2, rfl⟩
    simp at e2
    subst e2
    have q := short_q (f := f2) (hk.plain hW)
    have e : PyData.tuple [.tuple (rowSD dn), .tuple [.int 0, .int 1]] = lifeD ⟨rowS dn, 0⟩ := by
      rw [rowSD_eq]
      rfl
    simp [e, q]
    rfl
theorem lowest_big {p : Int} {q : Nat} {f : Feed} (hq : 0 < q) (h2 : q < 2 ^ 8500) : F_q_lowest [.dat (.int p), .dat (.int q)] f = .ok (.dat (enc (mkRat p q))) f := by
  have hg : 0 < Nat.gcd p.natAbs q := Nat.gcd_pos_of_pos_right _ hq
  have hl : Nat.gcd p.natAbs q ≤ q := Nat.gcd_le_right _ hq
  have d1 : ∀ c : Int, oDiv (.int c) (.int (Nat.gcd p.natAbs q : Nat)) = some (.dat (.int (c / (Nat.gcd p.natAbs q : Nat)))) := fun c => oDiv_int (by omega) (Nat.lt_trans (log2_small (k := 8500) (by rw [Int.natAbs_natCast]; omega) (by decide)) (by decide))
  rw [← low_eq hq]
  apply ev_is
  rw [u_q_lowest, ev_dEnd]
  unfold S_q_lowest
  simp
  refine ev_while (I := fun n ρ g => g = f ∧ ∃ x y : Nat, n = y ∧ ρ = [.dat (.int p), .dat (.int q), .dat (.int x), .dat (.int y)] ∧ Nat.gcd x y = Nat.gcd p.natAbs q) (n := q) ?_ ⟨rfl, p.natAbs, q, rfl, rfl, rfl⟩
  rintro n ρ g ⟨rfl, x, y, rfl, rfl, e⟩
  simp
  refine ⟨fun h => ?_, fun h => ?_⟩
  · have hy : (0 : Int) < n := by omega
    simp [oMod_int hy]
    exact ⟨x % n, Nat.mod_lt _ (by omega), n, ⟨rfl, by omega⟩, by rw [← e, Nat.gcd_comm x n, Nat.gcd_rec n x]; exact Nat.gcd_comm _ _⟩
  · subst h
    rw [Nat.gcd_zero_right] at e
    subst e
    simp [d1, low]
theorem q_add_q {n : Nat} {x y : Rat} {f : Feed} (hx : Sz n x) (hy : Sz n y) (hn : n ≤ 4000) : F_q_add [.dat (enc x), .dat (enc y)] f = .ok (.dat (enc (x + y))) f := by
  have m1 : oMul (.int x.num) (.int (y.den : Nat)) = some (.dat (.int (x.num * y.den))) := oMul_int (mulC_sz hx.num (by rw [Int.natAbs_natCast]; exact hy.den) hn)
  have m2 : oMul (.int y.num) (.int (x.den : Nat)) = some (.dat (.int (y.num * x.den))) := oMul_int (mulC_sz hy.num (by rw [Int.natAbs_natCast]; exact hx.den) hn)
  have m3 : oMul (.int (x.den : Nat)) (.int (y.den : Nat)) = some (.dat (.int ((x.den * y.den : Nat) : Int))) := by
    rw [oMul_int (mulC_sz (by rw [Int.natAbs_natCast]; exact hx.den) (by rw [Int.natAbs_natCast]; exact hy.den) hn), Int.natCast_mul]
  have b3 := prod_lt hx.den hy.den hn
  have kk : (2 : Nat) ^ 8000 ≤ 2 ^ 8500 := by decide
  have p := lowest_big (f := f) (p := x.num * y.den + y.num * x.den) (Nat.mul_pos x.den_pos y.den_pos) (by omega)
  rw [add_eq] at p
  apply ev_is
  rw [u_q_add, ev_dEnd]
  unfold S_q_add
  rw [Int.natCast_mul] at m3 p
  simp [m1, m2, m3, p]
theorem q_all_d {d0 : PyData} {D B L : Nat} {xs : List Rat} {f : Feed} (hd : seqOf d0 = some (xs.map enc)) (hD : 0 < D) (hB : 0 < B) (hw : ∀ x ∈ xs, Wh D x) (hb : ∀ x ∈ xs, Ab (B : Rat) x) (hL : xs.length ≤ L) (hs : B * (L + 1) * D < 2 ^ 4000) : F_q_all [.dat d0] f = .ok (.dat (enc xs.sum)) f := by
  apply ev_is
  rw [u_q_all, ev_dEnd]
  unfold S_q_all
  simp [hd]
  refine ev_forT (I := fun (rest : List Rat) ρ g => g = f ∧ ∃ (acc : Rat) (k : Nat) (s2 : Slot), ρ = [.dat d0, .dat (enc acc), s2] ∧ acc + rest.sum = xs.sum ∧ Wh D acc ∧ Ab ((B * k : Nat) : Rat) acc ∧ k + rest.length ≤ L ∧ (∀ x ∈ rest, Wh D x ∧ Ab (B : Rat) x)) ?_ ?_ xs _ f ⟨rfl, 0, 0, .emp, rfl, by grind, wh_0, ab_0 Rat.natCast_nonneg, by omega, fun x hx => ⟨hw x hx, hb x hx⟩⟩
  · rintro x rest ρ g ⟨rfl, acc, k, s2, rfl, e, w, a, l, h⟩
    obtain ⟨hx1, hx2⟩ := h x List.mem_cons_self
    rw [List.length_cons] at l
    rw [List.sum_cons] at e
    have hm : ∀ j, j ≤ L → (B * (j + 1)) * D < 2 ^ 4000 := fun j hj => Nat.lt_of_le_of_lt (Nat.mul_le_mul_right D (Nat.mul_le_mul_left B (by omega))) hs
    have s1 : Sz 4000 acc := ab_sz hD w (a.up (Rat.natCast_le_natCast.mpr (Nat.mul_le_mul_left B (Nat.le_succ k)))) (Nat.mul_pos hB (Nat.succ_pos k)) (hm k (by omega))
    have s2 : Sz 4000 x := ab_sz hD hx1 hx2 hB (by have := hm 0 (by omega); rwa [Nat.zero_add, Nat.mul_one] at this)
    have p := q_add_q (f := g) s1 s2 (Nat.le_refl _)
    refine ⟨_, rfl, ?_⟩
    simp [p]
    refine ⟨acc + x, rfl, by grind, w.add hx1, k + 1, ?_, by omega, fun y hy => h y (List.mem_cons_of_mem _ hy)⟩
    have := a.add hx2
    rw [← Rat.natCast_add] at this
    rw [← Rat.natCast_mul, Nat.mul_succ]
    exact this
  · rintro ρ g ⟨rfl, acc, k, s2, rfl, e, w, a, l, h⟩
    simp
    rw [List.sum_nil] at e
    have : acc = xs.sum := by grind
    rw [this]
theorem q_all_gd {K n e b : Nat} {f : Feed} {d0 : PyData} {xs : List Rat} (hd : seqOf d0 = some (xs.map enc)) (h : ∀ x ∈ xs, G K n e x) (K0 : 0 < K) (hK : K ≤ 2 ^ b) (hl : xs.length ≤ 255) (hb : b * n + e + 8 < 4000) : F_q_all [.dat d0] f = .ok (.dat (enc xs.sum)) f :=
  q_all_d (D := K ^ n) (B := 2 ^ e) (L := 255) hd (Nat.pow_pos K0) (Nat.pow_pos (by decide)) (fun x hx => (h x hx).w) (fun x hx => (h x hx).a) hl (by
    rw [show 2 ^ e * (255 + 1) = 2 ^ (e + 8) by rw [Nat.pow_add]]
    exact g_size hK hb)
theorem KdOk.g {n W : Nat} {k : List Tri} (h : KdOk n W k) {t : Tri} (ht : t ∈ k) : G W 1 0 t.c := G.of (h.c t ht).1 (Nat.dvd_refl _) (by have := (h.c t ht).2.1; grind) (h.c t ht).2.2
/-- some triples of a kind, their chances added -/
theorem q_all_cp {n W : Nat} {k : List Tri} {p : Tri → Bool} {f : Feed} (h : KdOk n W k) (hW : W ≤ 2 ^ 31) : F_q_all [.dat (.list ((k.filter p).map fun t => enc t.c))] f = .ok (.dat (enc (cp k p))) f := by
  have e : ((k.filter p).map fun t => enc t.c) = ((k.filter p).map (·.c)).map enc := by rw [List.map_map]; rfl
  rw [e]
  refine q_all_gd (K := W) (n := 1) (e := 0) (b := 31) rfl (fun x hx => ?_) h.W0 hW ?_ (by decide)
  · obtain ⟨t, ht, rfl⟩ := List.mem_map.mp hx
    exact h.g (List.mem_filter.mp ht).1
  · rw [List.length_map]
    have := List.length_filter_le p k
    have := h.len
    omega
theorem lifeK_eqS {k : List Tri} : lifeK k = ⟨(tz (rowS k).reverse).reverse, 0⟩ := by
  unfold lifeK shortL shortR
  rw [if_pos (.inr rfl)]
end Fp
namespace Fp
open PySem PySem.Spec L2 Dn
/-- a bounded life of weights -/
abbrev bnd (ws : List Nat) (T : Nat) : PyData := .tuple [.tuple (ws.map fun w => low (w : Nat) T), rat 0 1]
def wt (ws : List Nat) (i : Nat) : Nat := ws.getD i 0
end Fp
namespace Fp
open PySem PySem.Spec L2 Dn
theorem q_rows_q {W : Nat} {ks : List (List Tri)} {f : Feed} (h : KsOk W ks) (hW : W ≤ 2 ^ 31) : F_q_rows_v2 [.dat (kindsD ks)] f = .ok (.dat (rowsD ks)) f := by
  have hn4 := h.n4
  apply ev_is
  rw [u_q_rows_v2, ev_dEnd]
  unfold S_q_rows_v2 kindsD
  simp
  refine ev_forT (I := fun (rest : List (List Tri)) ρ g => g = f ∧ ∃ done s2, done ++ rest = ks ∧ ρ = [.dat (.tuple (ks.map kindD)), .own (done.map fun k => .tuple (rowN ks.length k)), s2, .emp, .emp]) ?_ ?_ ks _ f ⟨rfl, [], _, rfl, rfl⟩
  · rintro k rest ρ g ⟨rfl, done, s2, e, rfl⟩
    have hk : KdOk ks.length W k := h.ok k (by rw [← e]; simp)
    have hkl := hk.len
    have hdl : done.length < 100000 := by
      have := congrArg List.length e
      rw [List.length_append, List.length_cons] at this
      omega
    refine ⟨_, rfl, ?_⟩
    have lc2 : ∀ j : Nat, lcN (.one 4) (cT (cBin oEq (cBin oIx (cVar 4) (cC (.int 1))) (cVar 3))) (cBin oIx (cVar 4) (cC (.int 2))) [.dat (.tuple (ks.map kindD)), .own (done.map fun k => .tuple (rowN ks.length k)), .dat (.tuple (k.map triD)), .dat (.int j), .emp] (k.map triD) [] g = .ok ((k.filter (pN j)).map fun t => enc t.c) g := fun j => by
      refine lc_pure (by omega) fun t ht => ⟨_, rfl, ?_, fun _ => ?_⟩
      · have e0 : decide ((t.nx : Int) = (j : Int)) = pN j t := by
          unfold pN
          rw [decide_eq_decide]
          omega
        unfold triD
        simp [e0]
      · unfold triD
        simp
    have lc : lcN (.one 3) cYes (cCall F_q_all [cLc (iSeq (cVar 2)) (.one 4) (cT (cBin oEq (cBin oIx (cVar 4) (cC (.int 1))) (cVar 3))) (cBin oIx (cVar 4) (cC (.int 2))) [4]]) [.dat (.tuple (ks.map kindD)), .own (done.map fun k => .tuple (rowN ks.length k)), .dat (.tuple (k.map triD)), .emp, .emp] (rangeD 0 ks.length) [] g = .ok (rowN ks.length k) g := by
      rw [range0]
      refine lc_map (by rw [List.length_range]; omega) fun j hj => ⟨_, rfl, ?_⟩
      simp [lc2, q_all_cp hk hW]
    simp [kindD, smallI_ok (n := (ks.length : Int)) (by omega) (by omega)]
    rw [lc]
    simp [hdl]
    exact ⟨done ++ [k], by rw [← e]; simp, by simp⟩
  · rintro ρ g ⟨rfl, done, s2, e, rfl⟩
    simp at e
    subst e
    simp
    rfl
theorem lifeK_eq {k : List Tri} : lifeK k = ⟨(tz (rowS k).reverse).reverse, 0⟩ := by
  unfold lifeK shortL shortR
  rw [if_pos (.inr rfl)]
theorem lifeK_row {k : List Tri} : (lifeK k).row.length ≤ 6 ∧ ∀ x ∈ (lifeK k).row, x ∈ rowS k := by
  rw [lifeK_eq]
  obtain ⟨n, e⟩ := tz_split (rowS k).reverse
  have h1 : (rowS k).reverse.length = 6 := by
    rw [List.length_reverse]
    unfold rowS
    rw [List.length_map, List.length_range]
  constructor
  · show (tz (rowS k).reverse).reverse.length ≤ 6
    rw [List.length_reverse]
    rw [e, List.length_append] at h1
    omega
  · intro x hx
    have : x ∈ (rowS k).reverse := by
      rw [e]
      exact List.mem_append_right _ (List.mem_reverse.mp hx)
    exact List.mem_reverse.mp this
end Fp
namespace Fp
open PySem PySem.Spec L2 Dn
end Fp
namespace Fp
open PySem PySem.Spec L2 Dn
section
variable {p q : Int} {f : Feed} {x y : Rat}
end
end Fp
namespace Fp
open PySem PySem.Spec L2 Dn
def isW : PyData → Bool
  | .int _ => true
  | _ => false
def isr2 : PyData → PyData → Bool
  | .int p, .int q => decide (0 < q ∧ Nat.gcd p.natAbs q.natAbs = 1)
  | _, _ => false
def isr : PyData → Bool
  | .tuple [x, y] => isr2 x y
  | _ => false
theorem is_whole_any {d : PyData} {f : Feed} (hd : okTy d = true) : F_is_whole [.dat d] f = .ok (.dat (.bool (isW d))) f := by
  apply ev_is
  rw [u_is_whole, ev_dEnd]
  unfold S_is_whole
  cases d with
  | dict kvs => simp [isW, hd]
  | _ => simp [isW]
theorem isr2_no {x y : PyData} (h : ¬ (isW x = true ∧ isW y = true)) : isr2 x y = false := by
  cases x <;> cases y <;> simp [isr2, isW] at h ⊢
theorem isW_int {x : PyData} (h : isW x = true) : ∃ i, x = .int i := by
  cases x <;> simp [isW] at h ⊢
theorem two_or (xs : List PyData) : (∃ x y, xs = [x, y]) ∨ (xs.length ≠ 2 ∧ isr (.tuple xs) = false) := by
  match xs with
  | [] => exact .inr ⟨by simp, rfl⟩
  | [x] => exact .inr ⟨by simp, rfl⟩
  | [x, y] => exact .inl ⟨x, y, rfl⟩
  | x :: y :: z :: r => exact .inr ⟨by simp, rfl⟩
theorem is_ratio_any {d : PyData} {f : Feed} {e b k : Nat} (hd : Th e b k d) : F_is_ratio [.dat d] f = .ok (.dat (.bool (isr d))) f := by
  apply ev_is
  rw [u_is_ratio, ev_dEnd]
  unfold S_is_ratio
  cases d with
  | tuple xs =>
    rcases two_or xs with ⟨x, y, rfl⟩ | ⟨h, e⟩
    · obtain ⟨j, _, hL⟩ := hd.tup
      have wx := fun g => is_whole_any (f := g) (hL.mem (d := x) (by simp)).oky
      have wy := fun g => is_whole_any (f := g) (hL.mem (d := y) (by simp)).oky
      by_cases hx : isW x = true
      · by_cases hy : isW y = true
        · obtain ⟨p, rfl⟩ := isW_int hx
          obtain ⟨q, rfl⟩ := isW_int hy
          by_cases hq : 1 ≤ q
          · obtain ⟨n, rfl⟩ := Int.eq_ofNat_of_zero_le (show 0 ≤ q by omega)
            simp [isr, isr2, isW, wx, wy, common_ok, hq]
            rw [decide_eq_true (show 0 < n by omega), Bool.true_and]
            rw [decide_eq_decide]
            omega
          · have hq2 : ¬ 0 < q := by omega
            simp [isr, isr2, isW, wx, wy, hq, hq2]
        · simp [isr, isr2_no, wx, wy, hx, hy]
      · simp [isr, isr2_no, wx, wy, hx]
    · have h2 : ¬ ((xs.length : Int) = 2) := by omega
      simp [h2, e]
  | dict kvs =>
    have hok := hd.oky
    simp [hok, isr]
  | _ => simp [isr]
theorem th_enc {x : Rat} {n : Nat} (h : Sz n x) : Th n (2 * n + 4) 1 (enc x) := by
  have a : Th n (n + 1) 0 (.int x.num) := th_int h.num
  have b : Th n (n + 1) 0 (.int (x.den : Nat)) := th_int (by rw [Int.natAbs_natCast]; exact h.den)
  exact (th_tuple (thL_cons a (thL_one b))).up (Nat.le_refl _) (by omega) (Nat.le_refl _)
def LastT (i : Nat) (d : PyData) : Prop := Th (204 + 4 * i) (2 ^ i * 1200 - 160) (6 + 5 * i) d
theorem LastT.ok {i : Nat} {d : PyData} (h : LastT i d) (hi : i ≤ 3) : Th 1850 16000 60 d := by
  have : 2 ^ i ≤ 2 ^ 3 := Nat.pow_le_pow_right (by decide) hi
  exact Th.up h (by omega) (by omega) (by omega)
end Fp
namespace Fp
open PySem PySem.Spec L2 Dn
theorem isr_of (x : Rat) : isr (enc x) = true := by
  show isr2 (.int x.num) (.int (x.den : Nat)) = true
  have h := x.den_pos
  have g := x.reduced
  show decide (0 < ((x.den : Nat) : Int) ∧ Nat.gcd x.num.natAbs ((x.den : Nat) : Int).natAbs = 1) = true
  rw [decide_eq_true_eq]
  exact ⟨by omega, by simpa using g⟩
section
variable {e b k n : Nat} {d : PyData} {f : Feed}
theorem szE_of {x : Rat} (h : Th e b k (enc x)) : Sz e x := by
  obtain ⟨j, _, hL⟩ := h.tup
  have a := (hL.mem (d := .int x.num) (by simp [enc])).t
  have c := (hL.mem (d := .int (x.den : Nat)) (by simp [enc])).t
  simp only [thg, decide_eq_true_eq, Int.natAbs_natCast] at a c
  exact ⟨a, c⟩
theorem is_place_any {i : Int} : F_is_place [.dat (.int i), .dat (.int n)] f = .ok (.dat (.bool (decide (0 ≤ i ∧ i < n)))) f := by
  have w := fun g => is_whole_any (d := .int i) (f := g) rfl
  apply ev_is
  rw [u_is_place, ev_dEnd]
  unfold S_is_place
  have e1 : isW (.int i) = true := rfl
  rw [e1] at w
  by_cases h : 0 ≤ i
  · simp [w, h]
  · simp [w, h]
theorem is_place_no (hd : okTy d = true) (h : isW d = false) : F_is_place [.dat d, .dat (.int n)] f = .ok (.dat (.bool false)) f := by
  have w := fun g => is_whole_any (d := d) (f := g) hd
  rw [h] at w
  apply ev_is
  rw [u_is_place, ev_dEnd]
  unfold S_is_place
  simp [w]
end
end Fp
namespace Fp
open PySem PySem.Spec L2 Dn
def plB (n : Nat) : PyData → Bool
  | .int i => decide (0 ≤ i ∧ i < n)
  | _ => false
def prB (n : Nat) : PyData → Bool
  | .tuple [a, b] => plB n a && plB n b
  | _ => false
def wsB (n : Nat) : PyData → Bool
  | .tuple xs => decide (xs.length = n) && xs.all isr
  | _ => false
def ypB (n : Nat) : PyData → Bool
  | .tuple ys => decide (ys.length ≤ 3) && ys.all (prB n)
  | _ => false
def shB (n : Nat) : PyData → Bool
  | .tuple [.str w, h, x, y] => decide (w = Str.ofString "share") && (plB n h && (wsB n x && ypB n y))
  | _ => false
def risD : List PyData → Bool
  | [] => true
  | x :: r => match x, r with
    | .int _, [] => true
    | .int a, .int b :: _ => decide (a < b) && risD r
    | _, _ => false
def riB (n : Nat) : PyData → Bool
  | .tuple xs => !xs.isEmpty && (xs.all (plB n) && risD xs)
  | _ => false
def apB (n : Nat) : PyData → Bool
  | .tuple [.str w, a, b] => decide (w = Str.ofString "apart") && (riB n a && riB n b)
  | _ => false
def nmB (w : Str) (n : Nat) : PyData → Bool
  | .tuple (.str s :: xs) => decide (xs.length + 1 = n) && decide (s = w)
  | _ => false
theorem plB_isW {n : Nat} {d : PyData} (h : isW d = false) : plB n d = false := by
  cases d <;> first | rfl | simp [isW] at h
theorem all_map6 {τ : Type} (l : List τ) (p : τ → Bool) : oAll (.list (l.map fun x => PyData.bool (p x))) = some (.dat (.bool (l.all p))) := by
  have := oAll_bools (ns := l.map p)
  rw [List.map_map] at this
  refine this.trans ?_
  simp [List.all_map]
section
variable {e b k n : Nat} {d : PyData} {f : Feed}
theorem is_place_D (hd : Th e b k d) : F_is_place [.dat d, .dat (.int n)] f = .ok (.dat (.bool (plB n d))) f := by
  by_cases h : isW d = true
  · obtain ⟨i, rfl⟩ := isW_int h
    rw [is_place_any]
    rfl
  · rw [Bool.not_eq_true] at h
    rw [is_place_no hd.oky h, plB_isW h]
theorem is_named_any (hd : Th e b k d) {w : Str} {n : Nat} (hn : 1 ≤ n) : F_is_named [.dat d, .dat (.str w), .dat (.int n)] f = .ok (.dat (.bool (nmB w n d))) f := by
  apply ev_is
  rw [u_is_named, ev_dEnd]
  unfold S_is_named
  cases d with
  | tuple xs =>
    obtain ⟨kk, _, hL⟩ := hd.tup
    cases xs with
    | nil =>
      have z : ¬ (0 : Int) = n := by omega
      simp [nmB, z]
    | cons x r =>
      by_cases c : r.length + 1 = n
      · have ci : (r.length : Int) + 1 = n := by omega
        cases x with
        | str s => simp [nmB, ci, c]
        | dict kvs =>
          have := (hL.mem (d := .dict kvs) (by simp)).oky
          simp [nmB, ci, this]
        | _ => simp [nmB, ci]
      · have ci : ¬ (r.length : Int) + 1 = n := by omega
        cases x <;> simp [nmB, ci, c]
  | dict kvs =>
    have := hd.oky
    simp [nmB, this]
  | _ => simp [nmB]
theorem is_pair_any (hd : Th e b k d) : F_is_pair_of_kinds [.dat d, .dat (.int n)] f = .ok (.dat (.bool (prB n d))) f := by
  apply ev_is
  rw [u_is_pair_of_kinds, ev_dEnd]
  unfold S_is_pair_of_kinds
  cases d with
  | tuple xs =>
    obtain ⟨kk, _, hL⟩ := hd.tup
    by_cases c : xs.length = 2
    · match xs, c with
      | [x, y], _ =>
        have lc : lcN (.one 2) cYes (cCall F_is_place [cVar 2, cVar 1]) [.dat (.tuple [x, y]), .dat (.int n), .emp] [x, y] [] f = .ok ([x, y].map fun t => .bool (plB n t)) f := by
          have := lc_map (T := .one 2) (e := cCall F_is_place [cVar 2, cVar 1]) (ρ := [.dat (.tuple [x, y]), .dat (.int n), .emp]) (f := f) (xs := [x, y]) (enc := id) (g := fun t => .bool (plB n t)) (by simp) fun t ht => ⟨_, rfl, by
            have q := is_place_D (n := n) (f := f) (hL.mem ht)
            simp [q]⟩
          rwa [List.map_id] at this
        have al := all_map6 [x, y] (plB n)
        have e1 : prB n (.tuple [x, y]) = [x, y].all (plB n) := by simp [prB]
        rw [e1]
        generalize [x, y].map (fun t => PyData.bool (plB n t)) = bs at lc al
        simp [lc, al]
    · have c2 : ¬ (xs.length : Int) = 2 := by omega
      have e1 : prB n (.tuple xs) = false := by
        unfold prB
        split
        · rename_i a b e
          injection e with e
          rw [e] at c
          exact absurd rfl c
        · rfl
      simp [e1, c2]
  | dict kvs =>
    have := hd.oky
    simp [prB, this]
  | _ => simp [prB]
theorem is_share_any (hd : Th e b k d) (hb : b ≤ 90000) : F_is_share_shape [.dat d, .dat (.int n)] f = .ok (.dat (.bool (shB n d))) f := by
  have nm := is_named_any (f := f) hd (w := Str.ofString "share") (n := 4) (by decide)
  simp at nm
  apply ev_is
  rw [u_is_share_shape, ev_dEnd]
  unfold S_is_share_shape
  cases c : nmB (Str.ofString "share") 4 d with
  | false =>
    have e1 : shB n d = false := by
      unfold shB
      split
      · rename_i w h x y
        have : (decide (3 + 1 = 4) && decide (w = Str.ofString "share")) = false := c
        simp at this
        rw [decide_eq_false this, Bool.false_and]
      · rfl
    rw [c] at nm
    simp [nm, e1]
  | true =>
    rw [c] at nm
    obtain ⟨h, x, y, rfl⟩ : ∃ h x y, d = .tuple [.str (Str.ofString "share"), h, x, y] := by
      unfold nmB at c
      split at c
      · rename_i s xs
        rw [Bool.and_eq_true, decide_eq_true_eq, decide_eq_true_eq] at c
        obtain ⟨c1, rfl⟩ := c
        match xs, c1 with
        | [h, x, y], _ => exact ⟨h, x, y, rfl⟩
      · cases c
    obtain ⟨kk, _, hL⟩ := hd.tup
    have hh := hL.mem (d := h) (by simp)
    have hx := hL.mem (d := x) (by simp)
    have hy := hL.mem (d := y) (by simp)
    have pl := is_place_D (n := n) (f := f) hh
    have ix1 : oIx (.tuple [.str (Str.ofString "share"), h, x, y]) (.int 1) = some (.dat h) := rfl
    have sl : oSl (some 2) none (.tuple [.str (Str.ofString "share"), h, x, y]) = some (.dat (.tuple [x, y])) := rfl
    have es : shB n (.tuple [.str (Str.ofString "share"), h, x, y]) = (plB n h && (wsB n x && ypB n y)) := by
      show (decide (Str.ofString "share" = Str.ofString "share") && _) = _
      rw [decide_eq_true rfl]
      rfl
    rw [es]
    have pd : Tgt.put (.many [2, 3]) (.tuple [x, y]) [.dat (.tuple [.str (Str.ofString "share"), h, x, y]), .dat (.int n), .emp, .emp, .emp] = some [.dat (.tuple [.str (Str.ofString "share"), h, x, y]), .dat (.int n), .dat x, .dat y, .emp] := rfl
    generalize PyData.tuple [.str (Str.ofString "share"), h, x, y] = dd at *
    cases hp : plB n h with
    | false =>
      rw [hp] at pl
      simp [nm, ix1, pl]
    | true =>
      rw [hp] at pl
      refine ev_step (fun ρ g => g = f ∧ ρ = [.dat dd, .dat (.int n), .emp, .emp, .emp]) (by simp [nm, ix1, pl]) ?_
      rintro _ f ⟨rfl, rfl⟩
      refine ev_step (fun ρ g => g = f ∧ ρ = [.dat dd, .dat (.int n), .dat x, .dat y, .emp]) (by simp [sl, pd]) ?_
      rintro _ f ⟨rfl, rfl⟩
      have xw : wsB n x = true ∨ wsB n x = false := by cases wsB n x <;> simp
      have part1 : Ev (tOrX (tNotX (cT (cUn (oIsi "tuple") (cVar 2)))) (tOrX (cT (cBin oNe (cUn oLen (cVar 2)) (cVar 1))) (tNotX (cT (cUn oAll (cLc (iSeq (cVar 2)) (.one 4) (cYes) (cCall F_is_ratio [cVar 4]) [4]))))) [.dat dd, .dat (.int n), .dat x, .dat y, .emp] f) fun b g => g = f ∧ b = !wsB n x := by
        cases x with
        | tuple xs =>
          obtain ⟨kk, _, hLx⟩ := hx.tup
          have hl := hLx.len
          by_cases c : xs.length = n
          · have ci : (xs.length : Int) = n := by omega
            have lc : lcN (.one 4) cYes (cCall F_is_ratio [cVar 4]) [.dat dd, .dat (.int n), .dat (.tuple xs), .dat y, .emp] xs [] f = .ok (xs.map fun t => .bool (isr t)) f := by
              have := lc_map (T := .one 4) (e := cCall F_is_ratio [cVar 4]) (ρ := [.dat dd, .dat (.int n), .dat (.tuple xs), .dat y, .emp]) (f := f) (xs := xs) (enc := id) (g := fun t => .bool (isr t)) (by omega) fun t ht => ⟨_, rfl, by
                have q := is_ratio_any (f := f) (hLx.mem ht)
                simp [q]⟩
              rwa [List.map_id] at this
            have al := all_map6 xs isr
            have e1 : wsB n (.tuple xs) = xs.all isr := by
              show (decide (xs.length = n) && xs.all isr) = _
              rw [decide_eq_true c, Bool.true_and]
            rw [e1]
            generalize xs.map (fun t => PyData.bool (isr t)) = bs at lc al
            simp [ci, lc, al]
          · have ci : ¬ (xs.length : Int) = n := by omega
            have e1 : wsB n (.tuple xs) = false := by
              show (decide (xs.length = n) && xs.all isr) = _
              rw [decide_eq_false c, Bool.false_and]
            simp [ci, e1]
        | dict kvs =>
          have := hx.oky
          simp [wsB, this]
        | _ => simp [wsB]
      cases hw : wsB n x with
      | false =>
        rw [hw] at part1
        rw [e_seq, ev_bind, e_if, ev_bind]
        refine Ev.mono part1 ?_
        rintro _ _ ⟨rfl, rfl⟩
        simp
      | true =>
        rw [hw] at part1
        refine ev_step (fun ρ g => g = f ∧ ρ = [.dat dd, .dat (.int n), .dat x, .dat y, .emp]) ?_ ?_
        · rw [e_if, ev_bind]
          refine Ev.mono part1 ?_
          rintro _ _ ⟨rfl, rfl⟩
          simp
        rintro _ f ⟨rfl, rfl⟩
        have m3 : (d_MOST_WAYS_v2 : PyData) = .int 3 := rfl
        cases y with
        | tuple ys =>
          obtain ⟨kk, _, hLy⟩ := hy.tup
          have hl := hLy.len
          by_cases c : ys.length ≤ 3
          · have ci : ¬ (3 : Int) < ys.length := by omega
            have lc : lcN (.one 4) cYes (cCall F_is_pair_of_kinds [cVar 4, cVar 1]) [.dat dd, .dat (.int n), .dat x, .dat (.tuple ys), .emp] ys [] f = .ok (ys.map fun t => .bool (prB n t)) f := by
              have := lc_map (T := .one 4) (e := cCall F_is_pair_of_kinds [cVar 4, cVar 1]) (ρ := [.dat dd, .dat (.int n), .dat x, .dat (.tuple ys), .emp]) (f := f) (xs := ys) (enc := id) (g := fun t => .bool (prB n t)) (by omega) fun t ht => ⟨_, rfl, by
                have q := is_pair_any (n := n) (f := f) (hLy.mem ht)
                simp [q]⟩
              rwa [List.map_id] at this
            have al := all_map6 ys (prB n)
            have e1 : ypB n (.tuple ys) = ys.all (prB n) := by
              show (decide (ys.length ≤ 3) && ys.all (prB n)) = _
              rw [decide_eq_true c, Bool.true_and]
            rw [e1]
            generalize ys.map (fun t => PyData.bool (prB n t)) = bs at lc al
            simp [m3, ci, lc, al]
          · have ci : (3 : Int) < ys.length := by omega
            have e1 : ypB n (.tuple ys) = false := by
              show (decide (ys.length ≤ 3) && ys.all (prB n)) = _
              rw [decide_eq_false c, Bool.false_and]
            simp [m3, ci, e1]
        | dict kvs =>
          have := hy.oky
          simp [ypB, this]
        | _ => simp [ypB]
end
end Fp
namespace Fp
open PySem PySem.Spec L2 Dn
def risI : List Int → Bool
  | [] => true
  | [_] => true
  | a :: b :: r => decide (a < b) && risI (b :: r)
theorem risD_ints : ∀ I : List Int, risD (I.map .int) = risI I
  | [] => rfl
  | [_] => rfl
  | a :: b :: r => by
    show (decide (a < b) && risD ((b :: r).map .int)) = (decide (a < b) && risI (b :: r))
    rw [risD_ints (b :: r)]
theorem risI_range : ∀ I : List Int, risI I = (List.range (I.length - 1)).all fun k => decide (I.getD k 0 < I.getD (k + 1) 0)
  | [] => rfl
  | [_] => rfl
  | a :: b :: r => by
    have ih := risI_range (b :: r)
    show (decide (a < b) && risI (b :: r)) = _
    rw [ih]
    show _ = (List.range (r.length + 1)).all _
    rw [List.range_succ_eq_map, List.all_cons, List.all_map]
    rfl
theorem risI_pw : ∀ {I : List Int}, risI I = true ↔ I.Pairwise (· < ·)
  | [] => by simp [risI]
  | [a] => by simp [risI]
  | a :: b :: r => by
    rw [risI, Bool.and_eq_true, decide_eq_true_eq, risI_pw (I := b :: r)]
    constructor
    · rintro ⟨h1, h2⟩
      refine List.pairwise_cons.mpr ⟨fun x hx => ?_, h2⟩
      rcases List.mem_cons.mp hx with rfl | hx
      · exact h1
      · have := (List.pairwise_cons.mp h2).1 x hx
        omega
    · intro h
      obtain ⟨h1, h2⟩ := List.pairwise_cons.mp h
      exact ⟨h1 b List.mem_cons_self, h2⟩
theorem places_are {n : Nat} {xs : List PyData} (h : xs.all (plB n) = true) : ∃ A : List Nat, xs = A.map (fun (a : Nat) => PyData.int a) ∧ ∀ a ∈ A, a < n := by
  have : ∀ xs : List PyData, (∀ x ∈ xs, plB n x = true) → ∃ A : List Nat, xs = A.map (fun (a : Nat) => PyData.int a) ∧ ∀ a ∈ A, a < n := by
    intro xs
    induction xs with
    | nil => exact fun _ => ⟨[], rfl, fun a ha => absurd ha List.not_mem_nil⟩
    | cons x xs ih =>
      intro h
      obtain ⟨A, rfl, hA⟩ := ih fun y hy => h y (List.mem_cons_of_mem _ hy)
      have hx := h x List.mem_cons_self
      unfold plB at hx
      split at hx
      · rename_i i
        rw [decide_eq_true_eq] at hx
        obtain ⟨a, rfl⟩ := Int.eq_ofNat_of_zero_le hx.1
        refine ⟨a :: A, rfl, fun b hb => ?_⟩
        rcases List.mem_cons.mp hb with rfl | hb
        · omega
        · exact hA b hb
      · cases hx
  exact this xs (List.all_eq_true.mp h)
section
variable {e b k n : Nat} {d : PyData} {f : Feed}
theorem eqv_nilT6 {xs : List PyData} : PyData.eqv (.tuple xs) (.tuple []) = xs.isEmpty := by
  cases xs with
  | nil => rfl
  | cons x r => simp [PyData.eqv, PyData.eqvAll]
theorem is_rising_any (hd : Tc e b k d) (hb : b ≤ 90000) (hk : k ≤ 60) : F_is_rising_kinds [.dat d, .dat (.int n)] f = .ok (.dat (.bool (riB n d))) f := by
  apply ev_is
  rw [u_is_rising_kinds, ev_dEnd]
  unfold S_is_rising_kinds
  cases d with
  | tuple xs =>
    obtain ⟨kk, _, hL⟩ := hd.th.tup
    have hl := hL.len
    have eq := oEq_of (hd.shaped (by omega)) (show SeqAt.shaped (.tuple []) = true from rfl)
    rw [eqv_nilT6] at eq
    have lc : lcN (.one 3) cYes (cCall F_is_place [cVar 3, cVar 1]) [.dat (.tuple xs), .dat (.int n), .emp, .emp] xs [] f = .ok (xs.map fun t => .bool (plB n t)) f := by
      have := lc_map (T := .one 3) (e := cCall F_is_place [cVar 3, cVar 1]) (ρ := [.dat (.tuple xs), .dat (.int n), .emp, .emp]) (f := f) (xs := xs) (enc := id) (g := fun t => .bool (plB n t)) (by omega) fun t ht => ⟨_, rfl, by
        have q := is_place_D (n := n) (f := f) (hL.mem ht)
        simp [q]⟩
      rwa [List.map_id] at this
    have al := all_map6 xs (plB n)
    have er : riB n (.tuple xs) = (!xs.isEmpty && (xs.all (plB n) && risD xs)) := rfl
    rw [er]
    cases c1 : xs.isEmpty with
    | true =>
      rw [c1] at eq
      simp [eq]
    | false =>
      rw [c1] at eq
      cases c2 : xs.all (plB n) with
      | false =>
        rw [c2] at al
        generalize xs.map (fun t => PyData.bool (plB n t)) = bs at lc al
        simp [eq, lc, al]
      | true =>
        rw [c2] at al
        generalize xs.map (fun t => PyData.bool (plB n t)) = bs at lc al
        obtain ⟨A, rfl, hA⟩ := places_are c2
        have em : A.map (fun (a : Nat) => PyData.int a) = (A.map fun (a : Nat) => (a : Int)).map .int := by rw [List.map_map]; rfl
        have hlA : A.length ≤ 90000 := by
          rw [List.length_map] at hl
          omega
        have lc2 : ∀ s3 : Slot, lcN (.one 2) cYes (cBin oLt (cBin oIx (cVar 0) (cVar 2)) (cBin oIx (cVar 0) (cBin oAdd (cVar 2) (cC (.int 1))))) [.dat (.tuple (A.map fun (a : Nat) => PyData.int a)), .dat (.int n), .emp, s3] (rangeD 0 (A.length - 1)) [] f = .ok ((List.range (A.length - 1)).map fun k => PyData.bool (decide ((A.map fun (a : Nat) => (a : Int)).getD k 0 < (A.map fun (a : Nat) => (a : Int)).getD (k + 1) 0))) f := fun s3 => by
          unfold rangeD
          refine lc_map (by rw [List.length_range]; omega) fun i hi => ⟨_, rfl, ?_⟩
          rw [List.mem_range] at hi
          have a1 : atI (A.map fun (a : Nat) => PyData.int a) ((i : Nat) : Int) = some (.int ((A.map fun (a : Nat) => (a : Int)).getD i 0)) := by
            rw [Dn.atI_nat, List.getElem?_map, List.getElem?_eq_getElem (by omega : i < A.length), List.getD_eq_getElem?_getD, List.getElem?_map, List.getElem?_eq_getElem (by omega : i < A.length)]
            rfl
          have a2 : atI (A.map fun (a : Nat) => PyData.int a) (((i : Nat) : Int) + 1) = some (.int ((A.map fun (a : Nat) => (a : Int)).getD (i + 1) 0)) := by
            rw [show ((i : Nat) : Int) + 1 = ((i + 1 : Nat) : Int) by omega, Dn.atI_nat, List.getElem?_map, List.getElem?_eq_getElem (by omega : i + 1 < A.length), List.getD_eq_getElem?_getD, List.getElem?_map, List.getElem?_eq_getElem (by omega : i + 1 < A.length)]
            rfl
          generalize (A.map fun (a : Nat) => (a : Int)).getD i 0 = p1 at *
          generalize (A.map fun (a : Nat) => (a : Int)).getD (i + 1) 0 = p2 at *
          simp [-Dn.atI_nat, a1, a2]
        have al2 := all_map6 (List.range (A.length - 1)) fun k => decide ((A.map fun (a : Nat) => (a : Int)).getD k 0 < (A.map fun (a : Nat) => (a : Int)).getD (k + 1) 0)
        have rr := risI_range (A.map fun (a : Nat) => (a : Int))
        rw [List.length_map] at rr
        rw [← rr] at al2
        have er2 : risD (A.map fun (a : Nat) => PyData.int a) = risI (A.map fun (a : Nat) => (a : Int)) := by rw [em, risD_ints]
        rw [er2]
        generalize (List.range (A.length - 1)).map (fun k => PyData.bool (decide ((A.map fun (a : Nat) => (a : Int)).getD k 0 < (A.map fun (a : Nat) => (a : Int)).getD (k + 1) 0))) = bs2 at *
        have ln : ((A.length : Nat) : Int) - 1 = ((A.length - 1 : Nat) : Int) := by
          have : A ≠ [] := fun q => by
            rw [q] at c1
            cases c1
          have := List.length_pos_iff.mpr this
          omega
        have sm : smallI ((A.length - 1 : Nat) : Int) = true := smallI_ok (by omega) (by omega)
        have tn : (((A.length - 1 : Nat) : Int)).toNat = A.length - 1 := by omega
        have ls : (A.map fun (a : Nat) => PyData.int a).length = A.length := List.length_map _
        generalize (A.map fun (a : Nat) => PyData.int a) = xs at *
        generalize A.length - 1 = m at *
        simp [eq, lc, al, ls, ln, sm, tn, lc2, al2]
  | dict kvs =>
    have := hd.c
    simp [PyData.canLay0] at this
  | _ => simp [riB]
theorem is_apart_any (hd : Tc e b k d) (hb : b ≤ 90000) (hk : k ≤ 60) : F_is_apart_shape [.dat d, .dat (.int n)] f = .ok (.dat (.bool (apB n d))) f := by
  have nm := is_named_any (f := f) hd.th (w := Str.ofString "apart") (n := 3) (by decide)
  simp at nm
  apply ev_is
  rw [u_is_apart_shape, ev_dEnd]
  unfold S_is_apart_shape
  cases c : nmB (Str.ofString "apart") 3 d with
  | false =>
    have e1 : apB n d = false := by
      unfold apB
      split
      · rename_i w x y
        have : (decide (2 + 1 = 3) && decide (w = Str.ofString "apart")) = false := c
        simp at this
        rw [decide_eq_false this, Bool.false_and]
      · rfl
    rw [c] at nm
    simp [nm, e1]
  | true =>
    rw [c] at nm
    obtain ⟨x, y, rfl⟩ : ∃ x y, d = .tuple [.str (Str.ofString "apart"), x, y] := by
      unfold nmB at c
      split at c
      · rename_i s xs
        rw [Bool.and_eq_true, decide_eq_true_eq, decide_eq_true_eq] at c
        obtain ⟨c1, rfl⟩ := c
        match xs, c1 with
        | [x, y], _ => exact ⟨x, y, rfl⟩
      · cases c
    obtain ⟨kk, hkk, hL⟩ := hd.th.tup
    have hcL := can_tup hd.c
    have hT : ∀ t ∈ [x, y], Tc e b kk t := fun t ht => ⟨hL.mem (List.mem_cons_of_mem _ ht), hcL t (List.mem_cons_of_mem _ ht)⟩
    have sl : oSl (some 1) none (.tuple [.str (Str.ofString "apart"), x, y]) = some (.dat (.tuple [x, y])) := rfl
    have es : apB n (.tuple [.str (Str.ofString "apart"), x, y]) = [x, y].all (riB n) := by
      show (decide (Str.ofString "apart" = Str.ofString "apart") && (riB n x && riB n y)) = _
      rw [decide_eq_true rfl]
      simp
    rw [es]
    generalize PyData.tuple [.str (Str.ofString "apart"), x, y] = dd at *
    have lc : lcN (.one 2) cYes (cCall F_is_rising_kinds [cVar 2, cVar 1]) [.dat dd, .dat (.int n), .emp] [x, y] [] f = .ok ([x, y].map fun t => .bool (riB n t)) f := by
      have := lc_map (T := .one 2) (e := cCall F_is_rising_kinds [cVar 2, cVar 1]) (ρ := [.dat dd, .dat (.int n), .emp]) (f := f) (xs := [x, y]) (enc := id) (g := fun t => .bool (riB n t)) (by simp) fun t ht => ⟨_, rfl, by
        have q := is_rising_any (n := n) (f := f) (hT t ht) hb (by omega)
        simp [q]⟩
      rwa [List.map_id] at this
    have al := all_map6 [x, y] (riB n)
    generalize [x, y].map (fun t => PyData.bool (riB n t)) = bs at lc al
    simp [nm, sl, lc, al]
end
end Fp
namespace Fp
open PySem PySem.Spec L2 Dn
section
variable {e b k n : Nat} {d : PyData} {f : Feed}
end
end Fp
namespace Fp
open PySem PySem.Spec L2 Dn
section
variable {e b k n : Nat} {d : PyData} {f : Feed}
end
end Fp
namespace Fp
open PySem PySem.Spec L2 Dn
theorem ne_intL {a b : List Int} : oNe (.list (a.map .int)) (.list (b.map .int)) = some (.dat (.bool (!decide (a = b)))) := by
  rw [oNe_of shaped_list_ints shaped_list_ints]
  show some (RV.dat (PyData.bool (!PyData.eqvAll (a.map .int) (b.map .int)))) = _
  rw [eqv_ints]
section
variable {e b k n : Nat} {d : PyData} {f : Feed}
end
end Fp
namespace Fp
open PySem PySem.Spec L2 Dn
abbrev nD (a : Nat) : PyData := .int (a : Nat)
def natsD (A : List Nat) : List PyData := A.map nD
def rwP (n : Nat) (P : Nat → Nat → Rat) (i : Nat) : PyData := .tuple ((List.range n).map fun j => enc (P i j))
def rowsP (n : Nat) (P : Nat → Nat → Rat) : PyData := .tuple ((List.range n).map (rwP n P))
section
variable {n i j a : Nat} {P : Nat → Nat → Rat} {A B : List Nat} {f : Feed}
theorem ixR (h : i < n) : oIx (rowsP n P) (.int (i : Nat)) = some (.dat (rwP n P i)) := by
  unfold rowsP
  rw [e_ix_tuple, Dn.atI_nat, List.getElem?_map, List.getElem?_range h]
  rfl
theorem ixC (h : j < n) : oIx (rwP n P i) (.int (j : Nat)) = some (.dat (enc (P i j))) := by
  unfold rwP
  rw [e_ix_tuple, Dn.atI_nat, List.getElem?_map, List.getElem?_range h]
  rfl
theorem lenR : oLen (rowsP n P) = some (.dat (.int (n : Nat))) := by
  unfold rowsP
  simp
theorem inNs {neg : Bool} : oInF neg (.int (a : Nat)) (.list (natsD A)) = some (.dat (.bool (neg ^^ decide (a ∈ A)))) := by
  have h1 : (natsD A).all flatD = true := by
    unfold natsD
    rw [List.all_map]
    exact List.all_eq_true.mpr fun _ _ => rfl
  have h2 : ((natsD A).any fun y => PyData.eqv y (.int (a : Nat))) = decide (a ∈ A) := by
    unfold natsD
    rw [List.any_map, Bool.eq_iff_iff, List.any_eq_true, decide_eq_true_eq]
    constructor
    · rintro ⟨x, hx, h⟩
      have : (x : Int) = a := of_decide_eq_true h
      have : x = a := by omega
      rwa [← this]
    · intro h
      exact ⟨a, h, decide_eq_true rfl⟩
  unfold oInF
  simp only [seqOf, h1, h2]
  cases neg <;> simp [flatD]
theorem inNt {neg : Bool} : oInF neg (.int (a : Nat)) (.tuple (natsD A)) = some (.dat (.bool (neg ^^ decide (a ∈ A)))) := by
  have := inNs (neg := neg) (a := a) (A := A)
  unfold oInF at this ⊢
  exact this
theorem led_q (hi : i < n) (hj : j < n) : F_is_led_to [.dat (rowsP n P), .dat (.int (i : Nat)), .dat (.int (j : Nat))] f = .ok (.dat (.bool (!decide (P i j = 0)))) f := by
  have e1 := ixR (P := P) hi
  have e2 := ixC (P := P) (i := i) hj
  have e3 := ne_enc0 (x := P i j)
  apply ev_is
  rw [u_is_led_to, ev_dEnd]
  unfold S_is_led_to
  generalize rowsP n P = R at *
  generalize rwP n P i = r at *
  generalize enc (P i j) = x at *
  simp [e1, e2, e3]
/-- is a kind led out of a set? -/
def outB (n : Nat) (P : Nat → Nat → Rat) (S : List Nat) (i : Nat) : Bool := (List.range n).any fun j => !decide (P i j = 0) && !decide (j ∈ S)
theorem all_out {S : List Nat} : ((List.range n).filter fun j => !decide (P i j = 0)).all (fun j => decide (j ∈ S)) = !outB n P S i := by
  unfold outB
  rw [List.all_filter, List.not_any_eq_all_not]
  congr 1
  funext j
  cases decide (P i j = 0) <;> cases decide (j ∈ S) <;> rfl
/-- loops that look for the first one -/
theorem scanF {α : Type} {T : Tgt} {s : Sm} {f : Feed} {enc : α → PyData} (p : α → Bool) (X : α → R Ctl) (I : Rho → Prop) (hX : ∀ a, (∃ v, X a = .ok (.rt v) f) ∨ ∃ c vs, X a = .ex c vs f) :
    ∀ (l : List α) (ρ : Rho), I ρ → (∀ a ∈ l, ∀ ρ, I ρ → ∃ ρ1, T.put (enc a) ρ = some ρ1 ∧ (p a = true → s ρ1 f = X a) ∧ (p a = false → ∃ ρ2, s ρ1 f = .ok (.nx ρ2) f ∧ I ρ2)) →
      (∀ a, l.find? p = some a → forN T s (l.map enc) ρ f = X a) ∧ (l.find? p = none → ∃ ρ2, forN T s (l.map enc) ρ f = .ok (.nx ρ2) f ∧ I ρ2)
  | [], ρ, h, _ => ⟨fun a z => by simp at z, fun _ => ⟨ρ, rfl, h⟩⟩
  | d :: ds, ρ, h, hs => by
    obtain ⟨ρ1, e1, y, n⟩ := hs d List.mem_cons_self ρ h
    rw [List.map_cons, List.find?_cons]
    cases c : p d with
    | true =>
      refine ⟨fun a z => ?_, fun z => by cases z⟩
      cases z
      unfold forN
      rw [e1]
      simp only [y c]
      rcases hX d with ⟨v, e⟩ | ⟨c, vs, e⟩
      · rw [e]
        rfl
      · rw [e]
        rfl
    | false =>
      obtain ⟨ρ2, e2, h2⟩ := n c
      have ih := scanF p X I hX ds ρ2 h2 fun a ha ρ hI => hs a (List.mem_cons_of_mem _ ha) ρ hI
      have st : forN T s (enc d :: ds.map enc) ρ f = forN T s (ds.map enc) ρ2 f := by
        rw [forN]
        simp only [e1, e2, bind_ok]
      rw [st]
      exact ih
end
end Fp
namespace Fp
open PySem PySem.Spec L2 Dn
/-- the first thing amiss in a paper apart -/
def vA (n : Nat) (P : Nat → Nat → Rat) (A B : List Nat) : Option (Str × Nat) :=
  match A.find? fun k => decide (k ∈ B) with
  | some k => some ("both", k)
  | none => match A.find? (outB n P A) with
    | some k => some ("out", k)
    | none => (B.find? (outB n P B)).map fun k => ("out", k)
def exR (w : Str) (k : Nat) {α : Type} (f : Feed) : R α := .ex "NoPaper" [("place", .int (k : Nat)), ("word", .str w)] f
def telR (v : Option (Str × Nat)) (d : PyData) (f : Feed) : R RV := match v with
  | some (w, k) => exR w k f
  | none => .ok (.dat d) f
section
variable {n : Nat} {P : Nat → Nat → Rat} {A B : List Nat} {f : Feed}
theorem look_out {S : List Nat} (hn : n ≤ 4) (hS : ∀ a ∈ S, a < n) {d1 d2 : PyData} {s3 s5 : Slot} :
    (∀ k, S.find? (outB n P S) = some k → forN (.one 3) (sIf (tNotX (cT (cUn oAll (cLc (iRange1 (cUn oLen (cVar 0))) (.one 5) (cT (cCall F_is_led_to [cVar 0, cVar 3, cVar 5])) (cBin (oInF false) (cVar 5) (cVar 4)) [5])))) (sRaise "NoPaper" ["word", "place"] [cC (.str "out"), cVar 3]) (sNext)) (natsD S) [.dat (rowsP n P), .dat d1, .dat d2, s3, .dat (.tuple (natsD S)), s5] f = exR "out" k f) ∧
    (S.find? (outB n P S) = none → ∃ t3 t5 : Slot, forN (.one 3) (sIf (tNotX (cT (cUn oAll (cLc (iRange1 (cUn oLen (cVar 0))) (.one 5) (cT (cCall F_is_led_to [cVar 0, cVar 3, cVar 5])) (cBin (oInF false) (cVar 5) (cVar 4)) [5])))) (sRaise "NoPaper" ["word", "place"] [cC (.str "out"), cVar 3]) (sNext)) (natsD S) [.dat (rowsP n P), .dat d1, .dat d2, s3, .dat (.tuple (natsD S)), s5] f = .ok (.nx [.dat (rowsP n P), .dat d1, .dat d2, t3, .dat (.tuple (natsD S)), t5]) f) := by
  have e0 := lenR (n := n) (P := P)
  have led := fun i j (hi : i < n) (hj : j < n) g => led_q (P := P) (f := g) hi hj
  have ins := fun j : Nat => inNt (neg := false) (a := j) (A := S)
  have lc : ∀ (i : Nat), i < n → ∀ s5 : Slot, lcN (.one 5) (cT (cCall F_is_led_to [cVar 0, cVar 3, cVar 5])) (cBin (oInF false) (cVar 5) (cVar 4)) [.dat (rowsP n P), .dat d1, .dat d2, .dat (.int (i : Nat)), .dat (.tuple (natsD S)), s5] (rangeD 0 n) [] f = .ok (((List.range n).filter fun j => !decide (P i j = 0)).map fun j => .bool (decide (j ∈ S))) f := fun i hi s5 => by
    unfold rangeD
    refine lc_pure (by rw [List.length_range]; omega) fun j hj => ⟨_, rfl, ?_, fun _ => ?_⟩
    · rw [List.mem_range] at hj
      have q := led i j hi hj f
      generalize rowsP n P = R at *
      simp [q]
    · have q := ins j
      rw [Bool.false_xor] at q
      generalize natsD S = T at *
      simp [q]
  have sc := scanF (T := .one 3) (s := sIf (tNotX (cT (cUn oAll (cLc (iRange1 (cUn oLen (cVar 0))) (.one 5) (cT (cCall F_is_led_to [cVar 0, cVar 3, cVar 5])) (cBin (oInF false) (cVar 5) (cVar 4)) [5])))) (sRaise "NoPaper" ["word", "place"] [cC (.str "out"), cVar 3]) (sNext)) (f := f) (enc := nD) (outB n P S) (fun k => exR "out" k f) (fun ρ => ∃ s3 s5 : Slot, ρ = [.dat (rowsP n P), .dat d1, .dat d2, s3, .dat (.tuple (natsD S)), s5]) (fun k => .inr ⟨_, _, rfl⟩) S [.dat (rowsP n P), .dat d1, .dat d2, s3, .dat (.tuple (natsD S)), s5] ⟨_, _, rfl⟩ (by
    rintro i hi ρ ⟨s3, s5, rfl⟩
    have lci := lc i (hS i hi) .emp
    have al := all_map6 ((List.range n).filter fun j => !decide (P i j = 0)) fun j => decide (j ∈ S)
    rw [all_out] at al
    generalize ((List.range n).filter fun j => !decide (P i j = 0)).map (fun j => PyData.bool (decide (j ∈ S))) = bs at *
    generalize rowsP n P = R at *
    generalize natsD S = T at *
    refine ⟨_, rfl, fun c => ?_, fun c => ?_⟩
    · rw [c] at al
      simp [e0, smallI_ok (n := (n : Int)) (by omega) (by omega), lci, al, exR]
    · rw [c] at al
      simp [e0, smallI_ok (n := (n : Int)) (by omega) (by omega), lci, al])
  refine ⟨fun k hk => sc.1 k hk, fun hk => ?_⟩
  obtain ⟨ρ2, e, s3, s5, rfl⟩ := sc.2 hk
  exact ⟨s3, s5, e⟩
theorem look_apart_q (hn : n ≤ 4) (hA : ∀ a ∈ A, a < n) (hB : ∀ a ∈ B, a < n) : F_look_at_apart_X [.dat (rowsP n P), .dat (.tuple (natsD A)), .dat (.tuple (natsD B))] f = telR (vA n P A B) .none f := by
  rw [u_look_at_apart_X]
  unfold S_look_at_apart_X
  have sc := scanF (T := .one 3) (s := sIf (cT (cBin (oInF false) (cVar 3) (cVar 2))) (sRaise "NoPaper" ["word", "place"] [cC (.str "both"), cVar 3]) (sNext)) (f := f) (enc := nD) (fun k => decide (k ∈ B)) (fun k => exR "both" k f) (fun ρ => ∃ s3 : Slot, ρ = [.dat (rowsP n P), .dat (.tuple (natsD A)), .dat (.tuple (natsD B)), s3, .emp, .emp]) (fun k => .inr ⟨_, _, rfl⟩) A [.dat (rowsP n P), .dat (.tuple (natsD A)), .dat (.tuple (natsD B)), .emp, .emp, .emp] ⟨_, rfl⟩ (by
    rintro i hi ρ ⟨s3, rfl⟩
    have q := inNt (neg := false) (a := i) (A := B)
    rw [Bool.false_xor] at q
    generalize rowsP n P = R at *
    generalize natsD B = T at *
    refine ⟨_, rfl, fun c => ?_, fun c => ?_⟩
    · rw [c] at q
      simp [q, exR]
    · rw [c] at q
      simp [q])
  have l1 := fun s3 s5 => look_out (P := P) (f := f) (d1 := .tuple (natsD A)) (d2 := .tuple (natsD B)) (s3 := s3) (s5 := s5) hn hA
  have l2 := fun s3 s5 => look_out (P := P) (f := f) (d1 := .tuple (natsD A)) (d2 := .tuple (natsD B)) (s3 := s3) (s5 := s5) hn hB
  have sq : ∀ l : List Nat, seqOf (.tuple (natsD l)) = some (natsD l) := fun _ => rfl
  have s2 := sq A
  have s3' := sq B
  have e9 : ∀ l : List Nat, l.map nD = natsD l := fun _ => rfl
  rw [e9] at sc
  generalize sIf (tNotX (cT (cUn oAll (cLc (iRange1 (cUn oLen (cVar 0))) (.one 5) (cT (cCall F_is_led_to [cVar 0, cVar 3, cVar 5])) (cBin (oInF false) (cVar 5) (cVar 4)) [5])))) (sRaise "NoPaper" ["word", "place"] [cC (.str "out"), cVar 3]) (sNext) = body at *
  unfold vA
  generalize rowsP n P = R at *
  cases q1 : A.find? fun k => decide (k ∈ B) with
  | some k =>
    have := sc.1 k q1
    generalize natsD A = TA at *
    generalize natsD B = TB at *
    simp [s2, this, telR, exR]
  | none =>
    obtain ⟨ρ2, e, s30, rfl⟩ := sc.2 q1
    simp only
    cases q2 : A.find? (outB n P A) with
    | some k =>
      have := (l1 s30 .emp).1 k q2
      generalize natsD A = TA at *
      generalize natsD B = TB at *
      simp [s2, e, forN, this, telR, exR]
    | none =>
      obtain ⟨s31, s51, e2⟩ := (l1 s30 .emp).2 q2
      simp only
      cases q3 : B.find? (outB n P B) with
      | some k =>
        have := (l2 s31 s51).1 k q3
        generalize natsD A = TA at *
        generalize natsD B = TB at *
        simp [s2, s3', e, forN, e2, this, telR, exR]
      | none =>
        obtain ⟨s32, s52, e3⟩ := (l2 s31 s51).2 q3
        generalize natsD A = TA at *
        generalize natsD B = TB at *
        simp [s2, s3', e, forN, e2, e3, telR]
end
end Fp
namespace Fp
open PySem PySem.Spec L2 Dn
/-- numbers that are short enough to be reckoned with: chances of rows, weights -/
structure RW (n : Nat) (P : Nat → Nat → Rat) (w : Nat → Rat) : Prop where
  n4 : n ≤ 4
  W : ∃ W : Nat, 0 < W ∧ W ≤ 2 ^ 31 ∧ ∀ i j, i < n → j < n → Wh W (P i j) ∧ 0 ≤ P i j ∧ P i j ≤ 1
  e : ∃ e : Nat, e ≤ 700 ∧ ∀ i, i < n → Sz e (w i)
theorem put_two5 {i j : Nat} {a b : PyData} {ρ : Rho} : (Tgt.many [i, j]).put (.tuple [a, b]) ρ = some ((ρ.set i (.dat a)).set j (.dat b)) := rfl
def wsD (n : Nat) (w : Nat → Rat) : List PyData := (List.range n).map fun i => enc (w i)
/-- what the chain makes of weights -/
def stat (n : Nat) (P : Nat → Nat → Rat) (w : Nat → Rat) (k : Nat) : Rat := rs n fun j => w j * P j k
theorem wh_prod {e : Nat} {w : Nat → Rat} : ∀ n, (∀ i, i < n → Sz e (w i)) → ∃ D, 0 < D ∧ D ≤ 2 ^ (e * n) ∧ ∀ i, i < n → Wh D (w i)
  | 0, _ => ⟨1, by decide, Nat.one_le_two_pow, fun i h => by omega⟩
  | n + 1, h => by
    obtain ⟨D, D0, d1, d2⟩ := wh_prod n fun i hi => h i (by omega)
    refine ⟨(w n).den * D, Nat.mul_pos (w n).den_pos D0, ?_, fun i hi => ?_⟩
    · rw [Nat.mul_succ, Nat.pow_add, Nat.mul_comm]
      exact Nat.mul_le_mul d1 (Nat.le_of_lt (h n (by omega)).den)
    · rcases Nat.lt_or_eq_of_le (Nat.le_of_lt_succ hi) with hi | rfl
      · exact (d2 i hi).up (Nat.dvd_mul_left _ _)
      · exact (show Wh (w i).den (w i) from ⟨(w i).num, mul_den _⟩).up (Nat.dvd_mul_right _ _)
theorem ab_of_sz {e : Nat} {x : Rat} (h : Sz e x) : Ab ((2 ^ e : Nat) : Rat) x := by
  have md := mul_den x
  have d1 : (1 : Rat) ≤ (x.den : Rat) := by
    have := Rat.natCast_le_natCast.mpr (show 1 ≤ x.den from x.den_pos)
    simpa using this
  have b0 : (0 : Rat) ≤ ((2 ^ e : Nat) : Rat) := Rat.natCast_nonneg
  have n1 : (x.num : Rat) ≤ ((2 ^ e : Nat) : Rat) := by
    have := h.num
    have q : x.num ≤ ((2 ^ e : Nat) : Int) := by omega
    exact Rat.intCast_le_intCast.mpr q
  have n2 : -((2 ^ e : Nat) : Rat) ≤ (x.num : Rat) := by
    have := h.num
    have q : -((2 ^ e : Nat) : Int) ≤ x.num := by omega
    have := Rat.intCast_le_intCast.mpr q
    rw [Rat.intCast_neg] at this
    exact this
  generalize ((2 ^ e : Nat) : Rat) = B at *
  constructor
  · apply Rat.not_lt.mp
    intro hlt
    have := Rat.mul_nonneg (show 0 ≤ -B - x by grind) (show 0 ≤ (x.den : Rat) - 1 by grind)
    have := Rat.mul_nonneg b0 (show 0 ≤ (x.den : Rat) - 1 by grind)
    grind
  · apply Rat.not_lt.mp
    intro hlt
    have := Rat.mul_nonneg (show 0 ≤ x - B by grind) (show 0 ≤ (x.den : Rat) - 1 by grind)
    have := Rat.mul_nonneg b0 (show 0 ≤ (x.den : Rat) - 1 by grind)
    grind
section
variable {n : Nat} {P : Nat → Nat → Rat} {w : Nat → Rat} {f : Feed}
theorem RW.sums (h : RW n P w) : (∀ m, m ≤ n → Sz 4000 (rs m w)) ∧ (∀ k m, k < n → m ≤ n → Sz 4000 (rs m fun j => w j * P j k)) ∧ (∀ i k, i < n → k < n → Sz 4000 (w i * P i k)) ∧ (∀ i k, i < n → k < n → Sz 4000 (P i k)) ∧ ∀ i, i < n → Sz 4000 (w i) := by
  obtain ⟨W, W0, W1, hW⟩ := h.W
  obtain ⟨e, e1, he⟩ := h.e
  obtain ⟨D, D0, d1, d2⟩ := wh_prod n he
  have n4 := h.n4
  have d3 : D ≤ 2 ^ (e * 4) := Nat.le_trans d1 (Nat.pow_le_pow_right (by decide) (Nat.mul_le_mul_left e n4))
  have big : ∀ c, c ≤ 4 → (c * 2 ^ e + 1) * (D * W) < 2 ^ 4000 := fun c hc => by
    have a : c * 2 ^ e + 1 ≤ 2 ^ (e + 3) := by
      rw [Nat.pow_add]
      have : 1 ≤ 2 ^ e := Nat.one_le_two_pow
      have : c * 2 ^ e ≤ 4 * 2 ^ e := Nat.mul_le_mul_right _ hc
      omega
    have b : (c * 2 ^ e + 1) * (D * W) ≤ 2 ^ (e + 3) * (2 ^ (e * 4) * 2 ^ 31) := Nat.mul_le_mul a (Nat.mul_le_mul d3 W1)
    rw [← Nat.pow_add, ← Nat.pow_add] at b
    exact Nat.lt_of_le_of_lt b (Nat.pow_lt_pow_right (by decide) (by omega))
  have DW := Nat.mul_pos D0 W0
  have ww : ∀ i, i < n → Wh (D * W) (w i) := fun i hi => (d2 i hi).up (Nat.dvd_mul_right _ _)
  have wp : ∀ i k, i < n → k < n → Wh (D * W) (w i * P i k) := fun i k hi hk => (d2 i hi).mul (hW i k hi hk).1
  have ap : ∀ i k, i < n → k < n → Ab ((2 ^ e : Nat) : Rat) (w i * P i k) := fun i k hi hk => by
    obtain ⟨_, p0, p1⟩ := hW i k hi hk
    obtain ⟨a1, a2⟩ := ab_of_sz (he i hi)
    have b0 : (0 : Rat) ≤ ((2 ^ e : Nat) : Rat) := Rat.natCast_nonneg
    generalize ((2 ^ e : Nat) : Rat) = B at *
    constructor
    · have := Rat.mul_nonneg (show 0 ≤ w i + B by grind) p0
      have := Rat.mul_nonneg b0 (show 0 ≤ 1 - P i k by grind)
      grind
    · have := Rat.mul_nonneg (show 0 ≤ B - w i by grind) p0
      have := Rat.mul_nonneg b0 (show 0 ≤ 1 - P i k by grind)
      grind
  have fin : ∀ {x : Rat} {c : Nat}, c ≤ 4 → Wh (D * W) x → Ab ((c * 2 ^ e : Nat) : Rat) x → Sz 4000 x := fun {x c} hc hw ha => ab_sz (B := c * 2 ^ e + 1) DW hw (ha.up (Rat.natCast_le_natCast.mpr (by omega))) (Nat.succ_pos _) (big c hc)
  have fin1 : ∀ {x : Rat}, Wh (D * W) x → Ab ((2 ^ e : Nat) : Rat) x → Sz 4000 x := fun {x} hw ha => fin (c := 1) (by decide) hw (by rw [Nat.one_mul]; exact ha)
  refine ⟨fun m hm => fin (c := m) (by omega) (rs_wh fun i hi => ww i (by omega)) (rs_ab fun i hi => ab_of_sz (he i (by omega))), fun k m hk hm => fin (c := m) (by omega) (rs_wh fun i hi => wp i k (by omega) hk) (rs_ab fun i hi => ap i k (by omega) hk), fun i k hi hk => fin1 (wp i k hi hk) (ap i k hi hk), fun i k hi hk => ?_, fun i hi => fin1 (ww i hi) (ab_of_sz (he i hi))⟩
  obtain ⟨p, p0, p1⟩ := hW i k hi hk
  refine fin1 (p.up (Nat.dvd_mul_left _ _)) ⟨?_, ?_⟩
  · have : (0 : Rat) ≤ ((2 ^ e : Nat) : Rat) := Rat.natCast_nonneg
    grind
  · have := Rat.natCast_le_natCast.mpr (show 1 ≤ 2 ^ e from Nat.one_le_two_pow)
    have e1 : ((1 : Nat) : Rat) = 1 := rfl
    rw [e1] at this
    exact Rat.le_trans p1 this
theorem pairs_range {g : Nat → PyData} : pairsD ((List.range n).map g) = (List.range n).map fun k => .tuple [.int (k : Nat), g k] := by
  apply List.ext_getElem?
  intro i
  by_cases hi : i < n
  · have e : ((List.range n).map g)[i]? = some (g i) := by rw [List.getElem?_map, List.getElem?_range hi]; rfl
    rw [pairsD_get e, List.getElem?_map, List.getElem?_range hi]
    rfl
  · rw [List.getElem?_eq_none (by rw [pairsD_length, List.length_map, List.length_range]; omega), List.getElem?_eq_none (by rw [List.length_map, List.length_range]; omega)]
def statB (n : Nat) (P : Nat → Nat → Rat) (w : Nat → Rat) (k : Nat) : Bool := !decide (stat n P w k = w k)
/-- the first thing amiss in weights -/
def vW (n : Nat) (P : Nat → Nat → Rat) (w : Nat → Rat) : Option (Str × Nat) :=
  if rs n w = 1 then ((List.range n).find? (statB n P w)).map fun k => ("weight", k) else some ("whole", 0)
theorem look_weights_q (h : RW n P w) : F_look_at_weights_X [.dat (rowsP n P), .dat (.tuple (wsD n w))] f = telR (vW n P w) .none f := by
  obtain ⟨s1, s2, s3, s4, s5⟩ := h.sums
  have n4 := h.n4
  rw [u_look_at_weights_X]
  unfold S_look_at_weights_X
  have f1 : ∀ s3 : Slot, ∃ t3 : Slot, forN (.one 3) (sSet 2 (cCall F_plus [cVar 2, cVar 3])) (wsD n w) [.dat (rowsP n P), .dat (.tuple (wsD n w)), .dat (enc 0), s3, .emp, .emp, .emp] f = .ok (.nx [.dat (rowsP n P), .dat (.tuple (wsD n w)), .dat (enc (rs n w)), t3, .emp, .emp, .emp]) f := fun s3 => by
    have : Ev (forN (.one 3) (sSet 2 (cCall F_plus [cVar 2, cVar 3])) (wsD n w) [.dat (rowsP n P), .dat (.tuple (wsD n w)), .dat (enc 0), s3, .emp, .emp, .emp] f) fun c g => g = f ∧ ∃ t3 : Slot, c = .nx [.dat (rowsP n P), .dat (.tuple (wsD n w)), .dat (enc (rs n w)), t3, .emp, .emp, .emp] := by
      refine ev_for (I := fun i ρ g => g = f ∧ ∃ t3 : Slot, ρ = [.dat (rowsP n P), .dat (.tuple (wsD n w)), .dat (enc (rs i w)), t3, .emp, .emp, .emp]) ⟨rfl, s3, rfl⟩ ?_ ?_
      · rintro i d ρ g hd ⟨rfl, t3, rfl⟩
        have hi : i < n := by
          have := (List.getElem?_eq_some_iff.mp hd).1
          rwa [wsD, List.length_map, List.length_range] at this
        have ed : d = enc (w i) := by
          unfold wsD at hd
          rw [List.getElem?_map, List.getElem?_range hi] at hd
          exact (Option.some.inj hd).symm
        subst ed
        refine ⟨_, rfl, ?_⟩
        have pl := plus_q (f := g) (s1 i (by omega)) (s5 i hi) (Nat.le_refl _)
        rw [← rs_succ] at pl
        simp [pl]
      · rintro ρ g ⟨rfl, t3, rfl⟩
        have : (wsD n w).length = n := by rw [wsD, List.length_map, List.length_range]
        rw [this]
        exact ⟨rfl, t3, rfl⟩
    obtain ⟨c, g, e, rfl, t3, rfl⟩ := this
    exact ⟨t3, e⟩
  have en0 : (enc 0 : PyData) = .tuple [.int 0, .int 1] := rfl
  have inner : ∀ k, k < n → ∀ s5 s6 : Slot, ∃ t5 t6 : Slot, forN (.many [5, 6]) (sSet 2 (cCall F_plus [cVar 2, cCall F_times [cBin oIx (cVar 1) (cVar 5), cBin oIx (cVar 6) (cVar 4)]])) ((List.range n).map fun j => .tuple [.int (j : Nat), rwP n P j]) [.dat (rowsP n P), .dat (.tuple (wsD n w)), .dat (enc 0), .dat (enc (w k)), .dat (.int (k : Nat)), s5, s6] f = .ok (.nx [.dat (rowsP n P), .dat (.tuple (wsD n w)), .dat (enc (stat n P w k)), .dat (enc (w k)), .dat (.int (k : Nat)), t5, t6]) f := fun k hk s5' s6' => by
    have : Ev (forN (.many [5, 6]) (sSet 2 (cCall F_plus [cVar 2, cCall F_times [cBin oIx (cVar 1) (cVar 5), cBin oIx (cVar 6) (cVar 4)]])) ((List.range n).map fun j => .tuple [.int (j : Nat), rwP n P j]) [.dat (rowsP n P), .dat (.tuple (wsD n w)), .dat (enc 0), .dat (enc (w k)), .dat (.int (k : Nat)), s5', s6'] f) fun c g => g = f ∧ ∃ t5 t6 : Slot, c = .nx [.dat (rowsP n P), .dat (.tuple (wsD n w)), .dat (enc (stat n P w k)), .dat (enc (w k)), .dat (.int (k : Nat)), t5, t6] := by
      refine ev_for (I := fun i ρ g => g = f ∧ ∃ t5 t6 : Slot, ρ = [.dat (rowsP n P), .dat (.tuple (wsD n w)), .dat (enc (rs i fun j => w j * P j k)), .dat (enc (w k)), .dat (.int (k : Nat)), t5, t6]) ⟨rfl, s5', s6', rfl⟩ ?_ ?_
      · rintro i d ρ g hd ⟨rfl, t5, t6, rfl⟩
        have hi : i < n := by
          have := (List.getElem?_eq_some_iff.mp hd).1
          rwa [List.length_map, List.length_range] at this
        have ed : d = .tuple [.int (i : Nat), rwP n P i] := by
          rw [List.getElem?_map, List.getElem?_range hi] at hd
          exact (Option.some.inj hd).symm
        subst ed
        refine ⟨_, put_two5, ?_⟩
        have tm := times_q (f := g) (s5 i hi) (s4 i k hi hk) (Nat.le_refl _)
        have pl := plus_q (f := g) (s2 k i hk (by omega)) (s3 i k hi hk) (Nat.le_refl _)
        have er := rs_succ (n := i) (g := fun j => w j * P j k)
        rw [← er] at pl
        have ix1 : oIx (.tuple (wsD n w)) (.int (i : Nat)) = some (.dat (enc (w i))) := by
          unfold wsD
          rw [e_ix_tuple, Dn.atI_nat, List.getElem?_map, List.getElem?_range hi]
          rfl
        have ix2 := ixC (P := P) (i := i) hk
        generalize rowsP n P = R at *
        generalize rwP n P i = r at *
        generalize PyData.tuple (wsD n w) = ws at *
        simp [ix1, ix2, tm, pl]
      · rintro ρ g ⟨rfl, t5, t6, rfl⟩
        rw [List.length_map, List.length_range]
        exact ⟨rfl, t5, t6, rfl⟩
    obtain ⟨c, g, e, rfl, t5, t6, rfl⟩ := this
    exact ⟨t5, t6, e⟩
  have sc := fun t3 => scanF (T := .many [4, 3]) (s := sSeq (sSet 2 (cC d_NOUGHT)) (sSeq (sFor (iEnum (cVar 0)) (.many [5, 6]) (sSet 2 (cCall F_plus [cVar 2, cCall F_times [cBin oIx (cVar 1) (cVar 5), cBin oIx (cVar 6) (cVar 4)]]))) (sIf (cT (cBin oNe (cVar 2) (cVar 3))) (sRaise "NoPaper" ["word", "place"] [cC (.str "weight"), cVar 4]) (sNext)))) (f := f) (enc := fun k => .tuple [.int (k : Nat), enc (w k)]) (statB n P w) (fun k => exR "weight" k f) (fun ρ => ∃ s2 s3 s4 s5 s6 : Slot, ρ = [.dat (rowsP n P), .dat (.tuple (wsD n w)), s2, s3, s4, s5, s6]) (fun k => .inr ⟨_, _, rfl⟩) (List.range n) [.dat (rowsP n P), .dat (.tuple (wsD n w)), .dat (enc (rs n w)), t3, .emp, .emp, .emp] ⟨_, _, _, _, _, rfl⟩ (by
    rintro k hk ρ ⟨u2, u3, u4, u5, u6, rfl⟩
    rw [List.mem_range] at hk
    obtain ⟨t5, t6, ei⟩ := inner k hk u5 u6
    have nn := ne_enc (x := stat n P w k) (y := w k)
    have sq : seqOf (rowsP n P) = some ((List.range n).map (rwP n P)) := rfl
    have pr := pairs_range (n := n) (g := rwP n P)
    have eS : statB n P w k = !decide (stat n P w k = w k) := rfl
    rw [← eS] at nn
    rw [en0] at ei
    generalize rowsP n P = R at *
    generalize PyData.tuple (wsD n w) = ws at *
    generalize enc (stat n P w k) = x at *
    generalize enc (w k) = y at *
    generalize (List.range n).map (rwP n P) = rr at *
    generalize ((List.range n).map fun j => PyData.tuple [.int (j : Nat), rwP n P j]) = rp at *
    refine ⟨_, put_two5, fun c => ?_, fun c => ?_⟩
    · rw [c] at nn
      simp [sq, pr, ei, nn, exR]
    · rw [c] at nn
      simp [sq, pr, ei, nn])
  obtain ⟨t3, e1⟩ := f1 .emp
  have sc := sc t3
  have sqw : seqOf (.tuple (wsD n w)) = some (wsD n w) := rfl
  have prw : pairsD (wsD n w) = (List.range n).map fun k => .tuple [.int (k : Nat), enc (w k)] := pairs_range
  have n1 := ne_enc (x := rs n w) (y := 1)
  have en1 : (enc 1 : PyData) = .tuple [.int 1, .int 1] := rfl
  rw [en1] at n1
  rw [en0] at e1
  unfold vW
  generalize rowsP n P = R at *
  generalize hW : wsD n w = ws at *
  generalize ((List.range n).map fun k => PyData.tuple [.int (k : Nat), enc (w k)]) = rp at *
  by_cases h1 : rs n w = 1
  · rw [if_pos h1]
    rw [decide_eq_true h1] at n1
    cases q : (List.range n).find? (statB n P w) with
    | some k =>
      have e2 := sc.1 k q
      generalize enc (rs n w) = x at *
      simp [sqw, e1, n1, prw, e2, telR, exR]
    | none =>
      obtain ⟨ρ2, e2, u2, u3, u4, u5, u6, rfl⟩ := sc.2 q
      generalize enc (rs n w) = x at *
      simp [sqw, e1, n1, prw, e2, telR]
  · rw [if_neg h1]
    rw [decide_eq_false h1] at n1
    generalize enc (rs n w) = x at *
    simp [sqw, e1, n1, telR, exR]
end
end Fp
namespace Fp
open PySem PySem.Spec L2 Dn
structure Chn (n : Nat) (P : Nat → Nat → Rat) : Prop where
  nn : ∀ i j, i < n → j < n → 0 ≤ P i j
  one : ∀ i, i < n → rs n (P i) = 1
/-- leads on, in some steps -/
inductive Led (n : Nat) (P : Nat → Nat → Rat) : Nat → Nat → Prop
  | refl (i : Nat) (h : i < n) : Led n P i i
  | step (i j k : Nat) (h1 : i < n) (h2 : P i j ≠ 0) (h3 : Led n P j k) : Led n P i k
theorem rs_nn {n : Nat} {g : Nat → Rat} (h : ∀ k, k < n → 0 ≤ g k) : 0 ≤ rs n g := by
  induction n with
  | zero => exact Rat.le_refl
  | succ n ih =>
    rw [rs_succ]
    have := ih fun k hk => h k (by omega)
    have := h n (by omega)
    grind
theorem rs_ge1 {n : Nat} {g : Nat → Rat} (h : ∀ k, k < n → 0 ≤ g k) : ∀ i, i < n → g i ≤ rs n g := by
  induction n with
  | zero => intro i hi; omega
  | succ n ih =>
    intro i hi
    rw [rs_succ]
    have a := rs_nn (n := n) (g := g) fun k hk => h k (by omega)
    have b := h n (by omega)
    rcases Nat.lt_or_eq_of_le (Nat.le_of_lt_succ hi) with hi | rfl
    · have := ih (fun k hk => h k (by omega)) i hi
      grind
    · grind
theorem rs_all0 {n : Nat} {g : Nat → Rat} (h : ∀ k, k < n → 0 ≤ g k) (z : rs n g = 0) : ∀ i, i < n → g i = 0 := fun i hi => by
  have := rs_ge1 h i hi
  have := h i hi
  grind
theorem rs_sub9 {n : Nat} {g h : Nat → Rat} : rs n (fun i => g i - h i) = rs n g - rs n h := by
  induction n with
  | zero => rw [rs_zero, rs_zero, rs_zero]; grind
  | succ n ih => rw [rs_succ, rs_succ, rs_succ, ih]; grind
def absR (x : Rat) : Rat := if 0 ≤ x then x else -x
theorem absR_ge (x : Rat) : x ≤ absR x ∧ -x ≤ absR x := by unfold absR; split <;> constructor <;> grind
theorem absR_le {x y : Rat} (h1 : x ≤ y) (h2 : -x ≤ y) : absR x ≤ y := by unfold absR; split <;> grind
theorem rs_le9 {n : Nat} {g h : Nat → Rat} (e : ∀ i, i < n → g i ≤ h i) : rs n g ≤ rs n h := by
  induction n with
  | zero => exact Rat.le_refl
  | succ n ih =>
    rw [rs_succ, rs_succ]
    have := ih fun i hi => e i (by omega)
    have := e n (by omega)
    grind
section
variable {n h : Nat} {P : Nat → Nat → Rat} {d w v : Nat → Rat}
theorem Led.lt2 : ∀ {i k : Nat}, Led n P i k → k < n
  | _, _, .refl i h => h
  | _, _, .step i j k h1 h2 h3 => h3.lt2
theorem Led.lt1 : ∀ {i k : Nat}, Led n P i k → i < n
  | _, _, .refl i h => h
  | _, _, .step i j k h1 h2 h3 => h1
theorem Led.trans : ∀ {i j k : Nat}, Led n P i j → Led n P j k → Led n P i k
  | _, _, _, .refl i h, q => q
  | _, _, _, .step i j k h1 h2 h3, q => .step i j _ h1 h2 (h3.trans q)
theorem stat_sum (c : Chn n P) : rs n (stat n P w) = rs n w := by
  have : rs n (stat n P w) = rs n fun j => rs n fun k => w j * P j k := by
    unfold stat
    rw [rs_swap]
  rw [this]
  refine rs_congr fun j hj => ?_
  rw [rs_mul, c.one j hj]
  grind
/-- what leads on hands its weight on -/
theorem led_pos (c : Chn n P) (hw : ∀ k, k < n → stat n P w k = w k) (nn : ∀ k, k < n → 0 ≤ w k) : ∀ {i k : Nat}, Led n P i k → 0 < w i → 0 < w k
  | _, _, .refl i h, p => p
  | _, _, .step i j k h1 h2 h3, p => by
    refine led_pos c hw nn h3 ?_
    have hj := h3.lt1
    have e := hw j hj
    have g := rs_ge1 (n := n) (g := fun m => w m * P m j) (fun m hm => Rat.mul_nonneg (nn m hm) (c.nn m j hm hj)) i h1
    have pp : 0 < P i j := by
      have := c.nn i j h1 hj
      grind
    have := Rat.mul_pos p pp
    unfold stat at e
    have g : w i * P i j ≤ rs n fun m => w m * P m j := g
    grind
theorem stat_abs (c : Chn n P) (hd : ∀ k, k < n → stat n P d k = d k) : ∀ k, k < n → stat n P (fun i => absR (d i)) k = absR (d k) := by
  have ge : ∀ k, k < n → absR (d k) ≤ stat n P (fun i => absR (d i)) k := fun k hk => by
    have a := rs_le9 (n := n) (g := fun j => d j * P j k) (h := fun j => absR (d j) * P j k) fun j hj => Rat.mul_le_mul_of_nonneg_right (absR_ge (d j)).1 (c.nn j k hj hk)
    have b := rs_le9 (n := n) (g := fun j => (-1) * (d j * P j k)) (h := fun j => absR (d j) * P j k) fun j hj => by
      have := Rat.mul_le_mul_of_nonneg_right (absR_ge (d j)).2 (c.nn j k hj hk)
      grind
    rw [rs_mul] at b
    have e := hd k hk
    unfold stat at e ⊢
    rw [e] at a b
    exact absR_le a (by grind)
  have s := stat_sum c (w := fun i => absR (d i))
  have z : rs n (fun k => stat n P (fun i => absR (d i)) k - absR (d k)) = 0 := by
    rw [rs_sub9]
    have : rs n (stat n P fun i => absR (d i)) = rs n fun k => stat n P (fun i => absR (d i)) k := rfl
    rw [← this, s]
    grind
  intro k hk
  have := rs_all0 (fun k hk => by have := ge k hk; grind) z k hk
  grind
/-- weights that the chain leaves as they are and that come to nothing are nothing -/
theorem stat_zero (c : Chn n P) (hl : ∀ i, i < n → Led n P i h) (hd : ∀ k, k < n → stat n P d k = d k) (hs : rs n d = 0) : ∀ k, k < n → d k = 0 := by
  have sa := stat_abs c hd
  have sp : ∀ k, k < n → stat n P (fun i => absR (d i) + d i) k = absR (d k) + d k := fun k hk => by
    have a := sa k hk
    have b := hd k hk
    have e : stat n P (fun i => absR (d i) + d i) k = stat n P (fun i => absR (d i)) k + stat n P d k := by
      unfold stat
      rw [← rs_add]
      exact rs_congr fun j _ => by grind
    rw [e, a, b]
  have sq : ∀ k, k < n → stat n P (fun i => absR (d i) - d i) k = absR (d k) - d k := fun k hk => by
    have a := sa k hk
    have b := hd k hk
    have e : stat n P (fun i => absR (d i) - d i) k = stat n P (fun i => absR (d i)) k - stat n P d k := by
      unfold stat
      rw [← rs_sub9]
      exact rs_congr fun j _ => by grind
    rw [e, a, b]
  have pp : ∀ i, i < n → 0 < d i → 0 < d h := fun i hi p => by
    have q := led_pos c sp (fun k _ => by have := absR_ge (d k); grind) (hl i hi) (by have := absR_ge (d i); grind)
    have q : 0 < absR (d h) + d h := q
    unfold absR at q
    split at q <;> grind
  have qq : ∀ i, i < n → d i < 0 → d h < 0 := fun i hi p => by
    have q := led_pos c sq (fun k _ => by have := absR_ge (d k); grind) (hl i hi) (by have := absR_ge (d i); grind)
    have q : 0 < absR (d h) - d h := q
    unfold absR at q
    split at q <;> grind
  intro k hk
  by_cases z : 0 < d k
  · have hh := pp k hk z
    have nn : ∀ i, i < n → 0 ≤ d i := fun i hi => by
      apply Rat.not_lt.mp
      intro q
      have := qq i hi q
      grind
    exact rs_all0 nn hs k hk
  · by_cases z2 : d k < 0
    · have hh := qq k hk z2
      have nn : ∀ i, i < n → 0 ≤ -1 * d i := fun i hi => by
        have : ¬ 0 < d i := fun q => by
          have := pp i hi q
          grind
        grind
      have := rs_all0 nn (by rw [rs_mul, hs]; grind) k hk
      grind
    · grind
/-- such weights that are one together: there is but one row of them -/
theorem stat_uniq (c : Chn n P) (hl : ∀ i, i < n → Led n P i h) (hw : ∀ k, k < n → stat n P w k = w k) (hv : ∀ k, k < n → stat n P v k = v k) (sw : rs n w = 1) (sv : rs n v = 1) : ∀ k, k < n → w k = v k := by
  intro k hk
  have := stat_zero (d := fun i => w i - v i) c hl (fun k hk => by
    have e : stat n P (fun i => w i - v i) k = stat n P w k - stat n P v k := by
      unfold stat
      rw [← rs_sub9]
      exact rs_congr fun j _ => by grind
    rw [e, hw k hk, hv k hk]) (by rw [rs_sub9, sw, sv]; grind) k hk
  grind
end
end Fp
namespace Fp
open PySem PySem.Spec L2 Dn
abbrev Brt := Nat → Nat → Rat
def bkB (m : Nat) (b : Brt) : Rat := rs m (b m)
/-- kind m is left out -/
def cutB (m : Nat) (b : Brt) : Brt := fun i j => if i < m then (if j < m then b i j + b i m / bkB m b * b m j else if j = m then b i m / bkB m b else b i j) else b i j
/-- all kinds from m down to 1 are left out -/
def finB : Nat → Brt → Brt
  | 0, b => b
  | m + 1, b => finB m (cutB (m + 1) b)
/-- the weights, the first one's 1 -/
def wG : Nat → Brt → Nat → Rat
  | 0, _ => fun _ => 1
  | m + 1, b => fun k => if k = m + 1 then rs (m + 1) fun i => wG m (cutB (m + 1) b) i * cutB (m + 1) b i (m + 1) else wG m (cutB (m + 1) b) k
section
variable {m : Nat} {b : Brt}
theorem wG_lt {m : Nat} {b : Brt} {k : Nat} (h : k < m + 1) : wG (m + 1) b k = wG m (cutB (m + 1) b) k := by
  show (if k = m + 1 then _ else _) = _
  exact if_neg (by omega)
theorem wG_top {m : Nat} {b : Brt} : wG (m + 1) b (m + 1) = rs (m + 1) fun i => wG m (cutB (m + 1) b) i * cutB (m + 1) b i (m + 1) := by
  show (if m + 1 = m + 1 then _ else _) = _
  exact if_pos rfl
theorem fin_out : ∀ (m : Nat) (b : Brt) (i j : Nat), m < i ∨ m < j → finB m b i j = b i j
  | 0, b, i, j, _ => rfl
  | m + 1, b, i, j, h => by
    rw [finB, fin_out m _ i j (by omega)]
    unfold cutB
    split
    · split
      · omega
      · split
        · omega
        · rfl
    · rfl
theorem wG_fin : ∀ (m : Nat) (b : Brt) (k : Nat), k ≤ m → wG m b k = if k = 0 then 1 else rs k fun i => wG m b i * finB m b i k
  | 0, b, k, h => by
    rw [if_pos (by omega)]
    rfl
  | m + 1, b, k, h => by
    by_cases h0 : k = 0
    · rw [if_pos h0, h0]
      have e1 : wG (m + 1) b 0 = wG m (cutB (m + 1) b) 0 := wG_lt (by omega)
      rw [e1, wG_fin m _ 0 (Nat.zero_le _), if_pos rfl]
    · rw [if_neg h0]
      rcases Nat.lt_or_eq_of_le h with h1 | rfl
      · have e1 : wG (m + 1) b k = wG m (cutB (m + 1) b) k := by
          exact wG_lt (by omega)
        rw [e1, wG_fin m _ k (by omega), if_neg h0]
        refine rs_congr fun i hi => ?_
        have e2 : wG (m + 1) b i = wG m (cutB (m + 1) b) i := wG_lt (by omega)
        rw [e2]
        rfl
      · have e1 : wG (m + 1) b (m + 1) = rs (m + 1) fun i => wG m (cutB (m + 1) b) i * cutB (m + 1) b i (m + 1) := wG_top
        rw [e1]
        refine rs_congr fun i hi => ?_
        have e2 : wG (m + 1) b i = wG m (cutB (m + 1) b) i := wG_lt (by omega)
        have e3 : finB (m + 1) b i (m + 1) = finB m (cutB (m + 1) b) i (m + 1) := rfl
        rw [e2, e3, fin_out m _ i (m + 1) (.inr (by omega))]
theorem cut_chn (c : Chn (m + 1) b) (hb : 0 < bkB m b) : Chn m (cutB m b) := by
  have nn := c.nn
  refine ⟨fun i j hi hj => ?_, fun i hi => ?_⟩
  · unfold cutB
    rw [if_pos hi, if_pos hj]
    have h1 := nn i j (by omega) (by omega)
    have h2 := nn i m (by omega) (by omega)
    have h3 := nn m j (by omega) (by omega)
    have h4 : 0 ≤ b i m / bkB m b := by
      rw [Rat.div_def]
      exact Rat.mul_nonneg h2 (Rat.le_of_lt (Rat.inv_pos.mpr hb))
    have := Rat.mul_nonneg h4 h3
    grind
  · have e : rs m (cutB m b i) = rs m fun j => b i j + b i m / bkB m b * b m j := rs_congr fun j hj => by
      unfold cutB
      rw [if_pos hi, if_pos hj]
    rw [e, rs_add, rs_mul]
    have o := c.one i (by omega)
    rw [rs_succ] at o
    have e2 : rs m (fun j => b m j) = bkB m b := rfl
    rw [e2]
    have e3 : b i m / bkB m b * bkB m b = b i m := Rat.div_mul_cancel (by grind)
    rw [e3]
    exact o
theorem led_cut (c : Chn (m + 2) b) : ∀ {i z : Nat}, Led (m + 2) b i z → z = 0 → (i < m + 1 → 0 < bkB (m + 1) b → Led (m + 1) (cutB (m + 1) b) i 0) ∧ (i = m + 1 → ∃ j, j < m + 1 ∧ b (m + 1) j ≠ 0 ∧ (0 < bkB (m + 1) b → Led (m + 1) (cutB (m + 1) b) j 0))
  | _, _, .refl i h, z => by
    subst z
    exact ⟨fun _ _ => .refl 0 (by omega), fun h => by omega⟩
  | _, _, .step i j k h1 h2 h3, z => by
    have ih := led_cut c h3 z
    have hj := h3.lt1
    have inv : 0 < bkB (m + 1) b → 0 < (bkB (m + 1) b)⁻¹ := fun h => Rat.inv_pos.mpr h
    refine ⟨fun hi hb => ?_, fun hi => ?_⟩
    · have p1 : 0 < b i j := by
        have := c.nn i j (by omega) hj
        grind
      by_cases hj2 : j < m + 1
      · refine .step i j 0 hi ?_ (ih.1 hj2 hb)
        unfold cutB
        rw [if_pos hi, if_pos hj2, Rat.div_def]
        have q1 := c.nn i (m + 1) (by omega) (by omega)
        have q2 := c.nn (m + 1) j (by omega) hj
        have := Rat.mul_nonneg (Rat.mul_nonneg q1 (Rat.le_of_lt (inv hb))) q2
        grind
      · obtain ⟨j2, l2, z2, led2⟩ := ih.2 (by omega)
        refine .step i j2 0 hi ?_ (led2 hb)
        have ej : j = m + 1 := by omega
        subst ej
        unfold cutB
        rw [if_pos hi, if_pos l2, Rat.div_def]
        have q1 := c.nn i j2 (by omega) (by omega)
        have q2 : 0 < b (m + 1) j2 := by
          have := c.nn (m + 1) j2 (by omega) (by omega)
          grind
        have := Rat.mul_pos (Rat.mul_pos p1 (inv hb)) q2
        grind
    · subst hi
      by_cases hj2 : j < m + 1
      · exact ⟨j, hj2, h2, fun hb => ih.1 hj2 hb⟩
      · exact ih.2 (by omega)
theorem back_pos (c : Chn (m + 2) b) (h : Led (m + 2) b (m + 1) 0) : 0 < bkB (m + 1) b := by
  obtain ⟨j, hj, z, _⟩ := (led_cut c h rfl).2 rfl
  have p : 0 < b (m + 1) j := by
    have := c.nn (m + 1) j (by omega) (by omega)
    grind
  have := rs_ge1 (n := m + 1) (g := b (m + 1)) (fun k hk => c.nn (m + 1) k (by omega) (by omega)) j hj
  unfold bkB
  grind
/-- these weights the chain leaves as they are -/
theorem wG_stat : ∀ (m : Nat) (b : Brt), Chn (m + 1) b → (∀ i, i < m + 1 → Led (m + 1) b i 0) → (∀ k, k < m + 1 → stat (m + 1) b (wG m b) k = wG m b k) ∧ (∀ k, k < m + 1 → 0 ≤ wG m b k) ∧ wG m b 0 = 1
  | 0, b, c, hl => by
    refine ⟨fun k hk => ?_, fun k hk => by show (0 : Rat) ≤ 1; decide, rfl⟩
    have : k = 0 := by omega
    subst this
    have o := c.one 0 (by decide)
    unfold stat
    rw [rs_succ, rs_zero] at o ⊢
    show 0 + 1 * b 0 0 = 1
    grind
  | m + 1, b, c, hl => by
    have hb := back_pos c (hl (m + 1) (by omega))
    have c2 := cut_chn c hb
    obtain ⟨s, nn, w0⟩ := wG_stat m (cutB (m + 1) b) c2 fun i hi => (led_cut c (hl i (by omega)) rfl).1 hi hb
    have el : ∀ k, k < m + 1 → wG (m + 1) b k = wG m (cutB (m + 1) b) k := fun k hk => wG_lt hk
    have em : wG (m + 1) b (m + 1) = rs (m + 1) fun i => wG m (cutB (m + 1) b) i * cutB (m + 1) b i (m + 1) := wG_top
    have cm : ∀ i, i < m + 1 → cutB (m + 1) b i (m + 1) = b i (m + 1) / bkB (m + 1) b := fun i hi => by
      unfold cutB
      rw [if_pos hi, if_neg (by omega), if_pos rfl]
    have cj : ∀ i j, i < m + 1 → j < m + 1 → cutB (m + 1) b i j = b i j + cutB (m + 1) b i (m + 1) * b (m + 1) j := fun i j hi hj => by
      rw [cm i hi]
      unfold cutB
      rw [if_pos hi, if_pos hj]
    generalize wG m (cutB (m + 1) b) = w at *
    have wm : wG (m + 1) b (m + 1) * bkB (m + 1) b = rs (m + 1) fun i => w i * b i (m + 1) := by
      rw [em, Rat.mul_comm, ← rs_mul]
      refine rs_congr fun i hi => ?_
      rw [cm i hi]
      have e3 : b i (m + 1) / bkB (m + 1) b * bkB (m + 1) b = b i (m + 1) := Rat.div_mul_cancel (by grind)
      generalize b i (m + 1) / bkB (m + 1) b = q at *
      grind
    have row := c.one (m + 1) (by omega)
    rw [rs_succ] at row
    have bk : rs (m + 1) (b (m + 1)) = bkB (m + 1) b := rfl
    rw [bk] at row
    refine ⟨fun k hk => ?_, fun k hk => ?_, ?_⟩
    · unfold stat
      rw [rs_succ, rs_congr (g := fun j => wG (m + 1) b j * b j k) (h := fun j => w j * b j k) fun i hi => by rw [el i hi]]
      by_cases hk2 : k < m + 1
      · have e := s k hk2
        unfold stat at e
        rw [rs_congr (g := fun j => w j * cutB (m + 1) b j k) (h := fun j => w j * b j k + b (m + 1) k * (w j * cutB (m + 1) b j (m + 1))) fun i hi => by rw [cj i k hi hk2]; grind, rs_add, rs_mul, ← em] at e
        rw [el k hk2, ← e]
        grind
      · have : k = m + 1 := by omega
        subst this
        rw [← wm]
        have : b (m + 1) (m + 1) = 1 - bkB (m + 1) b := by grind
        rw [this]
        grind
    · by_cases hk2 : k < m + 1
      · rw [el k hk2]
        exact nn k hk2
      · have : k = m + 1 := by omega
        subst this
        rw [em]
        refine rs_nn fun i hi => Rat.mul_nonneg (nn i hi) ?_
        rw [cm i hi, Rat.div_def]
        exact Rat.mul_nonneg (c.nn i (m + 1) (by omega) (by omega)) (Rat.le_of_lt (Rat.inv_pos.mpr hb))
    · rw [el 0 (by omega)]
      exact w0
end
end Fp
namespace Fp
open PySem PySem.Spec L2 Dn
/-- all ways to send each other kind on -/
def cntT (n : Nat) : Nat := [1, 1, 2, 9, 64].getD n 0
def othL (n h : Nat) : List Nat := (List.range n).filter fun k => !decide (k = h)
/-- where the kind is sent to, by the number of the way -/
def sentL (n : Nat) : List Nat → Nat → List (Nat × Nat)
  | [], _ => []
  | k :: r, m => (k, m % n) :: sentL n r (m / n)
def sentF (h : Nat) (s : List (Nat × Nat)) (k : Nat) : Nat := ((s.find? fun p => decide (p.1 = k)).map (·.2)).getD h
def iterN (g : Nat → Nat) : Nat → Nat → Nat
  | 0, k => k
  | r + 1, k => iterN g r (g k)
def goodT (n h m : Nat) : Bool := (othL n h).all fun k => decide (iterN (sentF h (sentL n (othL n h) m)) n k = h)
def prodT (P : Nat → Nat → Rat) : Rat → List (Nat × Nat) → Rat
  | c, [] => c
  | c, p :: r => prodT P (c * P p.1 p.2) r
def tw (n : Nat) (P : Nat → Nat → Rat) (h : Nat) : Rat := rs (cntT n) fun m => if goodT n h m = true then prodT P 1 (sentL n (othL n h) m) else 0
theorem rs_filt {N : Nat} {p : Nat → Bool} {g : Nat → Rat} : (rs N fun m => if p m = true then g m else 0) = (((List.range N).filter p).map g).sum := by
  unfold rs
  generalize List.range N = l
  induction l with
  | nil => rfl
  | cons a l ih =>
    rw [List.map_cons, List.sum_cons, ih]
    by_cases h : p a = true
    · rw [List.filter_cons_of_pos h, List.map_cons, List.sum_cons, if_pos h]
    · rw [List.filter_cons_of_neg h, if_neg h]
      grind
section
variable {P : Nat → Nat → Rat}
theorem tw_1_0 : tw 1 P 0 = 1 := by
  have e : (List.range (cntT 1)).filter (goodT 1 0) = [0] := by decide +kernel
  unfold tw
  rw [rs_filt, e]
  simp only [List.map_cons, List.map_nil, List.sum_cons, List.sum_nil]
  have e2 : othL 1 0 = [] := by decide +kernel
  rw [e2]
  simp [sentL, prodT, Rat.add_zero]
theorem tw_2_0 : tw 2 P 0 = P 1 0 := by
  have e : (List.range (cntT 2)).filter (goodT 2 0) = [0] := by decide +kernel
  unfold tw
  rw [rs_filt, e]
  simp only [List.map_cons, List.map_nil, List.sum_cons, List.sum_nil]
  have e2 : othL 2 0 = [1] := by decide +kernel
  rw [e2]
  simp [sentL, prodT, Rat.add_zero]
theorem tw_2_1 : tw 2 P 1 = P 0 1 := by
  have e : (List.range (cntT 2)).filter (goodT 2 1) = [1] := by decide +kernel
  unfold tw
  rw [rs_filt, e]
  simp only [List.map_cons, List.map_nil, List.sum_cons, List.sum_nil]
  have e2 : othL 2 1 = [0] := by decide +kernel
  rw [e2]
  simp [sentL, prodT, Rat.add_zero]
theorem tw_3_0 : tw 3 P 0 = P 1 0 * P 2 0 + P 1 2 * P 2 0 + P 1 0 * P 2 1 := by
  have e : (List.range (cntT 3)).filter (goodT 3 0) = [0, 2, 3] := by decide +kernel
  unfold tw
  rw [rs_filt, e]
  simp only [List.map_cons, List.map_nil, List.sum_cons, List.sum_nil]
  have e2 : othL 3 0 = [1, 2] := by decide +kernel
  rw [e2]
  simp [sentL, prodT, Rat.add_zero, Rat.add_assoc]
theorem tw_3_1 : tw 3 P 1 = P 0 1 * P 2 0 + P 0 1 * P 2 1 + P 0 2 * P 2 1 := by
  have e : (List.range (cntT 3)).filter (goodT 3 1) = [1, 4, 5] := by decide +kernel
  unfold tw
  rw [rs_filt, e]
  simp only [List.map_cons, List.map_nil, List.sum_cons, List.sum_nil]
  have e2 : othL 3 1 = [0, 2] := by decide +kernel
  rw [e2]
  simp [sentL, prodT, Rat.add_zero, Rat.add_assoc]
theorem tw_3_2 : tw 3 P 2 = P 0 2 * P 1 0 + P 0 1 * P 1 2 + P 0 2 * P 1 2 := by
  have e : (List.range (cntT 3)).filter (goodT 3 2) = [2, 7, 8] := by decide +kernel
  unfold tw
  rw [rs_filt, e]
  simp only [List.map_cons, List.map_nil, List.sum_cons, List.sum_nil]
  have e2 : othL 3 2 = [0, 1] := by decide +kernel
  rw [e2]
  simp [sentL, prodT, Rat.add_zero, Rat.add_assoc]
theorem tw_4_0 : tw 4 P 0 = P 1 0 * P 2 0 * P 3 0 + P 1 2 * P 2 0 * P 3 0 + P 1 3 * P 2 0 * P 3 0 + P 1 0 * P 2 1 * P 3 0 + P 1 3 * P 2 1 * P 3 0 + P 1 0 * P 2 3 * P 3 0 + P 1 2 * P 2 3 * P 3 0 + P 1 3 * P 2 3 * P 3 0 + P 1 0 * P 2 0 * P 3 1 + P 1 2 * P 2 0 * P 3 1 + P 1 0 * P 2 1 * P 3 1 + P 1 0 * P 2 3 * P 3 1 + P 1 0 * P 2 0 * P 3 2 + P 1 2 * P 2 0 * P 3 2 + P 1 3 * P 2 0 * P 3 2 + P 1 0 * P 2 1 * P 3 2 := by
  have e : (List.range (cntT 4)).filter (goodT 4 0) = [0, 2, 3, 4, 7, 12, 14, 15, 16, 18, 20, 28, 32, 34, 35, 36] := by decide +kernel
  unfold tw
  rw [rs_filt, e]
  simp only [List.map_cons, List.map_nil, List.sum_cons, List.sum_nil]
  have e2 : othL 4 0 = [1, 2, 3] := by decide +kernel
  rw [e2]
  simp [sentL, prodT, Rat.add_zero, Rat.add_assoc]
theorem tw_4_1 : tw 4 P 1 = P 0 1 * P 2 0 * P 3 0 + P 0 1 * P 2 1 * P 3 0 + P 0 2 * P 2 1 * P 3 0 + P 0 1 * P 2 3 * P 3 0 + P 0 1 * P 2 0 * P 3 1 + P 0 3 * P 2 0 * P 3 1 + P 0 1 * P 2 1 * P 3 1 + P 0 2 * P 2 1 * P 3 1 + P 0 3 * P 2 1 * P 3 1 + P 0 1 * P 2 3 * P 3 1 + P 0 2 * P 2 3 * P 3 1 + P 0 3 * P 2 3 * P 3 1 + P 0 1 * P 2 0 * P 3 2 + P 0 1 * P 2 1 * P 3 2 + P 0 2 * P 2 1 * P 3 2 + P 0 3 * P 2 1 * P 3 2 := by
  have e : (List.range (cntT 4)).filter (goodT 4 1) = [1, 5, 6, 13, 17, 19, 21, 22, 23, 29, 30, 31, 33, 37, 38, 39] := by decide +kernel
  unfold tw
  rw [rs_filt, e]
  simp only [List.map_cons, List.map_nil, List.sum_cons, List.sum_nil]
  have e2 : othL 4 1 = [0, 2, 3] := by decide +kernel
  rw [e2]
  simp [sentL, prodT, Rat.add_zero, Rat.add_assoc]
theorem tw_4_2 : tw 4 P 2 = P 0 2 * P 1 0 * P 3 0 + P 0 1 * P 1 2 * P 3 0 + P 0 2 * P 1 2 * P 3 0 + P 0 2 * P 1 3 * P 3 0 + P 0 2 * P 1 0 * P 3 1 + P 0 1 * P 1 2 * P 3 1 + P 0 2 * P 1 2 * P 3 1 + P 0 3 * P 1 2 * P 3 1 + P 0 2 * P 1 0 * P 3 2 + P 0 3 * P 1 0 * P 3 2 + P 0 1 * P 1 2 * P 3 2 + P 0 2 * P 1 2 * P 3 2 + P 0 3 * P 1 2 * P 3 2 + P 0 1 * P 1 3 * P 3 2 + P 0 2 * P 1 3 * P 3 2 + P 0 3 * P 1 3 * P 3 2 := by
  have e : (List.range (cntT 4)).filter (goodT 4 2) = [2, 9, 10, 14, 18, 25, 26, 27, 34, 35, 41, 42, 43, 45, 46, 47] := by decide +kernel
  unfold tw
  rw [rs_filt, e]
  simp only [List.map_cons, List.map_nil, List.sum_cons, List.sum_nil]
  have e2 : othL 4 2 = [0, 1, 3] := by decide +kernel
  rw [e2]
  simp [sentL, prodT, Rat.add_zero, Rat.add_assoc]
theorem tw_4_3 : tw 4 P 3 = P 0 3 * P 1 0 * P 2 0 + P 0 3 * P 1 2 * P 2 0 + P 0 1 * P 1 3 * P 2 0 + P 0 3 * P 1 3 * P 2 0 + P 0 3 * P 1 0 * P 2 1 + P 0 1 * P 1 3 * P 2 1 + P 0 2 * P 1 3 * P 2 1 + P 0 3 * P 1 3 * P 2 1 + P 0 2 * P 1 0 * P 2 3 + P 0 3 * P 1 0 * P 2 3 + P 0 1 * P 1 2 * P 2 3 + P 0 2 * P 1 2 * P 2 3 + P 0 3 * P 1 2 * P 2 3 + P 0 1 * P 1 3 * P 2 3 + P 0 2 * P 1 3 * P 2 3 + P 0 3 * P 1 3 * P 2 3 := by
  have e : (List.range (cntT 4)).filter (goodT 4 3) = [3, 11, 13, 15, 19, 29, 30, 31, 50, 51, 57, 58, 59, 61, 62, 63] := by decide +kernel
  unfold tw
  rw [rs_filt, e]
  simp only [List.map_cons, List.map_nil, List.sum_cons, List.sum_nil]
  have e2 : othL 4 3 = [0, 1, 2] := by decide +kernel
  rw [e2]
  simp [sentL, prodT, Rat.add_zero, Rat.add_assoc]
theorem rs_1' {g : Nat → Rat} : rs 1 g = g 0 := by rw [rs_succ, rs_zero]; grind
theorem rs_2' {g : Nat → Rat} : rs 2 g = g 0 + g 1 := by rw [rs_succ, rs_1']
theorem rs_3' {g : Nat → Rat} : rs 3 g = g 0 + g 1 + g 2 := by rw [rs_succ, rs_2']
theorem rs_4' {g : Nat → Rat} : rs 4 g = g 0 + g 1 + g 2 + g 3 := by rw [rs_succ, rs_3']
theorem st_1_0 (h0 : rs 1 (P 0) = 1) : stat 1 P (tw 1 P) 0 = tw 1 P 0 := by
  unfold stat
  rw [rs_1'] at *
  rw [tw_1_0]
  have e : P 0 0 = 1 - (0) := by grind
  rw [e]
  grind
theorem st_2_0 (h0 : rs 2 (P 0) = 1) : stat 2 P (tw 2 P) 0 = tw 2 P 0 := by
  unfold stat
  rw [rs_2'] at *
  rw [tw_2_0, tw_2_1]
  have e : P 0 0 = 1 - (P 0 1) := by grind
  rw [e]
  grind
theorem st_2_1 (h1 : rs 2 (P 1) = 1) : stat 2 P (tw 2 P) 1 = tw 2 P 1 := by
  unfold stat
  rw [rs_2'] at *
  rw [tw_2_0, tw_2_1]
  have e : P 1 1 = 1 - (P 1 0) := by grind
  rw [e]
  grind
theorem st_3_0 (h0 : rs 3 (P 0) = 1) : stat 3 P (tw 3 P) 0 = tw 3 P 0 := by
  unfold stat
  rw [rs_3'] at *
  rw [tw_3_0, tw_3_1, tw_3_2]
  have e : P 0 0 = 1 - (P 0 1 + P 0 2) := by grind
  rw [e]
  grind
theorem st_3_1 (h1 : rs 3 (P 1) = 1) : stat 3 P (tw 3 P) 1 = tw 3 P 1 := by
  unfold stat
  rw [rs_3'] at *
  rw [tw_3_0, tw_3_1, tw_3_2]
  have e : P 1 1 = 1 - (P 1 0 + P 1 2) := by grind
  rw [e]
  grind
theorem st_3_2 (h2 : rs 3 (P 2) = 1) : stat 3 P (tw 3 P) 2 = tw 3 P 2 := by
  unfold stat
  rw [rs_3'] at *
  rw [tw_3_0, tw_3_1, tw_3_2]
  have e : P 2 2 = 1 - (P 2 0 + P 2 1) := by grind
  rw [e]
  grind
theorem st_4_0 (h0 : rs 4 (P 0) = 1) : stat 4 P (tw 4 P) 0 = tw 4 P 0 := by
  unfold stat
  rw [rs_4'] at *
  rw [tw_4_0, tw_4_1, tw_4_2, tw_4_3]
  have e : P 0 0 = 1 - (P 0 1 + P 0 2 + P 0 3) := by grind
  rw [e]
  grind
theorem st_4_1 (h1 : rs 4 (P 1) = 1) : stat 4 P (tw 4 P) 1 = tw 4 P 1 := by
  unfold stat
  rw [rs_4'] at *
  rw [tw_4_0, tw_4_1, tw_4_2, tw_4_3]
  have e : P 1 1 = 1 - (P 1 0 + P 1 2 + P 1 3) := by grind
  rw [e]
  grind
theorem st_4_2 (h2 : rs 4 (P 2) = 1) : stat 4 P (tw 4 P) 2 = tw 4 P 2 := by
  unfold stat
  rw [rs_4'] at *
  rw [tw_4_0, tw_4_1, tw_4_2, tw_4_3]
  have e : P 2 2 = 1 - (P 2 0 + P 2 1 + P 2 3) := by grind
  rw [e]
  grind
theorem st_4_3 (h3 : rs 4 (P 3) = 1) : stat 4 P (tw 4 P) 3 = tw 4 P 3 := by
  unfold stat
  rw [rs_4'] at *
  rw [tw_4_0, tw_4_1, tw_4_2, tw_4_3]
  have e : P 3 3 = 1 - (P 3 0 + P 3 1 + P 3 2) := by grind
  rw [e]
  grind
theorem stat_tw {n : Nat} (n1 : 1 ≤ n) (n4 : n ≤ 4) (c : Chn n P) : ∀ k, k < n → stat n P (tw n P) k = tw n P k := by
  intro k hk
  match n, n1, n4, c with
  | 1, _, _, c => match k, hk with
    | 0, _ => exact st_1_0 (c.one 0 (by decide))
  | 2, _, _, c => match k, hk with
    | 0, _ => exact st_2_0 (c.one 0 (by decide))
    | 1, _ => exact st_2_1 (c.one 1 (by decide))
  | 3, _, _, c => match k, hk with
    | 0, _ => exact st_3_0 (c.one 0 (by decide))
    | 1, _ => exact st_3_1 (c.one 1 (by decide))
    | 2, _ => exact st_3_2 (c.one 2 (by decide))
  | 4, _, _, c => match k, hk with
    | 0, _ => exact st_4_0 (c.one 0 (by decide))
    | 1, _ => exact st_4_1 (c.one 1 (by decide))
    | 2, _ => exact st_4_2 (c.one 2 (by decide))
    | 3, _ => exact st_4_3 (c.one 3 (by decide))
end
end Fp
namespace Fp
open PySem PySem.Spec L2 Dn
def prD (p : Nat × Nat) : PyData := .tuple [.int (p.1 : Nat), .int (p.2 : Nat)]
/-- the first way amiss -/
def wayV (P : Nat → Nat → Rat) : List Nat → List (Nat × Nat) → Nat → Option Nat
  | _, [], _ => none
  | led, (a, b) :: r, i => if (decide (a ∈ led) || (decide (P a b = 0) || !decide (b ∈ led))) = true then some i else wayV P (led ++ [a]) r (i + 1)
/-- the first thing amiss in ways -/
def vY (n : Nat) (P : Nat → Nat → Rat) (h : Nat) (ps : List (Nat × Nat)) : Option (Str × Nat) := match wayV P [h] ps 0 with
  | some i => some ("way", i)
  | none => ((List.range n).find? fun k => !decide (k ∈ h :: ps.map (·.1))).map fun k => ("lacks", k)
/-- the first thing amiss in a share paper -/
def vS (n : Nat) (P : Nat → Nat → Rat) (h : Nat) (w : Nat → Rat) (ps : List (Nat × Nat)) : Option (Str × Nat) := match vW n P w with
  | some v => some v
  | none => vY n P h ps
section
variable {n h : Nat} {P : Nat → Nat → Rat} {w : Nat → Rat} {ps : List (Nat × Nat)} {f : Feed}
theorem ways_loop (hn : n ≤ 4) {d1 d2 : PyData} : ∀ (ps : List (Nat × Nat)) (led : List Nat) (i : Nat) (s4 s5 s6 s7 : Slot), (∀ p ∈ ps, p.1 < n ∧ p.2 < n) → led.length + ps.length ≤ 100 →
    (∀ j, wayV P led ps i = some j → forN (.many [4, 5]) (sSeq (sAsg (.many [6, 7]) (cVar 5)) (sSeq (sIf (tOrX (cT (cBin (oInF false) (cVar 6) (cVar 3))) (tOrX (tNotX (cT (cCall F_is_led_to [cVar 0, cVar 6, cVar 7]))) (cT (cBin (oInF true) (cVar 7) (cVar 3))))) (sRaise "NoPaper" ["word", "place"] [cC (.str "way"), cVar 4]) (sNext)) (sApp 3 (cVar 6)))) (ps.mapIdx fun m p => .tuple [.int ((i + m : Nat) : Int), prD p]) [.dat (rowsP n P), .dat d1, .dat d2, .own (natsD led), s4, s5, s6, s7] f = exR "way" j f) ∧
    (wayV P led ps i = none → ∃ t4 t5 t6 t7 : Slot, forN (.many [4, 5]) (sSeq (sAsg (.many [6, 7]) (cVar 5)) (sSeq (sIf (tOrX (cT (cBin (oInF false) (cVar 6) (cVar 3))) (tOrX (tNotX (cT (cCall F_is_led_to [cVar 0, cVar 6, cVar 7]))) (cT (cBin (oInF true) (cVar 7) (cVar 3))))) (sRaise "NoPaper" ["word", "place"] [cC (.str "way"), cVar 4]) (sNext)) (sApp 3 (cVar 6)))) (ps.mapIdx fun m p => .tuple [.int ((i + m : Nat) : Int), prD p]) [.dat (rowsP n P), .dat d1, .dat d2, .own (natsD led), s4, s5, s6, s7] f = .ok (.nx [.dat (rowsP n P), .dat d1, .dat d2, .own (natsD (led ++ ps.map (·.1))), t4, t5, t6, t7]) f)
  | [], led, i, s4, s5, s6, s7, _, _ => ⟨fun j q => by simp [wayV] at q, fun _ => ⟨s4, s5, s6, s7, by simp [forN]⟩⟩
  | (a, b) :: r, led, i, s4, s5, s6, s7, hp, hl => by
    obtain ⟨ha, hb⟩ := hp (a, b) List.mem_cons_self
    rw [List.length_cons] at hl
    have e1 : ((a, b) :: r).mapIdx (fun m p => PyData.tuple [.int ((i + m : Nat) : Int), prD p]) = .tuple [.int (i : Nat), prD (a, b)] :: r.mapIdx fun m p => .tuple [.int ((i + 1 + m : Nat) : Int), prD p] := by
      rw [List.mapIdx_cons]
      congr 1
      congr 1
      funext m p
      rw [show i + (m + 1) = i + 1 + m by omega]
    rw [e1]
    have ih := ways_loop hn (d1 := d1) (d2 := d2) r (led ++ [a]) (i + 1) (.dat (.int (i : Nat))) (.dat (prD (a, b))) (.dat (.int (a : Nat))) (.dat (.int (b : Nat))) (fun p hp2 => hp p (List.mem_cons_of_mem _ hp2)) (by rw [List.length_append, List.length_singleton]; omega)
    have lq := led_q (P := P) (f := f) ha hb
    have i1 := inNs (neg := false) (a := a) (A := led)
    have i2 := inNs (neg := true) (a := b) (A := led)
    rw [Bool.false_xor] at i1
    rw [Bool.true_xor] at i2
    have pp : ∀ (R : PyData) (own : Slot), Tgt.put (.many [6, 7]) (prD (a, b)) [.dat R, .dat d1, .dat d2, own, .dat (.int (i : Nat)), .dat (prD (a, b)), s6, s7] = some [.dat R, .dat d1, .dat d2, own, .dat (.int (i : Nat)), .dat (prD (a, b)), .dat (.int (a : Nat)), .dat (.int (b : Nat))] := fun _ _ => rfl
    have ap : natsD led ++ [.int (a : Nat)] = natsD (led ++ [a]) := by
      unfold natsD
      rw [List.map_append]
      rfl
    have ll : (natsD led).length < 100000 := by
      unfold natsD
      rw [List.length_map]
      omega
    have le : led ++ ((a, b) :: r).map (·.1) = led ++ [a] ++ r.map (·.1) := by simp
    rw [le]
    generalize (r.mapIdx fun m p => PyData.tuple [.int ((i + 1 + m : Nat) : Int), prD p]) = rest at *
    unfold wayV
    have p0 : ∀ (R : PyData) (own : Slot), Tgt.put (.many [4, 5]) (.tuple [.int (i : Nat), prD (a, b)]) [.dat R, .dat d1, .dat d2, own, s4, s5, s6, s7] = some [.dat R, .dat d1, .dat d2, own, .dat (.int (i : Nat)), .dat (prD (a, b)), s6, s7] := fun _ _ => rfl
    generalize natsD (led ++ [a]) = L2 at *
    generalize natsD led = L1 at *
    generalize rowsP n P = R at *
    generalize prD (a, b) = pd at *
    rw [forN, p0]
    cases c1 : decide (a ∈ led) with
    | true =>
      rw [c1] at i1
      refine ⟨fun j q => ?_, fun q => by simp at q⟩
      simp at q
      subst q
      simp [pp, i1, exR]
    | false =>
      rw [c1] at i1
      cases c2 : decide (P a b = 0) with
      | true =>
        rw [c2] at lq
        refine ⟨fun j q => ?_, fun q => by simp at q⟩
        simp at q
        subst q
        simp [pp, i1, lq, exR]
      | false =>
        rw [c2] at lq
        cases c3 : decide (b ∈ led) with
        | false =>
          rw [c3] at i2
          refine ⟨fun j q => ?_, fun q => by simp at q⟩
          simp at q
          subst q
          simp [pp, i1, lq, i2, exR]
        | true =>
          rw [c3] at i2
          simp [pp, i1, lq, i2, ll, ap]
          refine ⟨ih.1, fun q => ?_⟩
          have := ih.2 q
          rw [List.append_assoc] at this
          exact this
theorem look_ways_q (hn : n ≤ 4) (hh : h < n) (hp : ∀ p ∈ ps, p.1 < n ∧ p.2 < n) (hl : ps.length ≤ 3) : F_look_at_ways_X [.dat (rowsP n P), .dat (.int (h : Nat)), .dat (.tuple (ps.map prD))] f = telR (vY n P h ps) .none f := by
  rw [u_look_at_ways_X]
  unfold S_look_at_ways_X
  have wl := ways_loop (P := P) (f := f) hn (d1 := .int (h : Nat)) (d2 := .tuple (ps.map prD)) ps [h] 0 .emp .emp .emp .emp hp (by rw [List.length_singleton]; omega)
  have e1 : ps.mapIdx (fun m p => PyData.tuple [.int ((0 + m : Nat) : Int), prD p]) = pairsD (ps.map prD) := by
    unfold pairsD
    apply List.ext_getElem?
    intro m
    rw [List.getElem?_mapIdx, List.getElem?_mapIdx, List.getElem?_map]
    cases ps[m]? with
    | none => rfl
    | some p => simp
  rw [e1] at wl
  have sq : seqOf (.tuple (ps.map prD)) = some (ps.map prD) := rfl
  have n1 : [PyData.int (h : Nat)] = natsD [h] := rfl
  have lL0 : (natsD [h]).length ≤ 100000 := by
    show 1 ≤ 100000
    decide
  have e0 := lenR (n := n) (P := P)
  have sc := fun t4 t5 t6 t7 => scanF (T := .one 6) (s := sIf (cT (cBin (oInF true) (cVar 6) (cVar 3))) (sRaise "NoPaper" ["word", "place"] [cC (.str "lacks"), cVar 6]) (sNext)) (f := f) (enc := nD) (fun k => !decide (k ∈ h :: ps.map (·.1))) (fun k => exR "lacks" k f) (fun ρ => ∃ t6 : Slot, ρ = [.dat (rowsP n P), .dat (.int (h : Nat)), .dat (.tuple (ps.map prD)), .dat (.list (natsD ([h] ++ ps.map (·.1)))), t4, t5, t6, t7]) (fun k => .inr ⟨_, _, rfl⟩) (List.range n) [.dat (rowsP n P), .dat (.int (h : Nat)), .dat (.tuple (ps.map prD)), .dat (.list (natsD ([h] ++ ps.map (·.1)))), t4, t5, t6, t7] ⟨_, rfl⟩ (by
    rintro k hk ρ ⟨u6, rfl⟩
    have i2 := inNs (neg := true) (a := k) (A := [h] ++ ps.map (·.1))
    rw [Bool.true_xor] at i2
    have e9 : ([h] ++ ps.map (·.1)) = h :: ps.map (·.1) := rfl
    rw [e9] at i2 ⊢
    generalize rowsP n P = R at *
    generalize natsD (h :: ps.map (·.1)) = L at *
    refine ⟨_, rfl, fun c => ?_, fun c => ?_⟩
    · rw [c] at i2
      simp [i2, exR]
    · rw [c] at i2
      simp [i2])
  have rg : rangeD 0 n = (List.range n).map nD := by
    unfold rangeD
    refine List.map_congr_left fun i _ => ?_
    rw [Int.zero_add]
  unfold vY
  generalize ps.map prD = PD at *
  generalize rowsP n P = R at *
  generalize natsD ([h] ++ ps.map (·.1)) = L at *
  generalize natsD [h] = L0 at *
  cases q : wayV P [h] ps 0 with
  | some j =>
    have := wl.1 j q
    simp [sq, n1, lL0, this, telR, exR]
  | none =>
    obtain ⟨t4, t5, t6, t7, e2⟩ := wl.2 q
    have sc := sc t4 t5 t6 t7
    simp only
    cases q2 : (List.range n).find? (fun k => !decide (k ∈ h :: ps.map (·.1))) with
    | some k =>
      have e3 := sc.1 k q2
      simp [sq, n1, lL0, e2, e0, smallI_ok (n := (n : Int)) (by omega) (by omega), rg, e3, telR, exR]
    | none =>
      obtain ⟨ρ2, e3, u6, rfl⟩ := sc.2 q2
      simp [sq, n1, lL0, e2, e0, smallI_ok (n := (n : Int)) (by omega) (by omega), rg, e3, telR]
def shareD (n h : Nat) (w : Nat → Rat) (ps : List (Nat × Nat)) : PyData := .tuple [.str (Str.ofString "share"), .int (h : Nat), .tuple (wsD n w), .tuple (ps.map prD)]
def apartD (A B : List Nat) : PyData := .tuple [.str (Str.ofString "apart"), .tuple (natsD A), .tuple (natsD B)]
end
end Fp
namespace Fp
open PySem PySem.Spec L2 Dn
/-- the chance that kind j comes behind kind i -/
def pk (ks : List (List Tri)) (i j : Nat) : Rat := cp (ks.getD i []) (pN j)
theorem rowsD_P (ks : List (List Tri)) : rowsD ks = rowsP ks.length (pk ks) := by
  unfold rowsD rowsP
  congr 1
  apply List.ext_getElem?
  intro i
  by_cases hi : i < ks.length
  · rw [List.getElem?_map, List.getElem?_map, List.getElem?_range hi, List.getElem?_eq_getElem hi]
    show some (PyData.tuple (rowN ks.length ks[i])) = some (rwP ks.length (pk ks) i)
    congr 1
    unfold rwP rowN pk
    rw [List.getD_eq_getElem?_getD, List.getElem?_eq_getElem hi]
    rfl
  · rw [List.getElem?_eq_none (by rw [List.length_map]; omega), List.getElem?_eq_none (by rw [List.length_map, List.length_range]; omega)]
theorem KsOk.P {W : Nat} {ks : List (List Tri)} (h : KsOk W ks) : ∀ i j, i < ks.length → j < ks.length → Wh W (pk ks i j) ∧ 0 ≤ pk ks i j ∧ pk ks i j ≤ 1 := fun i j hi hj => by
  have hm : ks.getD i [] ∈ ks := by
    rw [List.getD_eq_getElem?_getD, List.getElem?_eq_getElem hi]
    exact List.getElem_mem hi
  exact (h.ok _ hm).cp (pN j)
def resR (word : Str) : Option (Str × Nat) → RV
  | none => .own [.str word]
  | some (w, k) => .dat (.tuple [.str w, .int (k : Nat)])
section
variable {W n h e b k : Nat} {ks : List (List Tri)} {P : Nat → Nat → Rat} {w : Nat → Rat} {ps : List (Nat × Nat)} {A B : List Nat} {d : PyData} {f : Feed}
theorem lenK : oLen (kindsD ks) = some (.dat (.int (ks.length : Nat))) := by
  unfold kindsD
  simp
theorem lets_S (hk : KsOk W ks) (hW : W ≤ 2 ^ 31) (hd : Th e b k (shareD ks.length h w ps)) (hb : b ≤ 90000) (hs : shB ks.length (shareD ks.length h w ps) = true) (rw' : RW ks.length (pk ks) w) (hh : h < ks.length) (hp : ∀ p ∈ ps, p.1 < ks.length ∧ p.2 < ks.length) (hl : ps.length ≤ 3) :
    F_lets_share_X [.dat (kindsD ks), .dat (shareD ks.length h w ps)] f = telR (vS ks.length (pk ks) h w ps) (.str "share") f := by
  have ch := chain_q (f := f) hk hW
  have sh := is_share_any (n := ks.length) (f := f) hd hb
  rw [hs] at sh
  have lk := lenK (ks := ks)
  have lw := look_weights_q (f := f) rw'
  have ly := look_ways_q (P := pk ks) (f := f) hk.n4 hh hp hl
  rw [rowsD_P] at ch
  have i1 : oIx (shareD ks.length h w ps) (.int 1) = some (.dat (.int (h : Nat))) := rfl
  have i2 : oIx (shareD ks.length h w ps) (.int 2) = some (.dat (.tuple (wsD ks.length w))) := rfl
  have i3 : oIx (shareD ks.length h w ps) (.int 3) = some (.dat (.tuple (ps.map prD))) := rfl
  rw [u_lets_share_X]
  unfold S_lets_share_X
  unfold vS
  generalize kindsD ks = K at *
  generalize shareD ks.length h w ps = S at *
  generalize rowsP ks.length (pk ks) = R at *
  generalize PyData.tuple (wsD ks.length w) = ws at *
  generalize PyData.tuple (ps.map prD) = pd at *
  cases q1 : vW ks.length (pk ks) w with
  | some v =>
    obtain ⟨w1, k1⟩ := v
    rw [q1] at lw
    simp [ch, lk, sh, i2, lw, telR, exR]
  | none =>
    rw [q1] at lw
    simp only
    cases q2 : vY ks.length (pk ks) h ps with
    | some v =>
      obtain ⟨w1, k1⟩ := v
      rw [q2] at ly
      simp [ch, lk, sh, i1, i2, i3, lw, ly, telR, exR]
    | none =>
      rw [q2] at ly
      simp [ch, lk, sh, i1, i2, i3, lw, ly, telR]
theorem lets_A (hk : KsOk W ks) (hW : W ≤ 2 ^ 31) (hd : Tc e b k (apartD A B)) (hb : b ≤ 90000) (hkk : k ≤ 60) (hs : apB ks.length (apartD A B) = true) (hA : ∀ a ∈ A, a < ks.length) (hB : ∀ a ∈ B, a < ks.length) :
    F_lets_share_X [.dat (kindsD ks), .dat (apartD A B)] f = telR (vA ks.length (pk ks) A B) (.str "apart") f := by
  have ch := chain_q (f := f) hk hW
  have sh := is_share_any (n := ks.length) (f := f) hd.th hb
  have sh2 : shB ks.length (apartD A B) = false := by
    unfold apartD
    simp [shB]
  rw [sh2] at sh
  have ah := is_apart_any (n := ks.length) (f := f) hd hb hkk
  rw [hs] at ah
  have lk := lenK (ks := ks)
  have la := look_apart_q (P := pk ks) (f := f) hk.n4 hA hB
  rw [rowsD_P] at ch
  have i1 : oIx (apartD A B) (.int 1) = some (.dat (.tuple (natsD A))) := rfl
  have i2 : oIx (apartD A B) (.int 2) = some (.dat (.tuple (natsD B))) := rfl
  rw [u_lets_share_X]
  unfold S_lets_share_X
  generalize kindsD ks = K at *
  generalize apartD A B = S at *
  generalize rowsP ks.length (pk ks) = R at *
  generalize natsD A = TA at *
  generalize natsD B = TB at *
  cases q1 : vA ks.length (pk ks) A B with
  | some v =>
    obtain ⟨w1, k1⟩ := v
    rw [q1] at la
    simp [ch, lk, sh, ah, i1, i2, la, telR, exR]
  | none =>
    rw [q1] at la
    simp [ch, lk, sh, ah, i1, i2, la, telR]
theorem told_v4 {K : PyData} {word : Str} {v : Option (Str × Nat)} (h : ∀ g, F_lets_share_X [.dat K, .dat d] g = telR v (.str word) g) : F_q_told_v4 [.dat K, .dat d] f = .ok (resR word v) f := by
  apply ev_is
  rw [u_q_told_v4, ev_dEnd]
  unfold S_q_told_v4
  cases v with
  | none =>
    simp only [telR] at h
    simp [h, resR]
  | some p =>
    obtain ⟨w, k⟩ := p
    simp only [telR, exR] at h
    have n1 : oIsE "NoPaper" (excD "NoPaper" [("place", .int (k : Nat)), ("word", .str w)]) = some (.dat (.bool true)) := rfl
    have n2 : oIsE "ValueError" (excD "NoPaper" [("place", .int (k : Nat)), ("word", .str w)]) = some (.dat (.bool true)) := rfl
    have n3 : oIsEs ["NoAge", "NoBeat", "NoLines", "NoName", "NoRatio", "NoRow", "NoText", "TooMany"] (excD "NoPaper" [("place", .int (k : Nat)), ("word", .str w)]) = some (.dat (.bool false)) := rfl
    have n4 : oFld "word" (excD "NoPaper" [("place", .int (k : Nat)), ("word", .str w)]) = some (.dat (.str w)) := rfl
    have n5 : oFld "place" (excD "NoPaper" [("place", .int (k : Nat)), ("word", .str w)]) = some (.dat (.int (k : Nat))) := rfl
    have en : ∃ ex, excD "NoPaper" [("place", .int (k : Nat)), ("word", .str w)] = ex := ⟨_, rfl⟩
    obtain ⟨ex, en⟩ := en
    rw [en] at n1 n2 n3 n4 n5
    simp [-e_excD, h, en, n1, n2, n3, n4, n5, resR]
end
end Fp
namespace Fp
open PySem PySem.Spec L2 Dn
section
variable {W n h e b k : Nat} {ks : List (List Tri)} {P : Nat → Nat → Rat} {w : Nat → Rat} {ps : List (Nat × Nat)} {A B : List Nat} {d : PyData} {f : Feed}
end
end Fp
namespace Fp
open PySem PySem.Spec L2 Dn
section
variable {W n h e b k : Nat} {ks : List (List Tri)} {P : Nat → Nat → Rat} {w : Nat → Rat} {ps : List (Nat × Nat)} {A B : List Nat} {d : PyData} {f : Feed}
theorem q_by_s {n : Nat} {x y : Rat} {f : Feed} (hx : Sz n x) (hy : Sz n y) (hn : n ≤ 4000) : F_q_by [.dat (enc x), .dat (enc y)] f = .ok (.dat (enc (x * y))) f := by
  have m1 : oMul (.int x.num) (.int y.num) = some (.dat (.int (x.num * y.num))) := oMul_int (mulC_sz hx.num hy.num hn)
  have m3 : oMul (.int (x.den : Nat)) (.int (y.den : Nat)) = some (.dat (.int (x.den * y.den))) := oMul_int (mulC_sz (by rw [Int.natAbs_natCast]; exact hx.den) (by rw [Int.natAbs_natCast]; exact hy.den) hn)
  have b3 := prod_lt hx.den hy.den hn
  have kk : (2 : Nat) ^ 8000 ≤ 2 ^ 8500 := by decide
  have p := lowest_big (f := f) (p := x.num * y.num) (Nat.mul_pos x.den_pos y.den_pos) (by omega)
  rw [Int.natCast_mul, mul_eq] at p
  apply ev_is
  rw [u_q_by, ev_dEnd]
  unfold S_q_by
  simp [m1, m3, p]
theorem RW.bd (h : RW n P w) : ∃ D B : Nat, 0 < D ∧ 0 < B ∧ (∀ i, i < n → Wh D (w i) ∧ Ab (B : Rat) (w i)) ∧ (∀ i k, i < n → k < n → Wh D (w i * P i k) ∧ Ab (B : Rat) (w i * P i k)) ∧ B * (4 + 1) * D < 2 ^ 4000 := by
  obtain ⟨W, W0, W1, hW⟩ := h.W
  obtain ⟨e, e1, he⟩ := h.e
  obtain ⟨D, D0, d1, d2⟩ := wh_prod n he
  have n4 := h.n4
  have d3 : D ≤ 2 ^ (e * 4) := Nat.le_trans d1 (Nat.pow_le_pow_right (by decide) (Nat.mul_le_mul_left e n4))
  refine ⟨D * W, 2 ^ e, Nat.mul_pos D0 W0, Nat.pow_pos (by decide), fun i hi => ⟨(d2 i hi).up (Nat.dvd_mul_right _ _), ab_of_sz (he i hi)⟩, fun i k hi hk => ⟨(d2 i hi).mul (hW i k hi hk).1, ?_⟩, ?_⟩
  · obtain ⟨_, p0, p1⟩ := hW i k hi hk
    obtain ⟨a1, a2⟩ := ab_of_sz (he i hi)
    have b0 : (0 : Rat) ≤ ((2 ^ e : Nat) : Rat) := Rat.natCast_nonneg
    generalize ((2 ^ e : Nat) : Rat) = B at *
    constructor
    · have := Rat.mul_nonneg (show 0 ≤ w i + B by grind) p0
      have := Rat.mul_nonneg b0 (show 0 ≤ 1 - P i k by grind)
      grind
    · have := Rat.mul_nonneg (show 0 ≤ B - w i by grind) p0
      have := Rat.mul_nonneg b0 (show 0 ≤ 1 - P i k by grind)
      grind
  · have b : 2 ^ e * (4 + 1) * (D * W) ≤ 2 ^ e * 2 ^ 3 * (2 ^ (e * 4) * 2 ^ 31) := Nat.mul_le_mul (Nat.mul_le_mul_left _ (by decide)) (Nat.mul_le_mul d3 W1)
    rw [← Nat.pow_add, ← Nat.pow_add, ← Nat.pow_add] at b
    exact Nat.lt_of_le_of_lt b (Nat.pow_lt_pow_right (by decide) (by omega))
end
end Fp
namespace Fp
open PySem PySem.Spec L2 Dn
def sokk (x : Str) : Prop := ∀ c ∈ x.cps.toList, c < 0x110000
end Fp
namespace Fp
open PySem PySem.Spec L2 Dn
structure WsOk (w : Str) : Prop where
  th : Th 10 10 0 (.str w)
  s : sokk (PyData.str w).shown
theorem ws_share : WsOk (Str.ofString "share") := ⟨⟨by decide +kernel, by decide +kernel, by decide +kernel⟩, by unfold sokk; decide +kernel⟩
theorem ws_apart : WsOk (Str.ofString "apart") := ⟨⟨by decide +kernel, by decide +kernel, by decide +kernel⟩, by unfold sokk; decide +kernel⟩
section
variable {W n h e b k : Nat} {ks : List (List Tri)} {P : Nat → Nat → Rat} {w : Nat → Rat} {ps : List (Nat × Nat)} {A B : List Nat} {d : PyData} {f : Feed}
theorem rw_of (hk : KsOk W ks) (hW : W ≤ 2 ^ 31) (hd : Th e b k (shareD ks.length h w ps)) (he : e ≤ 700) : RW ks.length (pk ks) w := by
  refine ⟨hk.n4, ⟨W, hk.W0, hW, hk.P⟩, ⟨e, he, fun i hi => ?_⟩⟩
  obtain ⟨k1, _, hL⟩ := hd.tup
  have h2 := hL.mem (d := .tuple (wsD ks.length w)) (by simp)
  obtain ⟨k2, _, hL2⟩ := h2.tup
  exact szE_of (hL2.mem (List.mem_map_of_mem (List.mem_range.mpr hi)))
end
end Fp
namespace Fp
open PySem PySem.Spec L2 Dn
structure Grp (c e : Nat) (ks : List (List Tri)) : Prop where
  lo : ∀ (i : Nat) (k : List Tri), ks[i]? = some k → i < c → ∀ t ∈ k, t.nx < c
  hi : ∀ (i : Nat) (k : List Tri), ks[i]? = some k → c ≤ i → i < e → ∀ t ∈ k, c ≤ t.nx ∧ t.nx < e
theorem Grp.nil {c e : Nat} : Grp c e [] := ⟨fun i k h => by simp at h, fun i k h => by simp at h⟩
theorem Grp.snoc {c e : Nat} {ks : List (List Tri)} {k : List Tri} (h : Grp c e ks) (h1 : ks.length < c → ∀ t ∈ k, t.nx < c) (h2 : c ≤ ks.length → ks.length < e → ∀ t ∈ k, c ≤ t.nx ∧ t.nx < e) : Grp c e (ks ++ [k]) := by
  refine ⟨fun i k2 hk hi => ?_, fun i k2 hk hi he => ?_⟩
  · rw [List.getElem?_append] at hk
    split at hk
    · exact h.lo i k2 hk hi
    · rename_i q
      have : i = ks.length := by
        have := (List.getElem?_eq_some_iff.mp hk).1
        simp at this
        omega
      subst this
      simp at hk
      subst hk
      exact h1 hi
  · rw [List.getElem?_append] at hk
    split at hk
    · exact h.hi i k2 hk hi he
    · rename_i q
      have : i = ks.length := by
        have := (List.getElem?_eq_some_iff.mp hk).1
        simp at this
        omega
      subst this
      simp at hk
      subst hk
      exact h2 hi he
/-- a step, what holds behind it told by itself: simp leaves it alone -/
theorem ev_stp {s s2 : Sm} {ρ : Rho} {f : Feed} {P : Ctl → Feed → Prop} (Q : Rho → Feed → Prop) (h : ∀ Q' : Rho → Feed → Prop, (∀ ρ g, Q ρ g → Q' ρ g) → Ev (s ρ f) fun c g => ∃ ρ2, c = .nx ρ2 ∧ Q' ρ2 g) (k : ∀ ρ2 g, Q ρ2 g → Ev (s2 ρ2 g) P) : Ev (sSeq s s2 ρ f) P := ev_step Q (h Q fun _ _ h => h) k
/-- marks whose next kinds lie between two bounds -/
def MLoHi (lo hi : Nat) (kvs : List (List Int × PyData)) : Prop := ∀ p ∈ kvs, ∃ a b : Nat, p.1 = [(a : Int), (b : Int)] ∧ lo ≤ b ∧ b < hi
theorem MLoHi.put {lo hi : Nat} {kvs : List (List Int × PyData)} {x : Mk3} {d : PyData} (h : MLoHi lo hi kvs) (h1 : lo ≤ x.2.1) (h2 : x.2.1 < hi) : MLoHi lo hi (setK kvs (keyI x) d) := fun p hp => by
  rcases setK_mem hp with hp | rfl
  · exact h p hp
  · exact ⟨x.1, x.2.1, rfl, h1, h2⟩
theorem group_ok {t : Int} {f : Feed} (hF : Fd t f) (ht : t < 2 ^ 30) (t0 : 0 ≤ t) : Ev (F_q_group_kinds [.feed] f) fun rv g => ∃ ks W c e, rv = .dat (kindsD ks) ∧ KsOk W ks ∧ W ≤ 2 ^ 31 ∧ (∀ k ∈ ks, fullK k) ∧ 1 ≤ c ∧ c < e ∧ e ≤ ks.length ∧ Grp c e ks ∧ Fd (t + 70) g := by
  rw [u_q_group_kinds, ev_dEnd]
  unfold S_q_group_kinds
  refine ev_step (fun ρ g => ∃ n : Nat, ρ = [.feed, .dat (.int (n : Nat)), .emp, .emp, .emp, .emp, .emp, .emp, .emp, .emp, .emp, .emp] ∧ 2 ≤ n ∧ n ≤ 4 ∧ Fd (t + 1) g) ?_ ?_
  · simp
    refine Ev.drawn (draw_v3_ok (by decide) (by decide) hF (by omega)) fun a f1 a0 a1 hF1 => ?_
    obtain ⟨a, rfl⟩ := Int.eq_ofNat_of_zero_le a0
    simp
    exact ⟨2 + a, by simp, by omega, by omega, hF1⟩
  rintro _ f1 ⟨n, rfl, n2, n4, hF1⟩
  refine ev_step (fun ρ g => ∃ c : Nat, ρ = [.feed, .dat (.int (n : Nat)), .dat (.int (c : Nat)), .emp, .emp, .emp, .emp, .emp, .emp, .emp, .emp, .emp] ∧ 1 ≤ c ∧ c < n ∧ Fd (t + 2) g) ?_ ?_
  · simp
    refine Ev.drawn (draw_v3_ok (s := (n : Int) - 1) (by omega) (by omega) hF1 (by omega)) fun a f1 a0 a1 hF2 => ?_
    obtain ⟨a, rfl⟩ := Int.eq_ofNat_of_zero_le a0
    simp
    exact ⟨1 + a, by simp, by omega, by omega, hF2.up (by omega)⟩
  rintro _ f2 ⟨c, rfl, c1, cn, hF2⟩
  refine ev_step (fun ρ g => ∃ e : Nat, ρ = [.feed, .dat (.int (n : Nat)), .dat (.int (c : Nat)), .dat (.int (e : Nat)), .emp, .emp, .emp, .emp, .emp, .emp, .emp, .emp] ∧ c < e ∧ e ≤ n ∧ Fd (t + 3) g) ?_ ?_
  · simp
    refine Ev.drawn (draw_v3_ok (by decide) (by decide) hF2 (by omega)) fun a f1 a0 a1 hF3 => ?_
    obtain ⟨a, rfl⟩ := Int.eq_ofNat_of_zero_le a0
    simp
    exact ⟨min n (c + 1 + a), by omega, by omega, by omega, hF3.up (by omega)⟩
  rintro _ f3 ⟨e, rfl, ce, en, hF3⟩
  have ck : (c : Int) ≠ 0 := by omega
  refine ev_step (fun ρ g => ρ = [.feed, .dat (.int (n : Nat)), .dat (.int (c : Nat)), .dat (.int (e : Nat)), .own [], .emp, .emp, .emp, .emp, .emp, .emp, .emp] ∧ Fd (t + 3) g) (by simp; exact hF3) ?_
  rintro _ f3 ⟨rfl, hF3⟩
  refine ev_stp (fun ρ g => ∃ ks s5 s6 s7 s8 s9 s10 s11, SoFar n n true ks ∧ Grp c e ks ∧ ρ = [.feed, .dat (.int (n : Nat)), .dat (.int (c : Nat)), .dat (.int (e : Nat)), .own (ks.map kindD), s5, s6, s7, s8, s9, s10, s11] ∧ Fd (t + 70) g) ?_ ?_
  · intro Q' hQ
    simp [smallI_ok (n := (n : Int)) (by omega) (by omega)]
    refine ev_for (I := fun i ρ g => Fd (t + 3 + 15 * i) g ∧ ∃ ks s5 s6 s7 s8 s9 s10 s11, SoFar n i true ks ∧ Grp c e ks ∧ ρ = [.feed, .dat (.int (n : Nat)), .dat (.int (c : Nat)), .dat (.int (e : Nat)), .own (ks.map kindD), s5, s6, s7, s8, s9, s10, s11]) ⟨by simpa using hF3, [], _, _, _, _, _, _, _, SoFar.nil, Grp.nil, rfl⟩ ?_ ?_
    · rintro k d ρ g hd ⟨hG, ks, s5, s6, s7, s8, s9, s10, s11, hs, hg, rfl⟩
      obtain ⟨rfl, hk⟩ := range_at hd
      have hkl := hs.len
      refine ⟨_, rfl, ?_⟩
      simp only [Int.zero_add]
      refine ev_stp (fun ρ g => ∃ lo hi : Nat, lo < hi ∧ hi ≤ n ∧ (k < c → lo = 0 ∧ hi = c) ∧ (c ≤ k → lo = c ∧ hi = e) ∧ ρ = [.feed, .dat (.int (n : Nat)), .dat (.int (c : Nat)), .dat (.int (e : Nat)), .own (ks.map kindD), .dat (.int (k : Nat)), .dat (.int (lo : Nat)), .dat (.int (hi : Nat)), s8, s9, s10, s11] ∧ Fd (t + 3 + 15 * k) g) ?_ ?_
      · intro Q' hQ
        by_cases q : k < c
        · simp [q]
          exact hQ _ _ ⟨0, c, by omega, by omega, fun _ => ⟨rfl, rfl⟩, fun z => by omega, rfl, hG⟩
        · simp [q]
          exact hQ _ _ ⟨c, e, by omega, by omega, fun z => by omega, fun _ => ⟨rfl, rfl⟩, rfl, hG⟩
      rintro _ g ⟨lo, hi, lh, hn, q1, q2, rfl, hG⟩
      refine ev_stp (fun ρ g => ∃ lo hi : Nat, lo < hi ∧ hi ≤ n ∧ (k < c → hi ≤ c) ∧ (c ≤ k → k < e → c ≤ lo ∧ hi ≤ e) ∧ ρ = [.feed, .dat (.int (n : Nat)), .dat (.int (c : Nat)), .dat (.int (e : Nat)), .own (ks.map kindD), .dat (.int (k : Nat)), .dat (.int (lo : Nat)), .dat (.int (hi : Nat)), s8, s9, s10, s11] ∧ Fd (t + 3 + 15 * k) g) ?_ ?_
      · intro Q' hQ
        by_cases q : e ≤ k
        · simp [q]
          exact hQ _ _ ⟨0, n, by omega, by omega, fun z => by omega, fun z z2 => by omega, rfl, hG⟩
        · simp [q]
          exact hQ _ _ ⟨lo, hi, lh, hn, fun z => by have := q1 z; omega, fun z z2 => by have := q2 z; omega, rfl, hG⟩
      clear q1 q2
      rintro _ g ⟨lo, hi, lh, hn, q1, q2, rfl, hG⟩
      refine ev_step (fun ρ g => ρ = [.feed, .dat (.int (n : Nat)), .dat (.int (c : Nat)), .dat (.int (e : Nat)), .own (ks.map kindD), .dat (.int (k : Nat)), .dat (.int (lo : Nat)), .dat (.int (hi : Nat)), .dct (.T []), s9, s10, s11] ∧ Fd (t + 3 + 15 * k) g) (by simp; exact hG) ?_
      rintro _ g ⟨rfl, hG⟩
      refine ev_stp (fun ρ g => Fd (t + 3 + 15 * (k + 1)) g ∧ ∃ kvs s9, MOk n 4 kvs ∧ kvs ≠ [] ∧ MLoHi lo hi kvs ∧ ρ = [.feed, .dat (.int (n : Nat)), .dat (.int (c : Nat)), .dat (.int (e : Nat)), .own (ks.map kindD), .dat (.int (k : Nat)), .dat (.int (lo : Nat)), .dat (.int (hi : Nat)), .dct (.T kvs), s9, s10, s11]) ?_ ?_
      · intro Q' hQ
        simp
        refine Ev.drawn (draw_v3_ok (by decide) (by decide) hG (by omega)) fun m g2 m0 m4 hG2 => ?_
        simp [smallI_ok (n := 1 + m) (by omega) (by omega)]
        refine ev_for (I := fun i ρ g => Fd (t + 3 + 15 * k + 1 + 3 * i) g ∧ ∃ kvs s9, MOk n i kvs ∧ (0 < i → kvs ≠ []) ∧ MLoHi lo hi kvs ∧ ρ = [.feed, .dat (.int (n : Nat)), .dat (.int (c : Nat)), .dat (.int (e : Nat)), .own (ks.map kindD), .dat (.int (k : Nat)), .dat (.int (lo : Nat)), .dat (.int (hi : Nat)), .dct (.T kvs), s9, s10, s11]) ⟨hG2.up (by omega), [], _, ⟨List.Pairwise.nil, Nat.le_refl 0, fun p hp => by cases hp⟩, fun z => by omega, fun p hp => (by cases hp), rfl⟩ ?_ ?_
        · rintro i d ρ g hd ⟨hH, kvs, s9, hm, hne, hlh, rfl⟩
          obtain ⟨rfl, hi2⟩ := range_at hd
          refine ⟨_, rfl, ?_⟩
          have hlen := hm.len
          simp
          refine Ev.drawn (draw_v3_ok (by decide) (by decide) hH (by omega)) fun w g3 w0 w9 hH3 => ?_
          simp
          refine Ev.drawn (draw_v3_ok (by decide) (by decide) hH3 (by omega)) fun a g4 a0 a6 hH4 => ?_
          simp
          refine Ev.drawn (draw_v3_ok (s := (hi : Int) - lo) (by omega) (by omega) hH4 (by omega)) fun b g5 b0 bn hH5 => ?_
          have hp := hm.put (x := ((1 + a).toNat, (lo + b).toNat, (1 + w).toNat)) (by dsimp only; omega) (by dsimp only; omega) (by dsimp only; omega) (by dsimp only; omega) (by dsimp only; omega)
          have hq := hlh.put (x := ((1 + a).toNat, (lo + b).toNat, (1 + w).toNat)) (d := .int (((1 + w).toNat : Nat) : Int)) (by dsimp only; omega) (by dsimp only; omega)
          have e1 : keyI ((1 + a).toNat, (lo + b).toNat, (1 + w).toNat) = [1 + a, lo + b] := by
            unfold keyI
            simp
            omega
          have e2 : (((1 + w).toNat : Nat) : Int) = 1 + w := by omega
          rw [e1] at hp hq
          dsimp only at hp hq
          rw [e2] at hp hq
          simp [show kvs.length < 100000 by omega]
          exact ⟨hH5.up (by omega), _, hp, fun z => setK_ne z, hq, rfl⟩
        · rintro ρ g ⟨hH, kvs, s9, hm, hne, hlh, rfl⟩
          rw [range_len] at hm hH hne
          exact ⟨_, rfl, hQ _ _ ⟨hH.up (by omega), kvs, s9, ⟨hm.nd, Nat.le_trans hm.len (by omega), hm.at'⟩, hne (by omega), hlh, rfl⟩⟩
      · rintro _ g ⟨hH, kvs, s9, hm, hne, hlh, rfl⟩
        obtain ⟨T, vs, T0, T45, e1, e2, e3, e4, e5, e6⟩ := hm.kind (lack := 0) (Nat.le_refl 4) (by decide) (.inl hne)
        have k0 : ∀ x : Mk3, (keyI x)[0]? = some (x.1 : Int) := fun _ => rfl
        have k1 : ∀ x : Mk3, (keyI x)[1]? = some (x.2.1 : Int) := fun _ => rfl
        have e1 : oSum (.list (kvs.map (·.2))) = some (.dat (.int (T : Int))) := by simpa using e1
        have lc : ∀ s10 : Slot, lcN (.one 11) cYes (cTup [cBin oIx (cVar 11) (cC (.int 0)), cBin oIx (cVar 11) (cC (.int 1)), cCall F_q_lowest [cDGet 8 (cVar 11), cVar 10]]) [.feed, .dat (.int (n : Nat)), .dat (.int (c : Nat)), .dat (.int (e : Nat)), .own (ks.map kindD), .dat (.int (k : Nat)), .dat (.int (lo : Nat)), .dat (.int (hi : Nat)), .dct (.T kvs), s9, .dat (.int T), .emp] ((vs.map keyI).map tupI) [] g = .ok (vs.map fun x => triD (triM T x)) g := fun s10 => by
          rw [List.map_map]
          refine lc_map (by omega) fun x hx => ⟨_, rfl, ?_⟩
          simp [e3 x hx, k0, k1, lowest_ok T0 (show T < 2 ^ 2000 by omega), low_eq T0]
          rfl
        have e7 : (vs.map fun x => triD (triM T x)) = (vs.map (triM T)).map triD := by rw [List.map_map]; rfl
        have e8 : ks.map kindD ++ [.tuple ((vs.map (triM T)).map triD)] = (ks ++ [vs.map (triM T)]).map kindD := by rw [List.map_append]; rfl
        have hlen := hm.len
        have nx : ∀ t ∈ vs.map (triM T), lo ≤ t.nx ∧ t.nx < hi := fun t ht => by
          obtain ⟨x, hx, rfl⟩ := List.mem_map.mp ht
          obtain ⟨a, b, ea, l1, l2⟩ := hlh _ (getK_mem (e3 x hx))
          have ea : keyI x = [(a : Int), (b : Int)] := ea
          unfold keyI at ea
          simp only [List.cons.injEq, and_true, Int.natCast_inj] at ea
          show lo ≤ x.2.1 ∧ x.2.1 < hi
          omega
        simp only [e_seq, e_set, e_Bin, e_Un, e_dvals]
        simp [e1, show kvs.length ≤ 100000 by omega, e2]
        rw [← List.map_map, lc .emp]
        simp [show ks.length < 100000 by omega, e7, e8]
        refine ⟨hH, _, hs.snoc e5 (by omega) fun z => e6 rfl, hg.snoc (fun z t ht => ?_) (fun z z2 t ht => ?_), by simp [kindD]⟩
        · have := nx t ht
          have := q1 (by omega)
          omega
        · have := nx t ht
          have := q2 (by omega) (by omega)
          omega
    · rintro ρ g ⟨hG, ks, s5, s6, s7, s8, s9, s10, s11, hs, hg, rfl⟩
      rw [range_len] at *
      exact ⟨_, rfl, hQ _ _ ⟨ks, _, _, _, _, _, _, _, hs, hg, rfl, hG.up (by omega)⟩⟩
  rintro _ g ⟨ks, s5, s6, s7, s8, s9, s10, s11, hs, hg, rfl, hG⟩
  obtain ⟨W, hW, hk⟩ := hs.all (by omega) n4
  simp
  exact ⟨ks, rfl, W, hk, hW, hs.full rfl, c, c1, e, ce, by rw [hs.len]; exact en, hg, hG⟩
end Fp
namespace Fp
open PySem PySem.Spec L2 Dn
theorem rise_uniqN {A B : List Nat} (ha : A.Pairwise (· < ·)) (hb : B.Pairwise (· < ·)) (h : ∀ k, k ∈ A ↔ k ∈ B) : A = B := by
  have := rise_uniq (a := A.map fun (a : Nat) => (a : Int)) (b := B.map fun (a : Nat) => (a : Int)) (List.pairwise_map.mpr (ha.imp fun h => by omega)) (List.pairwise_map.mpr (hb.imp fun h => by omega)) fun k => by
    simp only [List.mem_map]
    constructor
    · rintro ⟨a, ha, rfl⟩
      exact ⟨a, (h a).mp ha, rfl⟩
    · rintro ⟨a, ha, rfl⟩
      exact ⟨a, (h a).mpr ha, rfl⟩
  have e2 := congrArg (List.map Int.toNat) this
  rw [List.map_map, List.map_map, show (Int.toNat ∘ fun (a : Nat) => (a : Int)) = id from rfl, List.map_id, List.map_id] at e2
  exact e2
def bitsL (n m : Nat) : List Nat := (List.range n).filter fun k => decide (m / 2 ^ k % 2 = 1)
def closL (n : Nat) (P : Nat → Nat → Rat) : List (List Nat) := ((List.range (2 ^ n - 1)).map fun m => bitsL n (m + 1)).filter fun A => A.all fun i => !outB n P A i
def tupN (A : List Nat) : PyData := .tuple (natsD A)
theorem bits_pw {n m : Nat} : (bitsL n m).Pairwise (· < ·) := List.Pairwise.sublist List.filter_sublist List.pairwise_lt_range
theorem bits_lt {n m : Nat} : ∀ a ∈ bitsL n m, a < n := fun a ha => List.mem_range.mp (List.mem_filter.mp ha).1
theorem bits_ne {n m : Nat} (hn : n ≤ 4) (h : m < 2 ^ n - 1) : bitsL n (m + 1) ≠ [] := by
  have : ∀ n : Fin 5, ∀ m : Fin 16, m.1 < 2 ^ n.1 - 1 → bitsL n.1 (m.1 + 1) ≠ [] := by decide +kernel
  refine this ⟨n, by omega⟩ ⟨m, ?_⟩ h
  have : 2 ^ n ≤ 2 ^ 4 := Nat.pow_le_pow_right (by decide) hn
  omega
section
variable {n : Nat} {P : Nat → Nat → Rat} {f : Feed}
theorem clos_mem {A : List Nat} (hn : n ≤ 4) (h : A ∈ closL n P) : A ≠ [] ∧ (∀ a ∈ A, a < n) ∧ A.Pairwise (· < ·) ∧ ∀ a ∈ A, outB n P A a = false := by
  obtain ⟨h1, h2⟩ := List.mem_filter.mp h
  obtain ⟨m, hm, rfl⟩ := List.mem_map.mp h1
  refine ⟨bits_ne hn (List.mem_range.mp hm), bits_lt, bits_pw, fun a ha => ?_⟩
  have := List.all_eq_true.mp h2 a ha
  simpa using this
/-- each set that isn't led out of is found -/
theorem bits_all (hn : n ≤ 4) {A : List Nat} (h1 : ∀ a ∈ A, a < n) (h2 : A.Pairwise (· < ·)) (h3 : A ≠ []) : ∃ m, m < 2 ^ n - 1 ∧ bitsL n (m + 1) = A := by
  have key : ∀ n : Fin 5, ∀ b0 b1 b2 b3 : Bool, ∃ m : Fin 16, m.1 < 2 ^ n.1 ∧ bitsL n.1 m.1 = (List.range n.1).filter fun k => [b0, b1, b2, b3].getD k false := by decide +kernel
  obtain ⟨m, m1, m2⟩ := key ⟨n, by omega⟩ (decide (0 ∈ A)) (decide (1 ∈ A)) (decide (2 ∈ A)) (decide (3 ∈ A))
  have e : (List.range n).filter (fun k => [decide (0 ∈ A), decide (1 ∈ A), decide (2 ∈ A), decide (3 ∈ A)].getD k false) = A := by
    have e1 : (List.range n).filter (fun k => [decide (0 ∈ A), decide (1 ∈ A), decide (2 ∈ A), decide (3 ∈ A)].getD k false) = (List.range n).filter (fun k => decide (k ∈ A)) := by
      refine List.filter_congr fun k hk => ?_
      rw [List.mem_range] at hk
      match k, (show k < 4 by omega) with
      | 0, _ | 1, _ | 2, _ | 3, _ => rfl
    rw [e1]
    refine rise_uniqN (List.Pairwise.sublist List.filter_sublist List.pairwise_lt_range) h2 fun a => ?_
    rw [List.mem_filter, List.mem_range, decide_eq_true_eq]
    exact ⟨fun h => h.2, fun h => ⟨h1 a h, h⟩⟩
  rw [e] at m2
  have m0 : m.1 ≠ 0 := fun z => by
    rw [z] at m2
    apply h3
    rw [← m2]
    unfold bitsL
    simp
  have m1 : m.1 < 2 ^ n := m1
  refine ⟨m.1 - 1, by omega, ?_⟩
  rw [show m.1 - 1 + 1 = m.1 by omega]
  exact m2
theorem mem_clos (hn : n ≤ 4) {A : List Nat} (h1 : ∀ a ∈ A, a < n) (h2 : A.Pairwise (· < ·)) (h3 : A ≠ []) (h4 : ∀ a ∈ A, outB n P A a = false) : A ∈ closL n P := by
  obtain ⟨m, hm, rfl⟩ := bits_all hn h1 h2 h3
  refine List.mem_filter.mpr ⟨List.mem_map.mpr ⟨m, List.mem_range.mpr hm, rfl⟩, List.all_eq_true.mpr fun a ha => ?_⟩
  rw [h4 a ha]
  rfl
theorem rgN {m : Nat} : rangeD 0 m = (List.range m).map nD := by
  unfold rangeD
  refine List.map_congr_left fun i _ => ?_
  rw [Int.zero_add]
end
end Fp
namespace Fp
open PySem PySem.Spec L2 Dn
theorem len_subN {l m : List Nat} (hn : l.Nodup) (h : ∀ k, k ∈ l → k ∈ m) : l.length ≤ m.length := by
  have := len_sub (l := l.map fun (a : Nat) => (a : Int)) (m := m.map fun (a : Nat) => (a : Int)) (List.pairwise_map.mpr (hn.imp fun h => by omega)) fun k hk => by
    obtain ⟨a, ha, rfl⟩ := List.mem_map.mp hk
    exact List.mem_map.mpr ⟨a, h a ha, rfl⟩
  rwa [List.length_map, List.length_map] at this
noncomputable def ledB (n : Nat) (P : Nat → Nat → Rat) (i k : Nat) : Bool := @decide (Led n P i k) (Classical.propDecidable _)
theorem ledB_iff {n : Nat} {P : Nat → Nat → Rat} {i k : Nat} : ledB n P i k = true ↔ Led n P i k := by
  unfold ledB
  exact @decide_eq_true_iff _ (Classical.propDecidable _)
section
variable {n h : Nat} {P : Nat → Nat → Rat}
theorem Led.one (i k : Nat) (h1 : i < n) (h2 : k < n) (h : P i k ≠ 0) : Led n P i k := .step i k k h1 h (.refl k h2)
/-- what leads into a set from without steps into it somewhere -/
theorem led_cross {S : List Nat} : ∀ {i z : Nat}, Led n P i z → z ∈ S → i ∉ S → ∃ a b, a < n ∧ b < n ∧ a ∉ S ∧ b ∈ S ∧ P a b ≠ 0
  | _, _, .refl i h, hz, hi => absurd hz hi
  | _, _, .step i j k h1 h2 h3, hz, hi => by
    by_cases hj : j ∈ S
    · exact ⟨i, j, h1, h3.lt1, hi, hj, h2⟩
    · exact led_cross h3 hz hj
/-- a set that isn't led out of holds what its members lead to -/
theorem led_in {S : List Nat} (hS : ∀ a ∈ S, ∀ b, b < n → P a b ≠ 0 → b ∈ S) : ∀ {i z : Nat}, Led n P i z → i ∈ S → z ∈ S
  | _, _, .refl i h, hi => hi
  | _, _, .step i j k h1 h2 h3, hi => led_in hS h3 (hS i hi j h3.lt1 h2)
/-- kinds up to a number all lead to one kind, where each two lead to one -/
theorem home_of (h2 : ∀ i j, i < n → j < n → ∃ k, Led n P i k ∧ Led n P j k) : ∀ m, m < n → ∃ c, c < n ∧ ∀ k, k ≤ m → Led n P k c
  | 0, hm => ⟨0, hm, fun k hk => by
    have : k = 0 := by omega
    subst this
    exact .refl 0 hm⟩
  | m + 1, hm => by
    obtain ⟨c, hc, h⟩ := home_of h2 m (by omega)
    obtain ⟨d, d1, d2⟩ := h2 c (m + 1) hc hm
    refine ⟨d, d1.lt2, fun k hk => ?_⟩
    by_cases e : k = m + 1
    · subst e
      exact d2
    · exact (h k (by omega)).trans d1
theorem home_all (n1 : 1 ≤ n) (h2 : ∀ i j, i < n → j < n → ∃ k, Led n P i k ∧ Led n P j k) : ∃ c, c < n ∧ ∀ k, k < n → Led n P k c := by
  obtain ⟨c, hc, h⟩ := home_of h2 (n - 1) (by omega)
  exact ⟨c, hc, fun k hk => h k (by omega)⟩
/-- ways, and what they lead home -/
structure WaysOk (n : Nat) (P : Nat → Nat → Rat) (h : Nat) (ps : List (Nat × Nat)) : Prop where
  way : wayV P [h] ps 0 = none
  lt : ∀ p ∈ ps, p.1 < n ∧ p.2 < n
  nd : (h :: ps.map (·.1)).Nodup
theorem wayV_snoc : ∀ {ps : List (Nat × Nat)} {led : List Nat} {i a b : Nat}, wayV P led ps i = none → a ∉ led ++ ps.map (·.1) → b ∈ led ++ ps.map (·.1) → P a b ≠ 0 → wayV P led (ps ++ [(a, b)]) i = none
  | [], led, i, a, b, q, ha, hb, hp => by
    rw [List.map_nil, List.append_nil] at ha hb
    show wayV P led [(a, b)] i = none
    unfold wayV
    rw [if_neg (by simp [ha, hb, hp])]
    rfl
  | (c, d) :: r, led, i, a, b, q, ha, hb, hp => by
    rw [List.cons_append]
    unfold wayV at q ⊢
    split
    · rename_i z
      rw [if_pos z] at q
      cases q
    · rename_i z
      rw [if_neg z] at q
      exact wayV_snoc q (by simpa using ha) (by simpa using hb) hp
theorem WaysOk.nil (hh : h < n) : WaysOk n P h [] := ⟨rfl, fun p hp => (by cases hp), by simp⟩
theorem WaysOk.snoc {ps : List (Nat × Nat)} {a b : Nat} (w : WaysOk n P h ps) (ha : a < n) (hb : b < n) (h1 : a ∉ h :: ps.map (·.1)) (h2 : b ∈ h :: ps.map (·.1)) (h3 : P a b ≠ 0) : WaysOk n P h (ps ++ [(a, b)]) := by
  refine ⟨wayV_snoc w.way h1 h2 h3, fun p hp => ?_, ?_⟩
  · rcases List.mem_append.mp hp with hp | hp
    · exact w.lt p hp
    · rw [List.mem_singleton.mp hp]
      exact ⟨ha, hb⟩
  · have : h :: (ps ++ [(a, b)]).map (·.1) = (h :: ps.map (·.1)) ++ [a] := by simp
    rw [this]
    refine List.nodup_append.mpr ⟨w.nd, by simp, fun x hx y hy => ?_⟩
    rw [List.mem_singleton.mp hy]
    exact fun z => h1 (z ▸ hx)
theorem nodup_lt {l : List Nat} (h : l.Nodup) (q : ∀ x ∈ l, x < n) : l.length ≤ n := by
  have s := len_subN h (m := List.range n) fun x hx => List.mem_range.mpr (q x hx)
  rwa [List.length_range] at s
theorem WaysOk.len {ps : List (Nat × Nat)} (hh : h < n) (w : WaysOk n P h ps) : ps.length + 1 ≤ n := by
  have := nodup_lt (n := n) w.nd fun x hx => by
    rcases List.mem_cons.mp hx with rfl | hx
    · exact hh
    · obtain ⟨p, hp, rfl⟩ := List.mem_map.mp hx
      exact (w.lt p hp).1
  simpa using this
theorem vY_none (ps : List (Nat × Nat)) : vY n P h ps = none ↔ wayV P [h] ps 0 = none ∧ ∀ k, k < n → k ∈ h :: ps.map (·.1) := by
  unfold vY
  cases q : wayV P [h] ps 0 with
  | some i => simp
  | none =>
    simp only [Option.map_eq_none_iff, List.find?_eq_none, List.mem_range, Bool.not_eq_true', decide_eq_false_iff_not, Decidable.not_not, true_and]
/-- where all lead home, there are ways -/
theorem ways_exist (hh : h < n) (hl : ∀ k, k < n → Led n P k h) : ∀ m ps, WaysOk n P h ps → ps.length + m = n - 1 → ∃ ps, WaysOk n P h ps ∧ ps.length + 1 = n
  | 0, ps, w, e => ⟨ps, w, by omega⟩
  | m + 1, ps, w, e => by
    have : ∃ k, k < n ∧ k ∉ h :: ps.map (·.1) := by
      apply Classical.byContradiction
      intro z
      have this := len_subN (List.nodup_range (n := n)) (m := h :: ps.map (·.1)) fun k hk => by
        apply Classical.byContradiction
        intro z2
        exact z ⟨k, List.mem_range.mp hk, z2⟩
      rw [List.length_range, List.length_cons, List.length_map] at this
      omega
    obtain ⟨k, hk, nk⟩ := this
    obtain ⟨a, b, ha, hb, na, mb, hp⟩ := led_cross (hl k hk) (S := h :: ps.map (·.1)) (by simp) nk
    exact ways_exist hh hl m _ (w.snoc ha hb na mb hp) (by rw [List.length_append, List.length_singleton]; omega)
theorem full_ways {ps : List (Nat × Nat)} (hh : h < n) (w : WaysOk n P h ps) (e : ps.length + 1 = n) : vY n P h ps = none := by
  refine (vY_none ps).mpr ⟨w.way, fun k hk => ?_⟩
  apply Classical.byContradiction
  intro z
  have := nodup_lt (n := n) (l := k :: h :: ps.map (·.1)) (List.nodup_cons.mpr ⟨z, w.nd⟩) fun x hx => by
    rcases List.mem_cons.mp hx with rfl | hx
    · exact hk
    · rcases List.mem_cons.mp hx with rfl | hx
      · exact hh
      · obtain ⟨p, hp, rfl⟩ := List.mem_map.mp hx
        exact (w.lt p hp).1
  rw [List.length_cons, List.length_cons, List.length_map] at this
  omega
end
end Fp
namespace Fp
open PySem PySem.Spec L2 Dn
noncomputable def rchL (n : Nat) (P : Nat → Nat → Rat) (i : Nat) : List Nat := (List.range n).filter fun k => ledB n P i k
section
variable {n i : Nat} {P : Nat → Nat → Rat} {f : Feed}
theorem ne_natL {A : List Nat} : oNe (.list (natsD A)) (.list []) = some (.dat (.bool (!decide (A = [])))) := by
  have := ne_intL (a := A.map fun (a : Nat) => (a : Int)) (b := [])
  rw [List.map_map] at this
  refine Eq.trans this ?_
  congr 3
  cases A <;> rfl
theorem mem_rch (hi : i < n) {k : Nat} : k ∈ rchL n P i ↔ Led n P i k := by
  unfold rchL
  rw [List.mem_filter, ledB_iff, List.mem_range]
  exact ⟨fun h => h.2, fun h => ⟨h.lt2, h⟩⟩
noncomputable def homL (n : Nat) (P : Nat → Nat → Rat) : List Nat := (List.range n).filter fun k => (List.range n).all fun i => ledB n P i k
theorem mem_hom {k : Nat} : k ∈ homL n P ↔ k < n ∧ ∀ i, i < n → Led n P i k := by
  unfold homL
  rw [List.mem_filter, List.mem_range, List.all_eq_true]
  exact ⟨fun ⟨h1, h2⟩ => ⟨h1, fun i hi => ledB_iff.mp (h2 i (List.mem_range.mpr hi))⟩, fun ⟨h1, h2⟩ => ⟨h1, fun i hi => ledB_iff.mpr (h2 i (List.mem_range.mp hi))⟩⟩
end
end Fp
namespace Fp
open PySem PySem.Spec L2 Dn
/-- chances of rows that may be reckoned with -/
structure PW (n : Nat) (P : Nat → Nat → Rat) (W : Nat) : Prop where
  n1 : 1 ≤ n
  n4 : n ≤ 4
  W0 : 0 < W
  W1 : W ≤ 2 ^ 31
  ok : ∀ i j, i < n → j < n → Wh W (P i j) ∧ 0 ≤ P i j ∧ P i j ≤ 1
theorem num_gt {x : Rat} (h : 0 ≤ x) : decide (0 < x.num) = decide (0 < x) := by
  by_cases z : x = 0
  · subst z
    decide
  · have p : 0 < x := by grind
    have := num_pos p
    simp [p, this]
theorem mul01 {a b : Rat} (h : 0 ≤ a ∧ a ≤ 1) (k : 0 ≤ b ∧ b ≤ 1) : 0 ≤ a * b ∧ a * b ≤ 1 := by
  obtain ⟨h1, h2⟩ := h
  obtain ⟨k1, k2⟩ := k
  refine ⟨Rat.mul_nonneg h1 k1, ?_⟩
  have := Rat.mul_nonneg h1 (show 0 ≤ 1 - b by grind)
  grind
section
variable {n h W : Nat} {P : Nat → Nat → Rat} {f : Feed}
theorem sent_fst (n : Nat) : ∀ (l : List Nat) (m : Nat), (sentL n l m).map (·.1) = l
  | [], m => rfl
  | k :: r, m => by
    show k :: (sentL n r (m / n)).map (·.1) = k :: r
    rw [sent_fst n r]
theorem sent_lt (n0 : 0 < n) : ∀ (l : List Nat) (m : Nat), ∀ p ∈ sentL n l m, p.2 < n
  | [], m, p, hp => by cases hp
  | k :: r, m, p, hp => by
    rcases List.mem_cons.mp hp with rfl | hp
    · exact Nat.mod_lt _ n0
    · exact sent_lt n0 r _ p hp
theorem sent_len (n : Nat) (l : List Nat) (m : Nat) : (sentL n l m).length = l.length := by
  have := congrArg List.length (sent_fst n l m)
  rwa [List.length_map] at this
theorem oth_len : (othL n h).length ≤ n := by
  have := List.length_filter_le (fun k => !decide (k = h)) (List.range n)
  rwa [List.length_range] at this
theorem oth_mem {k : Nat} : k ∈ othL n h ↔ k < n ∧ k ≠ h := by
  unfold othL
  rw [List.mem_filter, List.mem_range]
  simp
theorem oth_nd : (othL n h).Nodup := List.Nodup.sublist List.filter_sublist List.nodup_range
theorem prod_app : ∀ (s r : List (Nat × Nat)) (c : Rat), prodT P c (s ++ r) = prodT P (prodT P c s) r
  | [], r, c => rfl
  | p :: s, r, c => prod_app s r _
theorem prod_ok (w : PW n P W) : ∀ (s : List (Nat × Nat)) (c : Rat) (E : Nat), (∀ p ∈ s, p.1 < n ∧ p.2 < n) → Wh E c → 0 ≤ c ∧ c ≤ 1 → Wh (E * W ^ s.length) (prodT P c s) ∧ 0 ≤ prodT P c s ∧ prodT P c s ≤ 1
  | [], c, E, _, hc, h1 => by
    rw [List.length_nil, Nat.pow_zero, Nat.mul_one]
    exact ⟨hc, h1⟩
  | p :: s, c, E, hp, hc, h1 => by
    obtain ⟨a1, a2⟩ := hp p List.mem_cons_self
    obtain ⟨x1, x2⟩ := w.ok p.1 p.2 a1 a2
    have := prod_ok w s (c * P p.1 p.2) (E * W) (fun q hq => hp q (List.mem_cons_of_mem _ hq)) (hc.mul x1) (mul01 h1 x2)
    rw [List.length_cons, Nat.pow_succ, show E * (W ^ s.length * W) = E * W * W ^ s.length by rw [Nat.mul_assoc, Nat.mul_comm W]]
    exact this
theorem wh1T : Wh 1 (1 : Rat) := ⟨1, by grind⟩
/-- one way's chance -/
theorem prod_sz (w : PW n P W) {s : List (Nat × Nat)} (hs : s.length ≤ 4) (hp : ∀ p ∈ s, p.1 < n ∧ p.2 < n) : Wh (W ^ 4) (prodT P 1 s) ∧ 0 ≤ prodT P 1 s ∧ prodT P 1 s ≤ 1 := by
  obtain ⟨a, b⟩ := prod_ok w s 1 1 hp wh1T ⟨by decide, by decide⟩
  rw [Nat.one_mul] at a
  exact ⟨a.up (Nat.pow_dvd_pow W hs), b⟩
theorem w4 (w : PW n P W) : W ^ 4 ≤ 2 ^ 124 := by
  have := Nat.pow_le_pow_left w.W1 4
  rw [← Nat.pow_mul] at this
  exact this
theorem twt (w : PW n P W) (h' : h < n) (m : Nat) : Wh (W ^ 4) (prodT P 1 (sentL n (othL n h) m)) ∧ 0 ≤ prodT P 1 (sentL n (othL n h) m) ∧ prodT P 1 (sentL n (othL n h) m) ≤ 1 := by
  have n4 := w.n4
  refine prod_sz w (by rw [sent_len]; have := oth_len (n := n) (h := h); omega) fun p hp => ⟨?_, sent_lt w.n1 _ _ p hp⟩
  have : p.1 ∈ othL n h := by
    rw [← sent_fst n (othL n h) m]
    exact List.mem_map_of_mem hp
  exact (oth_mem.mp this).1
def tt (n : Nat) (P : Nat → Nat → Rat) (h m : Nat) : Rat := if goodT n h m = true then prodT P 1 (sentL n (othL n h) m) else 0
theorem tt_ok (w : PW n P W) (h' : h < n) (m : Nat) : Wh (W ^ 4) (tt n P h m) ∧ 0 ≤ tt n P h m ∧ tt n P h m ≤ 1 := by
  unfold tt
  split
  · exact twt w h' m
  · exact ⟨wh_0, Rat.le_refl, by decide⟩
theorem tw_part (w : PW n P W) (h' : h < n) (m : Nat) (hm : m ≤ 64) : Wh (W ^ 4) (rs m (tt n P h)) ∧ 0 ≤ rs m (tt n P h) ∧ Ab ((64 : Nat) : Rat) (rs m (tt n P h)) := by
  refine ⟨rs_wh fun i _ => (tt_ok w h' i).1, rs_nn fun i _ => (tt_ok w h' i).2.1, ?_⟩
  have := rs_ab (n := m) (B := 1) (g := tt n P h) fun i _ => by
    have := tt_ok w h' i
    simpa using ab_01 this.2.1 this.2.2
  rw [Nat.mul_one] at this
  exact this.up (Rat.natCast_le_natCast.mpr hm)
theorem tw_sz (w : PW n P W) (h' : h < n) (m : Nat) (hm : m ≤ 64) : Sz 200 (rs m (tt n P h)) := by
  obtain ⟨a, b, c⟩ := tw_part w h' m hm
  refine ab_sz (Nat.pow_pos w.W0) a c (by decide) ?_
  have := w4 w
  omega
theorem sz01w {x : Rat} (w : PW n P W) (h : Wh (W ^ 4) x) (h0 : 0 ≤ x) (h1 : x ≤ 1) : Sz 200 x := sz01 (Nat.pow_pos w.W0) h h0 h1 (by have := w4 w; omega)
/-- the dict of where kinds are sent -/
structure SentD (kvs : List (Int × PyData)) (q : List (Nat × Nat)) : Prop where
  get : ∀ k : Nat, getK kvs (k : Int) = (q.find? fun p => decide (p.1 = k)).map fun p => .int (p.2 : Nat)
  len : kvs.length ≤ q.length
theorem SentD.nil : SentD [] [] := ⟨fun _ => rfl, Nat.le_refl 0⟩
theorem SentD.snoc {kvs : List (Int × PyData)} {q : List (Nat × Nat)} {k v : Nat} (s : SentD kvs q) (hk : k ∉ q.map (·.1)) : SentD (setK kvs (k : Int) (.int (v : Nat))) (q ++ [(k, v)]) := by
  refine ⟨fun j => ?_, ?_⟩
  · rw [setK_get, List.find?_append]
    by_cases e : k = j
    · subst e
      rw [if_pos rfl]
      have : q.find? (fun p => decide (p.1 = k)) = none := List.find?_eq_none.mpr fun p hp => by
        simp only [decide_eq_true_eq]
        exact fun z => hk (z ▸ List.mem_map_of_mem hp)
      rw [this]
      simp
    · rw [if_neg (fun z => e (by omega)), s.get j]
      cases q.find? (fun p => decide (p.1 = j)) with
      | some p => rfl
      | none => simp [e]
  · rw [List.length_append, List.length_singleton]
    have := setK_len kvs (k : Int) (.int (v : Nat))
    have := s.len
    omega
theorem iter_add (g : Nat → Nat) : ∀ a k, iterN g (a + 1) k = g (iterN g a k)
  | 0, k => rfl
  | a + 1, k => by
    show iterN g (a + 1) (g k) = g (iterN g a (g k))
    exact iter_add g a (g k)
theorem q_trees_q (w : PW n P W) (h' : h < n) : F_q_trees [.dat (rowsP n P), .dat (.int (h : Nat))] f = .ok (.dat (enc (tw n P h))) f := by
  have n1 := w.n1
  have n4 := w.n4
  have e0 := lenR (n := n) (P := P)
  have rg := rgN (m := n)
  have en0 : (enc 0 : PyData) = .tuple [.int 0, .int 1] := rfl
  have en1 : (enc 1 : PyData) = .tuple [.int 1, .int 1] := rfl
  have lo := oth_len (n := n) (h := h)
  have lcO : ∀ (s0 s2 s3 s4 s5 s6 s7 s8 s9 s10 s11 : Slot), lcN (.one 9) (cT (cBin oNe (cVar 9) (cVar 1))) (cVar 9) [s0, .dat (.int (h : Nat)), s2, s3, s4, s5, s6, s7, s8, s9, s10, s11] ((List.range n).map nD) [] f = .ok (natsD (othL n h)) f := fun s0 s2 s3 s4 s5 s6 s7 s8 s9 s10 s11 => by
    refine lc_pure (by rw [List.length_range]; omega) fun k hk => ⟨_, rfl, ?_, fun _ => by simp⟩
    simp
    omega
  have cn : (([1, 1, 2, 9, 64] : List Nat).map fun (a : Nat) => PyData.int a)[n]? = some (.int (cntT n : Nat)) := by
    unfold cntT
    match n, n4 with
    | 0, _ | 1, _ | 2, _ | 3, _ | 4, _ => rfl
  have c64 : cntT n ≤ 64 := by
    unfold cntT
    match n, n4 with
    | 0, _ | 1, _ | 2, _ | 3, _ | 4, _ => decide
  apply ev_is
  rw [u_q_trees, ev_dEnd]
  unfold S_q_trees
  refine ev_step (fun ρ g => g = f ∧ ρ = [.dat (rowsP n P), .dat (.int (h : Nat)), .dat (.int (n : Nat)), .emp, .emp, .emp, .emp, .emp, .emp, .emp, .emp, .emp]) (by simp [e0]) ?_
  rintro _ f ⟨rfl, rfl⟩
  refine ev_step (fun ρ g => g = f ∧ ρ = [.dat (rowsP n P), .dat (.int (h : Nat)), .dat (.int (n : Nat)), .own (natsD (othL n h)), .emp, .emp, .emp, .emp, .emp, .emp, .emp, .emp]) (by simp [smallI_ok (n := (n : Int)) (by omega) (by omega), rg, lcO]) ?_
  rintro _ f ⟨rfl, rfl⟩
  refine ev_step (fun ρ g => g = f ∧ ρ = [.dat (rowsP n P), .dat (.int (h : Nat)), .dat (.int (n : Nat)), .dat (.list (natsD (othL n h))), .emp, .emp, .emp, .emp, .emp, .emp, .emp, .emp]) (by simp) ?_
  rintro _ f ⟨rfl, rfl⟩
  refine ev_step (fun ρ g => g = f ∧ ρ = [.dat (rowsP n P), .dat (.int (h : Nat)), .dat (.int (n : Nat)), .dat (.list (natsD (othL n h))), .dat (enc (rs 0 (tt n P h))), .emp, .emp, .emp, .emp, .emp, .emp, .emp]) (by rw [show rs 0 (tt n P h) = 0 from rfl, en0]; simp) ?_
  rintro _ f ⟨rfl, rfl⟩
  refine ev_stp (fun ρ g => g = f ∧ ∃ s5 s6 s7 s8 s9 s10 s11 : Slot, ρ = [.dat (rowsP n P), .dat (.int (h : Nat)), .dat (.int (n : Nat)), .dat (.list (natsD (othL n h))), .dat (enc (tw n P h)), s5, s6, s7, s8, s9, s10, s11]) ?_ ?_
  · intro Q' hQ
    have cn : ([PyData.int 1, .int 1, .int 2, .int 9, .int 64] : List PyData)[n]? = some (.int (cntT n : Nat)) := cn
    rw [e_for]
    simp [cn, smallI_ok (n := (cntT n : Int)) (by omega) (by omega)]
    refine ev_for (I := fun m ρ g => g = f ∧ ∃ s5 s6 s7 s8 s9 s10 s11 : Slot, ρ = [.dat (rowsP n P), .dat (.int (h : Nat)), .dat (.int (n : Nat)), .dat (.list (natsD (othL n h))), .dat (enc (rs m (tt n P h))), s5, s6, s7, s8, s9, s10, s11]) ⟨rfl, .emp, .emp, .emp, .emp, .emp, .emp, .emp, rfl⟩ ?_ ?_
    · rintro m d ρ g hd ⟨rfl, s5, s6, s7, s8, s9, s10, s11, rfl⟩
      obtain ⟨rfl, hm⟩ := range_at hd
      refine ⟨_, rfl, ?_⟩
      simp only [Int.zero_add]
      have T := tw_sz w h' m (by omega)
      have t1 := tt_ok w h' m
      have pt := twt w h' m
      have nsum : rs m (tt n P h) + tt n P h m = rs (m + 1) (tt n P h) := rs_succ.symm
      have gT : tt n P h m = if goodT n h m = true then prodT P 1 (sentL n (othL n h) m) else 0 := rfl
      rw [← nsum]
      generalize rs m (tt n P h) = tot at *
      refine ev_step (fun ρ f => f = g ∧ ρ = [.dat (rowsP n P), .dat (.int (h : Nat)), .dat (.int (n : Nat)), .dat (.list (natsD (othL n h))), .dat (enc tot), .dat (.int (m : Nat)), .dct (.I []), s7, s8, s9, s10, s11]) (by simp) ?_
      rintro _ g ⟨rfl, rfl⟩
      refine ev_step (fun ρ f => f = g ∧ ρ = [.dat (rowsP n P), .dat (.int (h : Nat)), .dat (.int (n : Nat)), .dat (.list (natsD (othL n h))), .dat (enc tot), .dat (.int (m : Nat)), .dct (.I []), .dat (.int (m : Nat)), s8, s9, s10, s11]) (by simp) ?_
      rintro _ g ⟨rfl, rfl⟩
      refine ev_step (fun ρ f => f = g ∧ ρ = [.dat (rowsP n P), .dat (.int (h : Nat)), .dat (.int (n : Nat)), .dat (.list (natsD (othL n h))), .dat (enc tot), .dat (.int (m : Nat)), .dct (.I []), .dat (.int (m : Nat)), .dat (enc 1), s9, s10, s11]) (by rw [en1]; simp) ?_
      rintro _ g ⟨rfl, rfl⟩
      refine ev_stp (fun ρ f => f = g ∧ ∃ kvs, SentD kvs (sentL n (othL n h) m) ∧ ∃ s7 s9 : Slot, ρ = [.dat (rowsP n P), .dat (.int (h : Nat)), .dat (.int (n : Nat)), .dat (.list (natsD (othL n h))), .dat (enc tot), .dat (.int (m : Nat)), .dct (.I kvs), s7, .dat (enc (prodT P 1 (sentL n (othL n h) m))), s9, s10, s11]) ?_ ?_
      · intro Q'' hQ2
        have sq : seqOf (.list (natsD (othL n h))) = some ((othL n h).map nD) := rfl
        rw [e_for]
        simp [sq]
        refine ev_forT (enc := nD) (I := fun rest ρ f => f = g ∧ ∃ (L : Nat) (q : List (Nat × Nat)) (kvs : List (Int × PyData)) (s9 : Slot), q ++ sentL n rest L = sentL n (othL n h) m ∧ L ≤ m ∧ SentD kvs q ∧ ρ = [.dat (rowsP n P), .dat (.int (h : Nat)), .dat (.int (n : Nat)), .dat (.list (natsD (othL n h))), .dat (enc tot), .dat (.int (m : Nat)), .dct (.I kvs), .dat (.int (L : Nat)), .dat (enc (prodT P 1 q)), s9, s10, s11]) ?_ ?_ _ _ _ ⟨rfl, m, [], [], s9, rfl, Nat.le_refl _, SentD.nil, rfl⟩
        · rintro k rest ρ g ⟨rfl, L, q, kvs, s9, hq, hL, hs, rfl⟩
          refine ⟨_, rfl, ?_⟩
          have hq2 : q ++ (k, L % n) :: sentL n rest (L / n) = sentL n (othL n h) m := hq
          have hfst := congrArg (List.map (·.1)) hq2
          rw [sent_fst, List.map_append, List.map_cons] at hfst
          have hk : k ∈ othL n h := by rw [← hfst]; simp
          have hkn := (oth_mem.mp hk).1
          have nd := oth_nd (n := n) (h := h)
          rw [← hfst] at nd
          have kq : k ∉ q.map (·.1) := fun z => by
            have := (List.nodup_append.mp nd).2.2 k z k List.mem_cons_self
            exact this rfl
          have hs2 := hs.snoc (v := L % n) kq
          have ql : q.length ≤ n := by
            have := congrArg List.length hq2
            rw [List.length_append, sent_len] at this
            omega
          have pq := prod_sz w (s := q) (by omega) fun p hp => by
            have m1 : p ∈ sentL n (othL n h) m := by rw [← hq2]; exact List.mem_append_left _ hp
            have m2 : p.1 ∈ othL n h := by
              rw [← sent_fst n (othL n h) m]
              exact List.mem_map_of_mem m1
            exact ⟨(oth_mem.mp m2).1, sent_lt n1 _ _ p m1⟩
          have md := oMod_int (x := (L : Int)) (y := (n : Int)) (by omega)
          have dv := oDiv_int (x := (L : Int)) (y := (n : Int)) (by omega) (by
            have := log2_small (i := (n : Int)) (k := 10) (by omega) (by decide)
            omega)
          have lm : L % n < n := Nat.mod_lt _ n1
          have sz1 := sz01w w pq.1 pq.2.1 pq.2.2
          obtain ⟨x1, x2, x3⟩ := w.ok k (L % n) hkn lm
          have sz2 : Sz 200 (P k (L % n)) := sz01 w.W0 x1 x2 x3 (by have := w.W1; omega)
          have by' := q_by_s (f := g) sz1 sz2 (by decide)
          have ps : prodT P 1 q * P k (L % n) = prodT P 1 (q ++ [(k, L % n)]) := by
            rw [prod_app]
            rfl
          rw [ps] at by'
          have gk := hs2.get k
          have gk : getK (setK kvs (k : Int) (.int ((L % n : Nat) : Int))) (k : Int) = some (.int ((L % n : Nat) : Int)) := by rw [setK_get, if_pos rfl]
          have e1 := ixR (P := P) hkn
          have e2 := ixC (P := P) (i := k) lm
          have kl : kvs.length < 100000 := by have := hs.len; omega
          have md : oMod (.int (L : Nat)) (.int (n : Nat)) = some (.dat (.int ((L % n : Nat) : Int))) := md
          have dv : oDiv (.int (L : Nat)) (.int (n : Nat)) = some (.dat (.int ((L / n : Nat) : Int))) := dv
          have hq3 : (q ++ [(k, L % n)]) ++ sentL n rest (L / n) = sentL n (othL n h) m := by rw [List.append_assoc]; exact hq2
          have hL2 : L / n ≤ m := Nat.le_trans (Nat.div_le_self _ _) hL
          generalize L % n = r at *
          generalize L / n = L2 at *
          generalize rowsP n P = R at *
          generalize rwP n P k = rr at *
          generalize hx1 : enc (prodT P 1 q) = X1 at *
          generalize hx2 : enc (P k r) = X2 at *
          have Z : ∀ s9 : Slot, ∃ (L' : Nat) (q' : List (Nat × Nat)) (kvs' : List (Int × PyData)) (t9 : Slot), q' ++ sentL n rest L' = sentL n (othL n h) m ∧ L' ≤ m ∧ SentD kvs' q' ∧ [Slot.dat R, .dat (.int (h : Nat)), .dat (.int (n : Nat)), .dat (.list (natsD (othL n h))), .dat (enc tot), .dat (.int (m : Nat)), .dct (.I (setK kvs (k : Int) (.int (r : Nat)))), .dat (.int (L2 : Nat)), .dat (enc (prodT P 1 (q ++ [(k, r)]))), s9, s10, s11] = [.dat R, .dat (.int (h : Nat)), .dat (.int (n : Nat)), .dat (.list (natsD (othL n h))), .dat (enc tot), .dat (.int (m : Nat)), .dct (.I kvs'), .dat (.int (L' : Nat)), .dat (enc (prodT P 1 q')), t9, s10, s11] := fun s9 => ⟨L2, _, _, s9, hq3, hL2, hs2, rfl⟩
          generalize hK : setK kvs (k : Int) (.int (r : Nat)) = K2 at *
          refine ev_step (fun ρ f => f = g ∧ ρ = [.dat R, .dat (.int (h : Nat)), .dat (.int (n : Nat)), .dat (.list (natsD (othL n h))), .dat (enc tot), .dat (.int (m : Nat)), .dct (.I K2), .dat (.int (L : Nat)), .dat X1, .dat (.int (k : Nat)), s10, s11]) (by simp [md, kl, hK]) ?_
          rintro _ g ⟨rfl, rfl⟩
          refine ev_step (fun ρ f => f = g ∧ ρ = [.dat R, .dat (.int (h : Nat)), .dat (.int (n : Nat)), .dat (.list (natsD (othL n h))), .dat (enc tot), .dat (.int (m : Nat)), .dct (.I K2), .dat (.int (L2 : Nat)), .dat X1, .dat (.int (k : Nat)), s10, s11]) (by simp [dv]) ?_
          rintro _ g ⟨rfl, rfl⟩
          simp only [e_set]
          rw [ev_bind]
          have ee : (cCall F_q_by [cVar 8, cBin oIx (cBin oIx (cVar 0) (cVar 9)) (cDGet 6 (cVar 9))]) [.dat R, .dat (.int (h : Nat)), .dat (.int (n : Nat)), .dat (.list (natsD (othL n h))), .dat (enc tot), .dat (.int (m : Nat)), .dct (.I K2), .dat (.int (L2 : Nat)), .dat X1, .dat (.int (k : Nat)), s10, s11] g = .ok (.dat (enc (prodT P 1 (q ++ [(k, r)])))) g := by
            simp [e1, gk, e2, by']
          rw [ee]
          refine Ev.of rfl ?_
          exact Ev.of rfl ⟨rfl, Z _⟩
        · rintro ρ g ⟨rfl, L, q, kvs, s9, hq, hL, hs, rfl⟩
          have hq : q = sentL n (othL n h) m := by rw [← hq]; exact (List.append_nil q).symm
          subst hq
          exact ⟨_, rfl, hQ2 _ _ ⟨rfl, kvs, hs, _, s9, rfl⟩⟩
      rintro _ g ⟨rfl, kvs, hs, s7, s9, rfl⟩
      have gd : goodT n h m = (othL n h).all fun k => decide (iterN (sentF h (sentL n (othL n h) m)) n k = h) := rfl
      have hlt : ∀ p ∈ sentL n (othL n h) m, p.2 < n := sent_lt n1 _ _
      generalize hsent : sentL n (othL n h) m = S at *
      obtain ⟨ptw, pt0, pt1⟩ := pt
      generalize hX : prodT P 1 S = X at *
      refine ev_stp (fun ρ f => f = g ∧ ∃ s9 s10 s11 : Slot, ρ = [.dat (rowsP n P), .dat (.int (h : Nat)), .dat (.int (n : Nat)), .dat (.list (natsD (othL n h))), .dat (enc tot), .dat (.int (m : Nat)), .dct (.I kvs), s7, .dat (enc (tt n P h m)), s9, s10, s11]) ?_ ?_
      · intro Q'' hQ2
        have ix0 : oIx (enc X) (.int 0) = some (.dat (.int X.num)) := rfl
        have ng := num_gt pt0
        rw [e_for]
        by_cases x0 : 0 < X
        · rw [decide_eq_true x0] at ng
          have ng := of_decide_eq_true ng
          have mu : oMul (.list (natsD (othL n h))) (.int 1) = some (.own (natsD (othL n h))) := by
            rw [oMul_list, if_pos ⟨by decide, by decide, by unfold natsD; rw [List.length_map]; omega⟩]
            simp
          generalize hN : natsD (othL n h) = N at *
          simp [-oMul_list, ix0, ng, mu]
          subst hN
          refine ev_forT (enc := nD) (I := fun rest ρ f => f = g ∧ ∃ (pre : List Nat) (s9 s10 s11 : Slot), pre ++ rest = othL n h ∧ ρ = [.dat (rowsP n P), .dat (.int (h : Nat)), .dat (.int (n : Nat)), .dat (.list (natsD (othL n h))), .dat (enc tot), .dat (.int (m : Nat)), .dct (.I kvs), s7, .dat (enc (if (pre.all fun k => decide (iterN (sentF h S) n k = h)) = true then X else 0)), s9, s10, s11]) ?_ ?_ _ _ _ ⟨rfl, [], s9, s10, s11, rfl, rfl⟩
          · rintro k rest ρ g ⟨rfl, pre, s9, s10, s11, hpre, rfl⟩
            refine ⟨_, rfl, ?_⟩
            generalize hv : (if (pre.all fun k => decide (iterN (sentF h S) n k = h)) = true then X else 0) = v at *
            refine ev_step (fun ρ f => f = g ∧ ρ = [.dat (rowsP n P), .dat (.int (h : Nat)), .dat (.int (n : Nat)), .dat (.list (natsD (othL n h))), .dat (enc tot), .dat (.int (m : Nat)), .dct (.I kvs), s7, .dat (enc v), .dat (.int (k : Nat)), .dat (.int (iterN (sentF h S) 0 k : Nat)), s11]) (by simp [iterN]) ?_
            rintro _ g ⟨rfl, rfl⟩
            refine ev_stp (fun ρ f => f = g ∧ ∃ s11 : Slot, ρ = [.dat (rowsP n P), .dat (.int (h : Nat)), .dat (.int (n : Nat)), .dat (.list (natsD (othL n h))), .dat (enc tot), .dat (.int (m : Nat)), .dct (.I kvs), s7, .dat (enc v), .dat (.int (k : Nat)), .dat (.int (iterN (sentF h S) n k : Nat)), s11]) ?_ ?_
            · intro Q3 hQ3
              rw [e_for]
              simp [smallI_ok (n := (n : Int)) (by omega) (by omega)]
              refine ev_for (I := fun t ρ f => f = g ∧ ∃ s11 : Slot, ρ = [.dat (rowsP n P), .dat (.int (h : Nat)), .dat (.int (n : Nat)), .dat (.list (natsD (othL n h))), .dat (enc tot), .dat (.int (m : Nat)), .dct (.I kvs), s7, .dat (enc v), .dat (.int (k : Nat)), .dat (.int (iterN (sentF h S) t k : Nat)), s11]) ⟨rfl, s11, rfl⟩ ?_ ?_
              · rintro t d ρ g hd ⟨rfl, s11, rfl⟩
                obtain ⟨rfl, ht⟩ := range_at hd
                refine ⟨_, rfl, ?_⟩
                have it := iter_add (sentF h S) t k
                rw [it]
                generalize iterN (sentF h S) t k = c at *
                have gk := hs.get c
                have gs : (getK kvs (c : Int)).getD (.int (h : Nat)) = .int (sentF h S c : Nat) := by
                  rw [gk]
                  unfold sentF
                  cases S.find? (fun p => decide (p.1 = c)) <;> rfl
                generalize sentF h S c = c2 at *
                clear gk
                simp
                exact gs
              · rintro ρ g ⟨rfl, s11, rfl⟩
                rw [range_len]
                exact ⟨_, rfl, hQ3 _ _ ⟨rfl, s11, rfl⟩⟩
            rintro _ g ⟨rfl, s11, rfl⟩
            have al : (pre ++ [k]).all (fun k => decide (iterN (sentF h S) n k = h)) = (pre.all (fun k => decide (iterN (sentF h S) n k = h)) && decide (iterN (sentF h S) n k = h)) := by
              rw [List.all_append]
              simp
            have Z : ∀ (y : PyData), y = enc (if ((pre ++ [k]).all fun k => decide (iterN (sentF h S) n k = h)) = true then X else 0) → ∃ (pre' : List Nat) (t9 t10 t11 : Slot), pre' ++ rest = othL n h ∧ [Slot.dat (rowsP n P), .dat (.int (h : Nat)), .dat (.int (n : Nat)), .dat (.list (natsD (othL n h))), .dat (enc tot), .dat (.int (m : Nat)), .dct (.I kvs), s7, .dat y, .dat (.int (k : Nat)), .dat (.int (iterN (sentF h S) n k : Nat)), s11] = [.dat (rowsP n P), .dat (.int (h : Nat)), .dat (.int (n : Nat)), .dat (.list (natsD (othL n h))), .dat (enc tot), .dat (.int (m : Nat)), .dct (.I kvs), s7, .dat (enc (if (pre'.all fun k => decide (iterN (sentF h S) n k = h)) = true then X else 0)), t9, t10, t11] := fun y hy => ⟨pre ++ [k], .dat (.int (k : Nat)), .dat (.int (iterN (sentF h S) n k : Nat)), s11, by simp [hpre], by rw [hy]⟩
            rw [al] at Z
            generalize hJ : (fun (ρ : Rho) => ∃ (pre' : List Nat) (t9 t10 t11 : Slot), pre' ++ rest = othL n h ∧ ρ = [.dat (rowsP n P), .dat (.int (h : Nat)), .dat (.int (n : Nat)), .dat (.list (natsD (othL n h))), .dat (enc tot), .dat (.int (m : Nat)), .dct (.I kvs), s7, .dat (enc (if (pre'.all fun k => decide (iterN (sentF h S) n k = h)) = true then X else 0)), t9, t10, t11]) = J
            have hJ2 : ∀ ρ, J ρ ↔ ∃ (pre' : List Nat) (t9 t10 t11 : Slot), pre' ++ rest = othL n h ∧ ρ = [.dat (rowsP n P), .dat (.int (h : Nat)), .dat (.int (n : Nat)), .dat (.list (natsD (othL n h))), .dat (enc tot), .dat (.int (m : Nat)), .dct (.I kvs), s7, .dat (enc (if (pre'.all fun k => decide (iterN (sentF h S) n k = h)) = true then X else 0)), t9, t10, t11] := fun ρ => by rw [← hJ]
            simp only [← hJ2] at Z ⊢
            generalize natsD (othL n h) = N at *
            generalize rowsP n P = R at *
            by_cases c : iterN (sentF h S) n k = h
            · have Z := Z (enc v) (by rw [← hv]; simp [c])
              simp [c]
              rw [c] at Z
              exact Z
            · have Z := Z (.tuple [.int 0, .int 1]) (by simp [c]; rfl)
              simp [c, show ¬ ((iterN (sentF h S) n k : Nat) : Int) = (h : Nat) by omega]
              exact Z
          · rintro ρ g ⟨rfl, pre, s9, s10, s11, hpre, rfl⟩
            rw [List.append_nil] at hpre
            subst hpre
            refine ⟨_, rfl, hQ2 _ _ ⟨rfl, s9, s10, s11, ?_⟩⟩
            rw [gT, gd]
        · have z : X = 0 := by grind
          rw [decide_eq_false x0] at ng
          have ng := of_decide_eq_false ng
          have mu : oMul (.list (natsD (othL n h))) (.int 0) = some (.own []) := by
            rw [oMul_list, if_pos ⟨by decide, by decide, by unfold natsD; rw [List.length_map]; omega⟩]
            simp
          have tz : tt n P h m = 0 := by
            rw [gT, z]
            split <;> rfl
          have W2 := hQ2 [.dat (rowsP n P), .dat (.int (h : Nat)), .dat (.int (n : Nat)), .dat (.list (natsD (othL n h))), .dat (enc tot), .dat (.int (m : Nat)), .dct (.I kvs), s7, .dat (enc X), s9, s10, s11] g ⟨rfl, s9, s10, s11, by rw [tz, z]⟩
          generalize natsD (othL n h) = N at *
          simp [-oMul_list, ix0, ng, mu, forN]
          exact W2
      rintro _ g ⟨rfl, s9, s10, s11, rfl⟩
      have ad := q_add_q (f := g) T (sz01w w t1.1 t1.2.1 t1.2.2) (by decide)
      generalize rowsP n P = R at *
      generalize natsD (othL n h) = N at *
      generalize enc (tt n P h m) = y at *
      generalize enc (tot + tt n P h m) = y2 at *
      generalize enc tot = y1 at *
      simp [ad]
    · rintro ρ g ⟨rfl, s5, s6, s7, s8, s9, s10, s11, rfl⟩
      rw [range_len]
      exact ⟨_, rfl, hQ _ _ ⟨rfl, s5, s6, s7, s8, s9, s10, s11, rfl⟩⟩
  rintro _ f ⟨rfl, s5, s6, s7, s8, s9, s10, s11, rfl⟩
  generalize enc (tw n P h) = x
  simp
end
end Fp
namespace Fp
open PySem PySem.Spec L2 Dn
def encT (n : Nat) (g : Nat → Nat) : List Nat → Nat
  | [] => 0
  | k :: r => g k + n * encT n g r
section
variable {n h W : Nat} {P : Nat → Nat → Rat} {f : Feed}
theorem sent_enc (n0 : 0 < n) {g : Nat → Nat} : ∀ (l : List Nat), (∀ k ∈ l, g k < n) → sentL n l (encT n g l) = l.map fun k => (k, g k)
  | [], _ => rfl
  | k :: r, hg => by
    have a := hg k List.mem_cons_self
    show (k, (g k + n * encT n g r) % n) :: sentL n r ((g k + n * encT n g r) / n) = _
    rw [Nat.add_mul_mod_self_left, Nat.mod_eq_of_lt a, Nat.add_mul_div_left _ _ n0, Nat.div_eq_of_lt a, Nat.zero_add, sent_enc n0 r fun x hx => hg x (List.mem_cons_of_mem _ hx)]
    rfl
theorem enc_lt (n0 : 0 < n) {g : Nat → Nat} : ∀ (l : List Nat), (∀ k ∈ l, g k < n) → encT n g l < n ^ l.length
  | [], _ => by simp [encT]
  | k :: r, hg => by
    have a := hg k List.mem_cons_self
    have b := enc_lt n0 r fun x hx => hg x (List.mem_cons_of_mem _ hx)
    show g k + n * encT n g r < n ^ (r.length + 1)
    rw [Nat.pow_succ]
    have : n * (encT n g r + 1) ≤ n * n ^ r.length := Nat.mul_le_mul_left _ b
    rw [Nat.mul_comm (n ^ r.length) n]
    rw [Nat.mul_succ] at this
    omega
theorem oth_len1 (hh : h < n) : (othL n h).length = n - 1 := by
  have a := nodup_lt (n := n) (l := h :: othL n h) (List.nodup_cons.mpr ⟨fun z => (oth_mem.mp z).2 rfl, oth_nd⟩) fun x hx => by
    rcases List.mem_cons.mp hx with rfl | hx
    · exact hh
    · exact (oth_mem.mp hx).1
  have b := len_subN (List.nodup_range (n := n)) (m := h :: othL n h) fun k hk => by
    by_cases e : k = h
    · exact e ▸ List.mem_cons_self
    · exact List.mem_cons_of_mem _ (oth_mem.mpr ⟨List.mem_range.mp hk, e⟩)
  rw [List.length_range] at b
  rw [List.length_cons] at a b
  omega
theorem cnt_pow (n1 : 1 ≤ n) (n4 : n ≤ 4) : cntT n = n ^ (n - 1) := by
  match n, n1, n4 with
  | 1, _, _ | 2, _, _ | 3, _, _ | 4, _, _ => rfl
theorem way_iter {g : Nat → Nat} (gh : g h = h) : ∀ (ps : List (Nat × Nat)) (led : List Nat) (i r : Nat), wayV P led ps i = none → (∀ a ∈ led, iterN g r a = h) → (∀ p ∈ ps, g p.1 = p.2) → ∀ a ∈ led ++ ps.map (·.1), iterN g (r + ps.length) a = h
  | [], led, i, r, _, hl, _, a, ha => hl a (by simpa using ha)
  | (c, d) :: ps, led, i, r, q, hl, hg, a, ha => by
    unfold wayV at q
    split at q
    · cases q
    · rename_i z
      simp only [Bool.or_eq_true, decide_eq_true_eq, Bool.not_eq_true', decide_eq_false_iff_not, not_or, Decidable.not_not] at z
      have := way_iter gh ps (led ++ [c]) (i + 1) (r + 1) q (fun b hb => by
        rcases List.mem_append.mp hb with hb | hb
        · rw [iter_add, hl b hb, gh]
        · rw [List.mem_singleton.mp hb]
          show iterN g r (g c) = h
          rw [hg (c, d) List.mem_cons_self]
          exact hl d z.2.2) (fun p hp => hg p (List.mem_cons_of_mem _ hp)) a (by simpa using ha)
      rw [List.length_cons, show r + (ps.length + 1) = r + 1 + ps.length by omega]
      exact this
theorem way_ne0 : ∀ (ps : List (Nat × Nat)) (led : List Nat) (i : Nat), wayV P led ps i = none → ∀ p ∈ ps, P p.1 p.2 ≠ 0
  | [], _, _, _, p, hp => by cases hp
  | (c, d) :: ps, led, i, q, p, hp => by
    unfold wayV at q
    split at q
    · cases q
    · rename_i z
      simp only [Bool.or_eq_true, decide_eq_true_eq, Bool.not_eq_true', decide_eq_false_iff_not, not_or, Decidable.not_not] at z
      rcases List.mem_cons.mp hp with rfl | hp
      · exact z.2.1
      · exact way_ne0 ps _ _ q p hp
theorem prod_pos : ∀ (s : List (Nat × Nat)) (c : Rat), 0 < c → (∀ p ∈ s, 0 < P p.1 p.2) → 0 < prodT P c s
  | [], c, hc, _ => hc
  | p :: s, c, hc, h => prod_pos s _ (Rat.mul_pos hc (h p List.mem_cons_self)) fun q hq => h q (List.mem_cons_of_mem _ hq)
theorem prod_0 : ∀ (s : List (Nat × Nat)), prodT P 0 s = 0
  | [] => rfl
  | p :: s => by
    show prodT P (0 * P p.1 p.2) s = 0
    rw [Rat.zero_mul]
    exact prod_0 s
theorem prod_ne : ∀ (s : List (Nat × Nat)) (c : Rat), prodT P c s ≠ 0 → ∀ p ∈ s, P p.1 p.2 ≠ 0
  | [], c, _, p, hp => by cases hp
  | q :: s, c, h, p, hp => by
    rcases List.mem_cons.mp hp with rfl | hp
    · intro z
      apply h
      show prodT P (c * P p.1 p.2) s = 0
      rw [z, Rat.mul_zero]
      exact prod_0 s
    · exact prod_ne s _ h p hp
theorem sentF_map {l : List Nat} {g : Nat → Nat} {k : Nat} (hk : k ∈ l) : sentF h (l.map fun k => (k, g k)) k = g k := by
  unfold sentF
  have : (l.map fun k => (k, g k)).find? (fun p => decide (p.1 = k)) = some (k, g k) := by
    induction l with
    | nil => cases hk
    | cons a r ih =>
      rw [List.map_cons, List.find?_cons]
      by_cases e : a = k
      · subst e
        simp
      · simp only [e, decide_false]
        rcases List.mem_cons.mp hk with z | z
        · exact absurd z.symm e
        · exact ih z
  rw [this]
  rfl
theorem sentF_out {l : List Nat} {g : Nat → Nat} {k : Nat} (hk : k ∉ l) : sentF h (l.map fun k => (k, g k)) k = h := by
  unfold sentF
  have : (l.map fun k => (k, g k)).find? (fun p => decide (p.1 = k)) = none := List.find?_eq_none.mpr fun p hp => by
    obtain ⟨a, ha, rfl⟩ := List.mem_map.mp hp
    simp only [decide_eq_true_eq]
    exact fun z => hk (z ▸ ha)
  rw [this]
  rfl
theorem tw_pos (w : PW n P W) (hh : h < n) (hl : ∀ k, k < n → Led n P k h) : 0 < tw n P h := by
  have n1 := w.n1
  have n4 := w.n4
  obtain ⟨ps, wo, len⟩ := ways_exist hh hl (n - 1) [] (WaysOk.nil hh) (by simp)
  have g0 : ∃ g : Nat → Nat, ∀ p ∈ ps, g p.1 = p.2 := by
    refine ⟨fun k => ((ps.find? fun p => decide (p.1 = k)).map (·.2)).getD 0, fun p hp => ?_⟩
    have nd := (List.nodup_cons.mp wo.nd).2
    have : ps.find? (fun q => decide (q.1 = p.1)) = some p := by
      clear wo len
      induction ps with
      | nil => cases hp
      | cons a r ih =>
        rw [List.find?_cons]
        rw [List.map_cons] at nd
        obtain ⟨n1, n2⟩ := List.nodup_cons.mp nd
        rcases List.mem_cons.mp hp with rfl | hp
        · simp
        · have : a.1 ≠ p.1 := fun z => n1 (z ▸ List.mem_map_of_mem hp)
          simp only [this, decide_false]
          exact ih hp n2
    show (((ps.find? fun q => decide (q.1 = p.1)).map (·.2)).getD 0) = p.2
    rw [this]
    rfl
  obtain ⟨g, hg⟩ := g0
  have mem : ∀ k ∈ othL n h, ∃ p ∈ ps, p.1 = k := fun k hk => by
    obtain ⟨k1, k2⟩ := oth_mem.mp hk
    have := ((vY_none ps).mp (full_ways hh wo len)).2 k k1
    rcases List.mem_cons.mp this with z | z
    · exact absurd z k2
    · obtain ⟨p, hp, e⟩ := List.mem_map.mp z
      exact ⟨p, hp, e⟩
  have gl : ∀ k ∈ othL n h, g k < n := fun k hk => by
    obtain ⟨p, hp, rfl⟩ := mem k hk
    rw [hg p hp]
    exact (wo.lt p hp).2
  have gp : ∀ k ∈ othL n h, 0 < P k (g k) := fun k hk => by
    obtain ⟨p, hp, rfl⟩ := mem k hk
    rw [hg p hp]
    have a := way_ne0 ps _ _ wo.way p hp
    have b := (w.ok p.1 p.2 (wo.lt p hp).1 (wo.lt p hp).2).2.1
    grind
  have se := sent_enc n1 (othL n h) gl
  have el := enc_lt n1 (othL n h) gl
  rw [oth_len1 hh, ← cnt_pow n1 n4] at el
  have hin : ∀ p ∈ ps, p.1 ∈ othL n h := fun p hp => oth_mem.mpr ⟨(wo.lt p hp).1, fun z => (List.nodup_cons.mp wo.nd).1 (z ▸ List.mem_map_of_mem hp)⟩
  have good : goodT n h (encT n g (othL n h)) = true := by
    unfold goodT
    rw [se, List.all_eq_true]
    intro k hk
    rw [decide_eq_true_eq]
    have gh : sentF h ((othL n h).map fun k => (k, g k)) h = h := sentF_out fun z => (oth_mem.mp z).2 rfl
    have wi := way_iter gh ps [h] 0 0 wo.way (fun a ha => List.mem_singleton.mp ha) (fun p hp => by rw [sentF_map (hin p hp)]; exact hg p hp) k (by
      obtain ⟨p, hp, rfl⟩ := mem k hk
      simp
      exact .inr ⟨p.2, hp⟩)
    have e : ∀ G : Nat → Nat, iterN G n k = iterN G (0 + ps.length + 1) k := fun G => by rw [show n = 0 + ps.length + 1 by omega]
    rw [e, iter_add, wi, gh]
  have tp : 0 < tt n P h (encT n g (othL n h)) := by
    unfold tt
    rw [if_pos good, se]
    refine prod_pos _ _ (by decide) fun p hp => ?_
    obtain ⟨k, hk, rfl⟩ := List.mem_map.mp hp
    exact gp k hk
  have := rs_ge1 (n := cntT n) (g := tt n P h) (fun m _ => (tt_ok w hh m).2.1) _ el
  have e : tw n P h = rs (cntT n) (tt n P h) := rfl
  rw [e]
  grind
theorem tw_nn (w : PW n P W) (hh : h < n) : 0 ≤ tw n P h := rs_nn fun m _ => (tt_ok w hh m).2.1
theorem tw_led (w : PW n P W) (hh : h < n) (z : tw n P h ≠ 0) : ∀ k, k < n → Led n P k h := by
  have : ∃ m, m < cntT n ∧ tt n P h m ≠ 0 := by
    apply Classical.byContradiction
    intro q
    apply z
    have e : tw n P h = rs (cntT n) (tt n P h) := rfl
    rw [e, rs_congr (h := fun _ => 0) fun i hi => by
      apply Classical.byContradiction
      intro q2
      exact q ⟨i, hi, q2⟩, rs_0]
  obtain ⟨m, hm, tz⟩ := this
  unfold tt at tz
  split at tz
  · rename_i gd
    have ne := prod_ne _ _ tz
    have mem : ∀ k, k ∈ othL n h → (k, sentF h (sentL n (othL n h) m) k) ∈ sentL n (othL n h) m := fun k hk => by
      rw [← sent_fst n (othL n h) m] at hk
      generalize sentL n (othL n h) m = S at *
      unfold sentF
      cases q : S.find? (fun p => decide (p.1 = k)) with
      | none =>
        obtain ⟨p, hp, e⟩ := List.mem_map.mp hk
        have := List.find?_eq_none.mp q p hp
        simp [e] at this
      | some p =>
        have a := List.mem_of_find?_eq_some q
        have b := List.find?_some q
        rw [decide_eq_true_eq] at b
        show (k, p.2) ∈ S
        rw [← b]
        exact a
    have go : ∀ r k, k < n → iterN (sentF h (sentL n (othL n h) m)) r k = h → Led n P k h := by
      intro r
      induction r with
      | zero =>
        intro k hk e
        have e : k = h := e
        subst e
        exact .refl k hk
      | succ r ih =>
        intro k hk e
        by_cases kh : k = h
        · subst kh
          exact .refl k hk
        · have m1 := mem k (oth_mem.mpr ⟨hk, kh⟩)
          exact .step k _ h hk (ne _ m1) (ih _ (sent_lt w.n1 _ _ _ m1) e)
    intro k hk
    by_cases kh : k = h
    · subst kh
      exact .refl k hk
    · have := List.all_eq_true.mp gd k (oth_mem.mpr ⟨hk, kh⟩)
      exact go n k hk (of_decide_eq_true this)
  · exact absurd rfl tz
def twS (n : Nat) (P : Nat → Nat → Rat) : Rat := rs n (tw n P)
def twW (n : Nat) (P : Nat → Nat → Rat) (i : Nat) : Rat := tw n P i / twS n P
theorem twS_pos (w : PW n P W) (hh : h < n) (hl : ∀ k, k < n → Led n P k h) : 0 < twS n P := by
  have a := tw_pos w hh hl
  have b := rs_ge1 (n := n) (g := tw n P) (fun k hk => tw_nn w hk) h hh
  unfold twS
  grind
theorem twS_0 (w : PW n P W) (h0 : homL n P = []) : twS n P = 0 := by
  unfold twS
  rw [rs_congr (h := fun _ => 0) fun i hi => by
    apply Classical.byContradiction
    intro q
    have : i ∈ homL n P := mem_hom.mpr ⟨hi, tw_led w hi q⟩
    rw [h0] at this
    exact absurd this List.not_mem_nil, rs_0]
theorem twS_iff (w : PW n P W) : twS n P = 0 ↔ homL n P = [] := by
  refine ⟨fun z => ?_, twS_0 w⟩
  cases q : homL n P with
  | nil => rfl
  | cons a r =>
    have : a ∈ homL n P := by rw [q]; exact List.mem_cons_self
    obtain ⟨a1, a2⟩ := mem_hom.mp this
    have := twS_pos w a1 a2
    rw [z] at this
    exact absurd this (by decide)
theorem twW_sum (hp : twS n P ≠ 0) : rs n (twW n P) = 1 := by
  have : rs n (twW n P) = (twS n P)⁻¹ * rs n (tw n P) := by
    rw [← rs_mul]
    exact rs_congr fun i _ => by
      unfold twW
      rw [Rat.div_def, Rat.mul_comm]
  rw [this]
  exact Rat.inv_mul_cancel _ hp
theorem twW_stat (n1 : 1 ≤ n) (n4 : n ≤ 4) (c : Chn n P) : ∀ k, k < n → stat n P (twW n P) k = twW n P k := fun k hk => by
  have e := stat_tw n1 n4 c k hk
  have : stat n P (twW n P) k = (twS n P)⁻¹ * stat n P (tw n P) k := by
    unfold stat
    rw [← rs_mul]
    refine rs_congr fun i _ => ?_
    unfold twW
    rw [Rat.div_def]
    grind
  rw [this, e]
  unfold twW
  rw [Rat.div_def, Rat.mul_comm]
end
end Fp
namespace Fp
open PySem PySem.Spec L2 Dn
def keyD (t : Tri) : PyData := .tuple [.int t.st, .int t.nx]
section
variable {e b k n : Nat} {d : PyData} {f : Feed}
end
end Fp
namespace Fp
open PySem PySem.Spec L2 Dn
theorem thL_of5 {α : Type} {e b k : Nat} {f : α → PyData} : ∀ {xs : List α}, (∀ x ∈ xs, Th e b k (f x)) → ThL e (xs.length * (b + 1)) k (xs.map f)
  | [], _ => thL_nil.up (Nat.zero_le _) (Nat.zero_le _) (Nat.zero_le _)
  | x :: r, h => by
    have a := thL_cons (h x List.mem_cons_self) (thL_of5 (xs := r) fun y hy => h y (List.mem_cons_of_mem _ hy))
    rw [List.map_cons, List.length_cons]
    exact a.up (Nat.le_refl _) (by rw [Nat.add_mul]; omega) (Nat.le_refl _)
end Fp
namespace Fp
open PySem PySem.Spec L2 Dn
theorem tc_tupN {A : List Nat} (h : ∀ a ∈ A, a < 1000) (l : A.length ≤ 8) : Tc 134 96 1 (tupN A) := by
  refine ⟨?_, tup_can fun x hx => ?_⟩
  · have a := thL_of5 (e := 134) (b := 11) (k := 0) (xs := A) (f := nD) fun t ht => by
      have := h t ht
      have q : Th 10 11 0 (.int (t : Nat)) := th_int (by rw [Int.natAbs_natCast]; omega)
      exact q.up (by decide) (Nat.le_refl _) (Nat.le_refl _)
    exact th_tuple (a.up (Nat.le_refl _) (by omega) (Nat.le_refl _))
  · obtain ⟨a, _, rfl⟩ := List.mem_map.mp hx
    rfl
theorem tc_tup3 {e b1 b2 b3 k : Nat} {x y z : PyData} (hx : Tc e b1 k x) (hy : Tc e b2 k y) (hz : Tc e b3 k z) : Tc e (b1 + 1 + (b2 + 1 + (b3 + 1))) (k + 1) (.tuple [x, y, z]) := by
  refine ⟨th_tuple (thL_cons hx.th (thL_cons hy.th (thL_one hz.th))), tup_can fun d hd => ?_⟩
  simp only [List.mem_cons, List.not_mem_nil, or_false] at hd
  rcases hd with rfl | rfl | rfl
  · exact hx.c
  · exact hy.c
  · exact hz.c
theorem tc_word {w : Str} (h : WsOk w) (c : PyData.canLay0 (.str w) = true) {k : Nat} : Tc 134 10 k (.str w) := ⟨h.th.up (by decide) (Nat.le_refl _) (Nat.zero_le _), c⟩
theorem can_apart : PyData.canLay0 (.str (Str.ofString "apart")) = true := by decide +kernel
theorem can_share : PyData.canLay0 (.str (Str.ofString "share")) = true := by decide +kernel
/-- a set of kinds -/
structure SetOk (n : Nat) (A : List Nat) : Prop where
  ne : A ≠ []
  lt : ∀ a ∈ A, a < n
  pw : A.Pairwise (· < ·)
theorem pw_len : ∀ {A : List Nat} {n m : Nat}, A.Pairwise (· < ·) → (∀ a ∈ A, m ≤ a ∧ a < n) → m + A.length ≤ n ∨ A = []
  | [], n, m, _, _ => .inr rfl
  | a :: r, n, m, h, q => by
    obtain ⟨h1, h2⟩ := List.pairwise_cons.mp h
    obtain ⟨q1, q2⟩ := q a List.mem_cons_self
    rcases pw_len (n := n) (m := a + 1) h2 (fun x hx => ⟨h1 x hx, (q x (List.mem_cons_of_mem _ hx)).2⟩) with z | z
    · left
      rw [List.length_cons]
      omega
    · subst z
      left
      simp
      omega
theorem SetOk.len {n : Nat} {A : List Nat} (h : SetOk n A) : A.length ≤ n := by
  rcases pw_len (m := 0) h.pw (fun a ha => ⟨Nat.zero_le _, h.lt a ha⟩) with z | z
  · omega
  · exact absurd z h.ne
theorem SetOk.tc {n : Nat} {A : List Nat} (h : SetOk n A) (hn : n ≤ 4) : Tc 134 96 1 (tupN A) := tc_tupN (fun a ha => by have := h.lt a ha; omega) (by have := h.len; omega)
theorem SetOk.ri {n : Nat} {A : List Nat} (h : SetOk n A) : riB n (tupN A) = true := by
  show (!(natsD A).isEmpty && ((natsD A).all (plB n) && risD (natsD A))) = true
  have e1 : (natsD A).isEmpty = false := by
    cases A with
    | nil => exact absurd rfl h.ne
    | cons a r => rfl
  have e2 : (natsD A).all (plB n) = true := List.all_eq_true.mpr fun x hx => by
    obtain ⟨a, ha, rfl⟩ := List.mem_map.mp hx
    show decide (0 ≤ ((a : Nat) : Int) ∧ ((a : Nat) : Int) < n) = true
    rw [decide_eq_true_eq]
    have := h.lt a ha
    omega
  have e3 : risD (natsD A) = true := by
    have em : natsD A = (A.map fun (a : Nat) => (a : Int)).map .int := by unfold natsD; rw [List.map_map]; rfl
    rw [em, risD_ints, risI_pw]
    exact List.pairwise_map.mpr (h.pw.imp fun h => by omega)
  rw [e1, e2, e3]
  rfl
theorem apB_sets {n : Nat} {A B : List Nat} (hA : SetOk n A) (hB : SetOk n B) : apB n (apartD A B) = true := by
  show (decide (Str.ofString "apart" = Str.ofString "apart") && (riB n (tupN A) && riB n (tupN B))) = true
  rw [hA.ri, hB.ri, decide_eq_true rfl]
  rfl
theorem tc_apart {A B : List Nat} {n : Nat} (hn : n ≤ 4) (hA : SetOk n A) (hB : SetOk n B) : Tc 134 205 2 (apartD A B) := (tc_tup3 (tc_word ws_apart can_apart) (hA.tc hn) (hB.tc hn)).up (Nat.le_refl _) (by decide) (Nat.le_refl _)
/-- the papers apart of two sets that aren't led out of -/
def pairsC (C : List (List Nat)) : List (List Nat × List Nat) := C.flatMap fun A => (C.filter fun B => A.all fun a => !decide (a ∈ B)).map fun B => (A, B)
def pairD (p : List Nat × List Nat) : PyData := apartD p.1 p.2
theorem mem_pairs {C : List (List Nat)} {p : List Nat × List Nat} : p ∈ pairsC C ↔ p.1 ∈ C ∧ p.2 ∈ C ∧ ∀ a ∈ p.1, a ∉ p.2 := by
  unfold pairsC
  simp only [List.mem_flatMap, List.mem_map, List.mem_filter, List.all_eq_true]
  constructor
  · rintro ⟨A, hA, B, ⟨hB, h⟩, rfl⟩
    exact ⟨hA, hB, fun a ha => by simpa using h a ha⟩
  · rintro ⟨h1, h2, h3⟩
    exact ⟨p.1, h1, p.2, ⟨h2, fun a ha => by simpa using h3 a ha⟩, rfl⟩
section
variable {n : Nat} {P : Nat → Nat → Rat} {f : Feed} {A B : List Nat}
theorem clos_set (hn : n ≤ 4) (h : A ∈ closL n P) : SetOk n A := by
  obtain ⟨h1, h2, h3, _⟩ := clos_mem hn h
  exact ⟨h1, h2, h3⟩
theorem pair_vA (hn : n ≤ 4) {p : List Nat × List Nat} (h : p ∈ pairsC (closL n P)) : SetOk n p.1 ∧ SetOk n p.2 ∧ vA n P p.1 p.2 = none := by
  obtain ⟨h1, h2, h3⟩ := mem_pairs.mp h
  refine ⟨clos_set hn h1, clos_set hn h2, ?_⟩
  have o1 := (clos_mem hn h1).2.2.2
  have o2 := (clos_mem hn h2).2.2.2
  have f1 : p.1.find? (fun k => decide (k ∈ p.2)) = none := List.find?_eq_none.mpr fun a ha => by simpa using h3 a ha
  have f2 : p.1.find? (outB n P p.1) = none := List.find?_eq_none.mpr fun a ha => by simp [o1 a ha]
  have f3 : p.2.find? (outB n P p.2) = none := List.find?_eq_none.mpr fun a ha => by simp [o2 a ha]
  unfold vA
  rw [f1, f2, f3]
  rfl
end
end Fp
namespace Fp
open PySem PySem.Spec L2 Dn
section
variable {n h W : Nat} {P : Nat → Nat → Rat} {f : Feed}
theorem cnt64 (n4 : n ≤ 4) : cntT n ≤ 64 := by
  unfold cntT
  match n, n4 with
  | 0, _ | 1, _ | 2, _ | 3, _ | 4, _ => decide
/-- each kind's chances by a bottom of its own -/
def OwnV (n : Nat) (P : Nat → Nat → Rat) (V : Nat → Nat) : Prop := ∀ i, i < n → 0 < V i ∧ V i ≤ 200 ∧ ∀ j, j < n → Wh (V i) (P i j)
def vp (V : Nat → Nat) : List Nat → Nat
  | [] => 1
  | k :: r => V k * vp V r
theorem vp_sub {V : Nat → Nat} {l m : List Nat} (s : l.Sublist m) : vp V l ∣ vp V m := by
  induction s with
  | slnil => exact Nat.dvd_refl _
  | cons a _ ih => exact Nat.dvd_trans ih (Nat.dvd_mul_left _ _)
  | cons_cons a _ ih => exact Nat.mul_dvd_mul_left _ ih
theorem vp_pos {V : Nat → Nat} : ∀ {l : List Nat}, (∀ k ∈ l, 0 < V k) → 0 < vp V l
  | [], _ => Nat.one_pos
  | k :: r, h => Nat.mul_pos (h k List.mem_cons_self) (vp_pos fun x hx => h x (List.mem_cons_of_mem _ hx))
theorem vp_le {V : Nat → Nat} : ∀ {l : List Nat}, (∀ k ∈ l, V k ≤ 200) → vp V l ≤ 200 ^ l.length
  | [], _ => Nat.le_refl _
  | k :: r, h => by
    have a := vp_le (V := V) (l := r) fun x hx => h x (List.mem_cons_of_mem _ hx)
    rw [List.length_cons, Nat.pow_succ, Nat.mul_comm]
    exact Nat.mul_le_mul (h k List.mem_cons_self) a
theorem prod_own {V : Nat → Nat} (o : OwnV n P V) : ∀ (s : List (Nat × Nat)) (c : Rat) (E : Nat), (∀ p ∈ s, p.1 < n ∧ p.2 < n) → Wh E c → Wh (E * vp V (s.map (·.1))) (prodT P c s)
  | [], c, E, _, hc => by
    show Wh (E * 1) c
    rw [Nat.mul_one]
    exact hc
  | p :: s, c, E, hp, hc => by
    obtain ⟨a1, a2⟩ := hp p List.mem_cons_self
    have x1 := (o p.1 a1).2.2 p.2 a2
    have := prod_own o s (c * P p.1 p.2) (E * V p.1) (fun q hq => hp q (List.mem_cons_of_mem _ hq)) (hc.mul x1)
    show Wh (E * (V p.1 * vp V (s.map (·.1)))) _
    rw [← Nat.mul_assoc]
    exact this
theorem tt_own {V : Nat → Nat} (w : PW n P W) (o : OwnV n P V) (hh : h < n) (m : Nat) : Wh (vp V (List.range n)) (tt n P h m) := by
  unfold tt
  split
  · have := prod_own o (sentL n (othL n h) m) 1 1 (fun p hp => ⟨by
      have : p.1 ∈ othL n h := by
        rw [← sent_fst n (othL n h) m]
        exact List.mem_map_of_mem hp
      exact (oth_mem.mp this).1, sent_lt w.n1 _ _ p hp⟩) wh1T
    rw [Nat.one_mul, sent_fst] at this
    exact this.up (vp_sub List.filter_sublist)
  · exact wh_0
theorem twW_sz {V : Nat → Nat} (w : PW n P W) (o : OwnV n P V) (z : twS n P ≠ 0) {i : Nat} (hi : i < n) : Sz 40 (twW n P i) ∧ 0 ≤ twW n P i ∧ twW n P i ≤ 1 := by
  have n4 := w.n4
  have c64 : cntT n ≤ 64 := cnt64 n4
  have part : ∀ i, i < n → Wh (W ^ 4) (tw n P i) ∧ 0 ≤ tw n P i ∧ Ab ((64 : Nat) : Rat) (tw n P i) := fun i hi => tw_part w hi (cntT n) c64
  have wt : ∀ i, i < n → Wh (vp V (List.range n)) (tw n P i) := fun i hi => rs_wh fun m _ => tt_own w o hi m
  have ws : Wh (vp V (List.range n)) (twS n P) := rs_wh fun i hi => wt i hi
  have s0 : 0 ≤ twS n P := rs_nn fun i hi => (part i hi).2.1
  have sp : 0 < twS n P := by grind
  have si : tw n P i ≤ twS n P := rs_ge1 (fun i hi => (part i hi).2.1) i hi
  have sb : Ab ((n * 64 : Nat) : Rat) (twS n P) := rs_ab fun i hi => (part i hi).2.2
  have sb2 : twS n P ≤ ((256 : Nat) : Rat) := (sb.up (Rat.natCast_le_natCast.mpr (show n * 64 ≤ 256 by omega))).2
  have v0 : 0 < vp V (List.range n) := vp_pos fun k hk => (o k (List.mem_range.mp hk)).1
  have vl : vp V (List.range n) ≤ 200 ^ 4 := by
    have := vp_le (V := V) (l := List.range n) fun k hk => (o k (List.mem_range.mp hk)).2.1
    rw [List.length_range] at this
    exact Nat.le_trans this (Nat.pow_le_pow_right (by decide) n4)
  obtain ⟨a, ha⟩ := ws
  obtain ⟨b, hb⟩ := wt i hi
  generalize vp V (List.range n) = D at *
  have Dp : (0 : Rat) < D := Rat.natCast_pos.mpr v0
  have ap : (0 : Rat) < (a : Rat) := by rw [← ha]; exact Rat.mul_pos sp Dp
  have ap : 0 < a := by
    have : ((0 : Int) : Rat) < (a : Rat) := by simpa using ap
    exact Rat.intCast_lt_intCast.mp this
  obtain ⟨A, rfl⟩ := Int.eq_ofNat_of_zero_le (Int.le_of_lt ap)
  have al : A ≤ 256 * 200 ^ 4 := by
    have h1 : twS n P * (D : Rat) ≤ ((256 : Nat) : Rat) * ((200 ^ 4 : Nat) : Rat) := by
      have x1 := Rat.mul_le_mul_of_nonneg_right sb2 (Rat.le_of_lt Dp)
      have x2 : ((256 : Nat) : Rat) * (D : Rat) ≤ ((256 : Nat) : Rat) * ((200 ^ 4 : Nat) : Rat) := Rat.mul_le_mul_of_nonneg_left (Rat.natCast_le_natCast.mpr vl) Rat.natCast_nonneg
      exact Rat.le_trans x1 x2
    rw [ha, ← Rat.natCast_mul] at h1
    have : (A : Rat) ≤ ((256 * 200 ^ 4 : Nat) : Rat) := h1
    exact Rat.natCast_le_natCast.mp this
  have e : twW n P i * twS n P = tw n P i := by
    unfold twW
    exact Rat.div_mul_cancel z
  have w01 : 0 ≤ twW n P i ∧ twW n P i ≤ 1 := by
    have iv : 0 < (twS n P)⁻¹ := Rat.inv_pos.mpr sp
    have e2 : twS n P * (twS n P)⁻¹ = 1 := Rat.mul_inv_cancel _ z
    unfold twW
    rw [Rat.div_def]
    refine ⟨Rat.mul_nonneg (part i hi).2.1 (Rat.le_of_lt iv), ?_⟩
    have := Rat.mul_le_mul_of_nonneg_right si (Rat.le_of_lt iv)
    rw [e2] at this
    exact this
  have A0 : 0 < A := by omega
  refine ⟨sz01 (D := A) A0 ⟨b, ?_⟩ w01.1 w01.2 (by omega), w01⟩
  have hA : (A : Rat) = twS n P * (D : Rat) := ha.symm
  rw [hA, ← hb, ← e]
  grind
theorem q_weights_q (w : PW n P W) : F_q_weights_v2 [.dat (rowsP n P)] f = .ok (.dat (if twS n P = 0 then .none else .tuple (wsD n (twW n P)))) f := by
  have n4 := w.n4
  have e0 := lenR (n := n) (P := P)
  have rg := rgN (m := n)
  have lc1 : ∀ s1 s2 s3 s4 s5 : Slot, lcN (.one 4) cYes (cCall F_q_trees [cVar 0, cVar 4]) [.dat (rowsP n P), s1, s2, s3, s4, s5] ((List.range n).map nD) [] f = .ok ((List.range n).map fun i => enc (tw n P i)) f := fun s1 s2 s3 s4 s5 => by
    refine lc_map (by rw [List.length_range]; omega) fun i hi => ⟨_, rfl, ?_⟩
    rw [List.mem_range] at hi
    have q := q_trees_q (f := f) w hi
    generalize rowsP n P = R at *
    simp [q]
  have part : ∀ i, i < n → Wh (W ^ 4) (tw n P i) ∧ 0 ≤ tw n P i ∧ Ab ((64 : Nat) : Rat) (tw n P i) := fun i hi => by
    exact tw_part w hi (cntT n) (cnt64 n4)
  have w4' := w4 w
  have al := q_all_d (f := f) (d0 := .list ((List.range n).map fun i => enc (tw n P i))) (xs := (List.range n).map (tw n P)) (D := W ^ 4) (B := 64) (L := 4) (by rw [List.map_map]; rfl) (Nat.pow_pos w.W0) (by decide) (fun x hx => by
    obtain ⟨i, hi, rfl⟩ := List.mem_map.mp hx
    exact (part i (List.mem_range.mp hi)).1) (fun x hx => by
    obtain ⟨i, hi, rfl⟩ := List.mem_map.mp hx
    exact (part i (List.mem_range.mp hi)).2.2) (by rw [List.length_map, List.length_range]; exact n4) (Nat.lt_of_le_of_lt (Nat.le_trans (Nat.mul_le_mul_left (64 * (4 + 1)) w4') (show 64 * (4 + 1) * 2 ^ 124 ≤ 2 ^ 140 by decide)) (Nat.pow_lt_pow_right (by decide) (by decide)))
  have al : F_q_all [.dat (.list ((List.range n).map fun i => enc (tw n P i)))] f = .ok (.dat (enc (twS n P))) f := al
  have s0 : 0 ≤ twS n P := rs_nn fun i hi => (part i hi).2.1
  have sS : Sz 200 (twS n P) := by
    have a : Wh (W ^ 4) (twS n P) := rs_wh fun i hi => (part i hi).1
    have b : Ab ((n * 64 : Nat) : Rat) (twS n P) := rs_ab fun i hi => (part i hi).2.2
    have b2 : Ab ((256 : Nat) : Rat) (twS n P) := b.up (Rat.natCast_le_natCast.mpr (by omega))
    exact ab_sz (Nat.pow_pos w.W0) a b2 (by decide) (by omega)
  have sT : ∀ i, i < n → Sz 200 (tw n P i) := fun i hi => ab_sz (Nat.pow_pos w.W0) (part i hi).1 (part i hi).2.2 (by decide) (by omega)
  have en : enc (twS n P) = .tuple [.int (twS n P).num, .int ((twS n P).den : Nat)] := rfl
  apply ev_is
  rw [u_q_weights_v2, ev_dEnd]
  unfold S_q_weights_v2
  refine ev_step (fun ρ g => g = f ∧ ρ = [.dat (rowsP n P), .own ((List.range n).map fun i => enc (tw n P i)), .emp, .emp, .emp, .emp]) (by
    generalize rowsP n P = R at *
    generalize ((List.range n).map fun i => enc (tw n P i)) = L at *
    simp [e0, smallI_ok (n := (n : Int)) (by omega) (by omega), rg, lc1]) ?_
  rintro _ f ⟨rfl, rfl⟩
  refine ev_step (fun ρ g => g = f ∧ ρ = [.dat (rowsP n P), .dat (.list ((List.range n).map fun i => enc (tw n P i))), .emp, .emp, .emp, .emp]) (by simp) ?_
  rintro _ f ⟨rfl, rfl⟩
  refine ev_step (fun ρ g => g = f ∧ ρ = [.dat (rowsP n P), .dat (.list ((List.range n).map fun i => enc (tw n P i))), .dat (.int (twS n P).num), .dat (.int ((twS n P).den : Nat)), .emp, .emp]) (by
    generalize rowsP n P = R at *
    generalize ((List.range n).map fun i => enc (tw n P i)) = L at *
    rw [en] at al
    simp [al]) ?_
  rintro _ f ⟨rfl, rfl⟩
  by_cases z : twS n P = 0
  · rw [if_pos z, z]
    have : (0 : Rat).num = 0 := rfl
    simp [this]
  · rw [if_neg z]
    have p : 0 < twS n P := by grind
    have np := num_pos p
    have nz : ¬ (twS n P).num = 0 := by omega
    have lc2 : ∀ (s0 s1 s4 s5 : Slot), lcN (.one 5) cYes (cCall F_q_lowest [cBin oMul (cBin oIx (cVar 5) (cC (.int 0))) (cVar 3), cBin oMul (cBin oIx (cVar 5) (cC (.int 1))) (cVar 2)]) [s0, s1, .dat (.int (twS n P).num), .dat (.int ((twS n P).den : Nat)), s4, s5] ((List.range n).map fun i => enc (tw n P i)) [] f = .ok ((List.range n).map fun i => enc (twW n P i)) f := fun s0 s1 s4 s5 => by
      refine lc_map (by rw [List.length_range]; omega) fun i hi => ⟨_, rfl, ?_⟩
      rw [List.mem_range] at hi
      have sx := sT i hi
      have e1 : oIx (enc (tw n P i)) (.int 0) = some (.dat (.int (tw n P i).num)) := rfl
      have e2 : oIx (enc (tw n P i)) (.int 1) = some (.dat (.int ((tw n P i).den : Nat))) := rfl
      have m1 : oMul (.int (tw n P i).num) (.int ((twS n P).den : Nat)) = some (.dat (.int ((tw n P i).num * (twS n P).den))) := oMul_int (mulC_sz (n := 200) sx.num (by rw [Int.natAbs_natCast]; exact sS.den) (by decide))
      have m3 : oMul (.int ((tw n P i).den : Nat)) (.int (twS n P).num) = some (.dat (.int ((tw n P i).den * (twS n P).num))) := oMul_int (mulC_sz (n := 200) (by rw [Int.natAbs_natCast]; exact sx.den) sS.num (by decide))
      have e : ((tw n P i).den * (twS n P).num : Int) = (((tw n P i).den * (twS n P).num.toNat : Nat) : Int) := by
        rw [Int.natCast_mul, Int.toNat_of_nonneg (by omega)]
      rw [e] at m3
      have b3 := prod_lt sx.den sS.num (by decide : (200 : Nat) ≤ 4000)
      have en2 : (twS n P).num.toNat = (twS n P).num.natAbs := by omega
      have kk : (2 : Nat) ^ 8000 ≤ 2 ^ 8500 := by decide
      have lb := lowest_big (f := f) (p := (tw n P i).num * (twS n P).den) (q := (tw n P i).den * (twS n P).num.toNat) (Nat.mul_pos (tw n P i).den_pos (by omega)) (by rw [en2]; omega)
      rw [div_eq p] at lb
      have tWe : twW n P i = tw n P i / twS n P := rfl
      rw [← tWe] at lb
      generalize twW n P i = y at *
      generalize enc (tw n P i) = x at *
      generalize ((tw n P i).den * (twS n P).num.toNat : Nat) = q at *
      generalize ((tw n P i).num * (twS n P).den : Int) = p' at *
      simp [e1, e2, m1, m3, lb]
    have ws : (List.range n).map (fun i => enc (twW n P i)) = wsD n (twW n P) := rfl
    rw [ws] at lc2
    generalize rowsP n P = R at *
    generalize ((List.range n).map fun i => enc (tw n P i)) = L at *
    generalize wsD n (twW n P) = L2 at *
    simp [nz, lc2]
end
end Fp
namespace Fp
open PySem PySem.Spec L2 Dn
theorem rs_cp {n : Nat} : ∀ {k : List Tri}, (∀ t ∈ k, t.nx < n) → (rs n fun j => cp k (pN j)) = (k.map (·.c)).sum
  | [], _ => by
    have : rs n (fun j => cp [] (pN j)) = rs n fun _ => 0 := rfl
    rw [this, rs_0]
    rfl
  | t :: k, h => by
    have a := h t List.mem_cons_self
    rw [rs_congr (h := fun j => (if j = t.nx then t.c else 0) + cp k (pN j)) fun j _ => by
      rw [cp_cons]
      congr 1
      unfold pN
      simp [eq_comm], rs_add, rs_cp fun s hs => h s (List.mem_cons_of_mem _ hs), List.map_cons, List.sum_cons]
    congr 1
    have : ∀ m, (rs m fun j => if j = t.nx then t.c else 0) = if t.nx < m then t.c else 0 := by
      intro m
      induction m with
      | zero => rfl
      | succ m ih =>
        rw [rs_succ, ih]
        by_cases e : m = t.nx
        · subst e
          simp
          grind
        · rw [if_neg e]
          by_cases q : t.nx < m
          · rw [if_pos q, if_pos (by omega)]
            grind
          · rw [if_neg q, if_neg (by omega)]
            grind
    rw [this, if_pos a]
section
variable {W n h : Nat} {ks : List (List Tri)} {f : Feed}
theorem ks_get (hi : n < ks.length) : ks.getD n [] ∈ ks := by
  rw [List.getD_eq_getElem?_getD, List.getElem?_eq_getElem hi]
  exact List.getElem_mem hi
theorem chn_of (hk : KsOk W ks) (hf : ∀ k ∈ ks, fullK k) : Chn ks.length (pk ks) := by
  refine ⟨fun i j hi hj => (hk.P i j hi hj).2.1, fun i hi => ?_⟩
  have hm := ks_get hi
  have e : rs ks.length (pk ks i) = rs ks.length fun j => cp (ks.getD i []) (pN j) := rfl
  rw [e, rs_cp fun t ht => ((hk.ok _ hm).st t ht).2.2]
  exact hf _ hm
theorem pw_of (hk : KsOk W ks) (hW : W ≤ 2 ^ 31) : PW ks.length (pk ks) W := ⟨hk.n1, hk.n4, hk.W0, hW, hk.P⟩
theorem own_of (hk : KsOk W ks) : ∃ V, OwnV ks.length (pk ks) V := by
  have : ∀ i, ∃ v, i < ks.length → 0 < v ∧ v ≤ 200 ∧ ∀ j, j < ks.length → Wh v (pk ks i j) := fun i => by
    by_cases hi : i < ks.length
    · obtain ⟨V, V2, hV⟩ := hk.own _ (ks_get hi)
      exact ⟨V, fun _ => ⟨hV.W0, V2, fun j _ => (hV.cp (pN j)).1⟩⟩
    · exact ⟨0, fun z => absurd z hi⟩
  exact ⟨fun i => Classical.choose (this i), fun i hi => Classical.choose_spec (this i) hi⟩
theorem tc_prs {n : Nat} (hn : n ≤ 4) {ps : List (Nat × Nat)} (hp : ∀ p ∈ ps, p.1 < n ∧ p.2 < n) (hl : ps.length ≤ 8) : Tc 134 200 2 (.tuple (ps.map prD)) := by
  refine ⟨?_, tup_can fun x hx => ?_⟩
  · have a := thL_of5 (e := 134) (b := 24) (k := 1) (xs := ps) (f := prD) fun t ht => by
      obtain ⟨p1, p2⟩ := hp t ht
      have q1 : Th 10 11 0 (.int (t.1 : Nat)) := th_int (by rw [Int.natAbs_natCast]; omega)
      have q2 : Th 10 11 0 (.int (t.2 : Nat)) := th_int (by rw [Int.natAbs_natCast]; omega)
      exact (th_tuple (thL_cons q1 (thL_one q2))).up (by decide) (by decide) (Nat.le_refl _)
    exact th_tuple (a.up (Nat.le_refl _) (by omega) (Nat.le_refl _))
  · obtain ⟨p, _, rfl⟩ := List.mem_map.mp hx
    rfl
theorem tc_ws {n e : Nat} (hn : n ≤ 4) (he : e ≤ 134) {w : Nat → Rat} (hw : ∀ i, i < n → Sz e (w i)) : Tc 134 (4 * (2 * e + 5)) 2 (.tuple (wsD n w)) := by
  refine ⟨?_, tup_can fun x hx => ?_⟩
  · have a := thL_of5 (e := 134) (b := 2 * e + 4) (k := 1) (xs := List.range n) (f := fun i => enc (w i)) fun t ht => ((th_enc (hw t (List.mem_range.mp ht))).up he (Nat.le_refl _) (Nat.le_refl _))
    rw [List.length_range] at a
    exact th_tuple (a.up (Nat.le_refl _) (Nat.mul_le_mul_right _ hn) (Nat.le_refl _))
  · obtain ⟨i, _, rfl⟩ := List.mem_map.mp hx
    rfl
theorem tc_nat {a : Nat} (h : a < 1000) {k : Nat} : Tc 134 11 k (.int (a : Nat)) := ⟨(th_int (e := 10) (by rw [Int.natAbs_natCast]; omega)).up (by decide) (Nat.le_refl _) (Nat.zero_le _), rfl⟩
theorem tc_share {n h e b1 : Nat} {w : Nat → Rat} {x y : PyData} (hh : h < 1000) (hx : Tc 134 e 2 x) (hy : Tc 134 b1 2 y) : Tc 134 (e + b1 + 25) 3 (.tuple [.str (Str.ofString "share"), .int (h : Nat), x, y]) := by
  refine ⟨(th_tuple (thL_cons (tc_word ws_share can_share).th (thL_cons (tc_nat hh).th (thL_cons hx.th (thL_one hy.th))))).up (Nat.le_refl _) (by omega) (Nat.le_refl _), tup_can fun d hd => ?_⟩
  simp only [List.mem_cons, List.not_mem_nil, or_false] at hd
  rcases hd with rfl | rfl | rfl | rfl
  · exact can_share
  · rfl
  · exact hx.c
  · exact hy.c
/-- a right share paper -/
structure SharePw (ks : List (List Tri)) (W : Nat) (h : Nat) (ps : List (Nat × Nat)) : Prop where
  hh : h < ks.length
  led : ∀ k, k < ks.length → Led ks.length (pk ks) k h
  wo : WaysOk ks.length (pk ks) h ps
  len : ps.length + 1 = ks.length
theorem SharePw.vS {ps : List (Nat × Nat)} (hk : KsOk W ks) (hW : W ≤ 2 ^ 31) (hf : ∀ k ∈ ks, fullK k) (s : SharePw ks W h ps) : vS ks.length (pk ks) h (twW ks.length (pk ks)) ps = none := by
  have w := pw_of hk hW
  have c := chn_of hk hf
  have sp := twS_pos w s.hh s.led
  unfold Fp.vS vW
  rw [if_pos (twW_sum (by grind)), List.find?_eq_none.mpr fun k hk2 => by
    rw [List.mem_range] at hk2
    unfold statB
    rw [twW_stat w.n1 w.n4 c k hk2]
    simp]
  exact full_ways s.hh s.wo s.len
theorem SharePw.tc {ps : List (Nat × Nat)} (hk : KsOk W ks) (hW : W ≤ 2 ^ 31) (s : SharePw ks W h ps) : Tc 134 565 3 (shareD ks.length h (twW ks.length (pk ks)) ps) := by
  have w := pw_of hk hW
  have n4 := hk.n4
  obtain ⟨V, o⟩ := own_of hk
  have sp := twS_pos w s.hh s.led
  have hl := s.len
  have hh := s.hh
  exact (tc_share (n := 0) (w := fun _ => 0) (by omega) (tc_ws (e := 40) n4 (by decide) fun i hi => (twW_sz w o (by grind) hi).1) (tc_prs n4 s.wo.lt (by omega))).up (Nat.le_refl _) (by decide) (Nat.le_refl _)
theorem SharePw.sh {ps : List (Nat × Nat)} (hk : KsOk W ks) (s : SharePw ks W h ps) {w : Nat → Rat} : shB ks.length (shareD ks.length h w ps) = true := by
  have n4 := hk.n4
  have hl := s.len
  have hh := s.hh
  show (decide (Str.ofString "share" = Str.ofString "share") && (plB ks.length (.int (h : Nat)) && (wsB ks.length (.tuple (wsD ks.length w)) && ypB ks.length (.tuple (ps.map prD))))) = true
  have e1 : plB ks.length (.int (h : Nat)) = true := by
    show decide (0 ≤ ((h : Nat) : Int) ∧ ((h : Nat) : Int) < ks.length) = true
    rw [decide_eq_true_eq]
    omega
  have e2 : wsB ks.length (.tuple (wsD ks.length w)) = true := by
    show (decide ((wsD ks.length w).length = ks.length) && (wsD ks.length w).all isr) = true
    rw [decide_eq_true (by unfold wsD; rw [List.length_map, List.length_range]), Bool.true_and, List.all_eq_true]
    intro x hx
    obtain ⟨i, _, rfl⟩ := List.mem_map.mp hx
    exact isr_of _
  have e3 : ypB ks.length (.tuple (ps.map prD)) = true := by
    show (decide ((ps.map prD).length ≤ 3) && (ps.map prD).all (prB ks.length)) = true
    rw [decide_eq_true (by rw [List.length_map]; omega), Bool.true_and, List.all_eq_true]
    intro x hx
    obtain ⟨p, hp, rfl⟩ := List.mem_map.mp hx
    obtain ⟨p1, p2⟩ := s.wo.lt p hp
    show (decide (0 ≤ ((p.1 : Nat) : Int) ∧ ((p.1 : Nat) : Int) < ks.length) && decide (0 ≤ ((p.2 : Nat) : Int) ∧ ((p.2 : Nat) : Int) < ks.length)) = true
    rw [decide_eq_true (by omega), decide_eq_true (by omega)]
    rfl
  rw [e1, e2, e3, decide_eq_true rfl]
  rfl
/-- the right share paper is let by -/
theorem SharePw.told {ps : List (Nat × Nat)} (hk : KsOk W ks) (hW : W ≤ 2 ^ 31) (hf : ∀ k ∈ ks, fullK k) (s : SharePw ks W h ps) : F_q_told_v4 [.dat (kindsD ks), .dat (shareD ks.length h (twW ks.length (pk ks)) ps)] f = .ok (.own [.str "share"]) f := by
  have t := s.tc hk hW
  have r := rw_of hk hW t.th (by decide)
  have n4 := hk.n4
  have hl := s.len
  have := told_v4 (f := f) fun g => lets_S (f := g) hk hW t.th (by decide) (s.sh hk) r s.hh s.wo.lt (by omega)
  rw [s.vS hk hW hf] at this
  exact this
theorem pair_told (hk : KsOk W ks) (hW : W ≤ 2 ^ 31) {p : List Nat × List Nat} (hp : p ∈ pairsC (closL ks.length (pk ks))) : F_q_told_v4 [.dat (kindsD ks), .dat (pairD p)] f = .ok (.own [.str "apart"]) f := by
  obtain ⟨sA, sB, pn⟩ := pair_vA hk.n4 hp
  have tp := tc_apart hk.n4 sA sB
  have t2 := told_v4 (d := pairD p) (K := kindsD ks) (f := f) (word := "apart") (v := vA ks.length (pk ks) p.1 p.2) fun g => lets_A hk hW tp (by decide) (by decide) (apB_sets sA sB) sA.lt sB.lt
  rw [pn] at t2
  exact t2
end
section
variable {n : Nat}
end
end Fp
namespace Fp
open PySem PySem.Spec L2 Dn
/-- all that a kind leads to, it first -/
structure RchOk (n : Nat) (P : Nat → Nat → Rat) (i : Nat) (l : List Nat) : Prop where
  nd : l.Nodup
  hd : l[0]? = some i
  mem : ∀ k, k ∈ l ↔ Led n P i k
theorem RchOk.lt {n : Nat} {P : Nat → Nat → Rat} {i : Nat} {l : List Nat} (h : RchOk n P i l) : ∀ k ∈ l, k < n := fun k hk => ((h.mem k).mp hk).lt2
section
variable {n h : Nat} {P : Nat → Nat → Rat} {f : Feed}
theorem reached_ok (hn : n ≤ 4) {s : Nat} (hs : s < n) : ∃ l, F_reached [.dat (rowsP n P), .dat (.int (s : Nat))] f = .ok (.own (natsD l)) f ∧ RchOk n P s l := by
  suffices hE : Ev (F_reached [.dat (rowsP n P), .dat (.int (s : Nat))] f) fun rv g => g = f ∧ ∃ l, rv = .own (natsD l) ∧ RchOk n P s l by
    obtain ⟨rv, g, e, rfl, l, rfl, hl⟩ := hE
    exact ⟨l, e, hl⟩
  rw [u_reached, ev_dEnd]
  unfold S_reached
  refine ev_step (fun ρ g => g = f ∧ ρ = [.dat (rowsP n P), .dat (.int (s : Nat)), .own (natsD [s]), .emp, .emp, .emp]) (by simp [natsD]) ?_
  rintro _ f ⟨rfl, rfl⟩
  refine ev_step (fun ρ g => g = f ∧ ρ = [.dat (rowsP n P), .dat (.int (s : Nat)), .own (natsD [s]), .dat (.int ((0 : Nat) : Int)), .emp, .emp]) (by simp) ?_
  rintro _ f ⟨rfl, rfl⟩
  refine ev_stp (fun ρ g => g = f ∧ ∃ l, RchOk n P s l ∧ ∃ s3 s4 s5 : Slot, ρ = [.dat (rowsP n P), .dat (.int (s : Nat)), .own (natsD l), s3, s4, s5]) ?_ ?_
  · intro Q' hQ
    refine ev_while (I := fun m ρ g => g = f ∧ ∃ (l : List Nat) (a : Nat) (s4 s5 : Slot), m + a = n + 1 ∧ a ≤ l.length ∧ l.Nodup ∧ l[0]? = some s ∧ (∀ k ∈ l, Led n P s k) ∧ (∀ x ∈ l.take a, ∀ k, k < n → P x k ≠ 0 → k ∈ l) ∧ ρ = [.dat (rowsP n P), .dat (.int (s : Nat)), .own (natsD l), .dat (.int (a : Nat)), s4, s5]) ?_ (n := n + 1) ⟨rfl, [s], 0, .emp, .emp, rfl, Nat.zero_le _, by simp, rfl, fun k hk => by rw [List.mem_singleton.mp hk]; exact .refl s hs, fun x hx => (by simp at hx), rfl⟩
    rintro m ρ g ⟨rfl, l, a, s4, s5, ma, al, nd, hd, led, clo, rfl⟩
    have ll := nodup_lt nd fun x hx => (led x hx).lt2
    have lN : (natsD l).length = l.length := by unfold natsD; rw [List.length_map]
    by_cases c : a < l.length
    · have cI : (a : Int) < (l.length : Int) := by omega
      have tst : (cT (cBin oLt (cVar 3) (cUn oLen (cVar 2)))) [.dat (rowsP n P), .dat (.int (s : Nat)), .own (natsD l), .dat (.int (a : Nat)), s4, s5] g = .ok true g := by
        simp [lN, c]
      rw [tst]
      refine Ev.of rfl ⟨fun _ => ?_, fun z => by cases z⟩
      obtain ⟨x, hx⟩ : ∃ x, x = l[a] := ⟨_, rfl⟩
      have xm : x ∈ l := hx ▸ List.getElem_mem c
      have xn := (led x xm).lt2
      refine ev_stp (fun ρ f => f = g ∧ ∃ (l2 : List Nat) (s4 s5 : Slot), (∃ r, l2 = l ++ r) ∧ l2.Nodup ∧ (∀ k ∈ l2, Led n P s k) ∧ (∀ k, k < n → P x k ≠ 0 → k ∈ l2) ∧ ρ = [.dat (rowsP n P), .dat (.int (s : Nat)), .own (natsD l2), .dat (.int (a : Nat)), s4, s5]) ?_ ?_
      · intro Q2 hQ2
        have ix1 : oIx (.list (natsD l)) (.int (a : Nat)) = some (.dat (.int (x : Nat))) := by
          rw [e_ix_list, Dn.atI_nat]
          unfold natsD
          rw [List.getElem?_map, List.getElem?_eq_getElem c, ← hx]
          rfl
        have ix2 := ixR (P := P) xn
        have sq : seqOf (rwP n P x) = some ((List.range n).map fun j => enc (P x j)) := rfl
        have pr := pairs_range (n := n) (g := fun j => enc (P x j))
        rw [e_for]
        have it : (iEnum (cBin oIx (cVar 0) (cBin oIx (cVar 2) (cVar 3)))) [.dat (rowsP n P), .dat (.int (s : Nat)), .own (natsD l), .dat (.int (a : Nat)), s4, s5] g = .ok ((List.range n).map fun k => .tuple [.int (k : Nat), enc (P x k)]) g := by
          generalize rowsP n P = R at *
          generalize rwP n P x = rr at *
          generalize natsD l = T at *
          generalize ((List.range n).map fun k => PyData.tuple [.int (k : Nat), enc (P x k)]) = L at *
          generalize ((List.range n).map fun j => enc (P x j)) = L2 at *
          simp [-e_ix_list, ix1, ix2, sq, pr]
        rw [it]
        rw [ev_bind]
        refine Ev.of rfl ?_
        refine ev_for (I := fun i ρ f => f = g ∧ ∃ (l2 : List Nat) (s4 s5 : Slot), (∃ r, l2 = l ++ r) ∧ l2.Nodup ∧ (∀ k ∈ l2, Led n P s k) ∧ (∀ k, k < i → P x k ≠ 0 → k ∈ l2) ∧ ρ = [.dat (rowsP n P), .dat (.int (s : Nat)), .own (natsD l2), .dat (.int (a : Nat)), s4, s5]) ⟨rfl, l, s4, s5, ⟨[], by simp⟩, nd, led, fun k hk => by omega, rfl⟩ ?_ ?_
        · rintro i d ρ f hd ⟨rfl, l2, s4, s5, ⟨r, hr⟩, nd2, led2, clo2, rfl⟩
          have hi : i < n := by
            have := (List.getElem?_eq_some_iff.mp hd).1
            rwa [List.length_map, List.length_range] at this
          have ed : d = .tuple [.int (i : Nat), enc (P x i)] := by
            rw [List.getElem?_map, List.getElem?_range hi] at hd
            exact (Option.some.inj hd).symm
          subst ed
          refine ⟨_, put_two5, ?_⟩
          simp only [List.set_cons_succ, List.set_cons_zero]
          have ll2 := nodup_lt nd2 fun x hx => (led2 x hx).lt2
          have lN2 : (natsD l2).length < 100000 := by unfold natsD; rw [List.length_map]; omega
          have nn := ne_enc0 (x := P x i)
          have nn : oNe (enc (P x i)) d_NOUGHT = some (.dat (.bool (!decide (P x i = 0)))) := nn
          have i2 := inNs (neg := true) (a := i) (A := l2)
          rw [Bool.true_xor] at i2
          by_cases z : P x i = 0
          · rw [decide_eq_true z] at nn
            refine ⟨.nx [.dat (rowsP n P), .dat (.int (s : Nat)), .own (natsD l2), .dat (.int (a : Nat)), .dat (.int (i : Nat)), .dat (enc (P x i))], f, ?_, rfl, l2, _, _, ⟨r, hr⟩, nd2, led2, fun k hk pk => ?_, rfl⟩
            · generalize rowsP n P = R at *
              generalize natsD l2 = T at *
              generalize enc (P x i) = y at *
              simp [nn]
            · rcases Nat.lt_or_eq_of_le (Nat.le_of_lt_succ hk) with q | rfl
              · exact clo2 k q pk
              · exact absurd z pk
          · rw [decide_eq_false z] at nn
            by_cases m2 : i ∈ l2
            · rw [decide_eq_true m2] at i2
              refine ⟨.nx [.dat (rowsP n P), .dat (.int (s : Nat)), .own (natsD l2), .dat (.int (a : Nat)), .dat (.int (i : Nat)), .dat (enc (P x i))], f, ?_, rfl, l2, _, _, ⟨r, hr⟩, nd2, led2, fun k hk pk => ?_, rfl⟩
              · generalize rowsP n P = R at *
                generalize natsD l2 = T at *
                generalize enc (P x i) = y at *
                simp [nn, i2]
              · rcases Nat.lt_or_eq_of_le (Nat.le_of_lt_succ hk) with q | rfl
                · exact clo2 k q pk
                · exact m2
            · rw [decide_eq_false m2] at i2
              refine ⟨.nx [.dat (rowsP n P), .dat (.int (s : Nat)), .own (natsD (l2 ++ [i])), .dat (.int (a : Nat)), .dat (.int (i : Nat)), .dat (enc (P x i))], f, ?_, rfl, l2 ++ [i], _, _, ⟨r ++ [i], by rw [hr, List.append_assoc]⟩, ?_, fun k hk => ?_, fun k hk pk => ?_, rfl⟩
              · have ap : natsD l2 ++ [.int (i : Nat)] = natsD (l2 ++ [i]) := by unfold natsD; rw [List.map_append]; rfl
                generalize rowsP n P = R at *
                generalize natsD (l2 ++ [i]) = T2 at *
                generalize natsD l2 = T at *
                generalize enc (P x i) = y at *
                simp [nn, i2, lN2, ap]
              · refine List.nodup_append.mpr ⟨nd2, by simp, fun u hu v hv => ?_⟩
                rw [List.mem_singleton.mp hv]
                exact fun q => m2 (q ▸ hu)
              · rcases List.mem_append.mp hk with hk | hk
                · exact led2 k hk
                · rw [List.mem_singleton.mp hk]
                  exact (led x xm).trans (Led.one x i xn hi z)
              · rcases Nat.lt_or_eq_of_le (Nat.le_of_lt_succ hk) with q | rfl
                · exact List.mem_append_left _ (clo2 k q pk)
                · simp
        · rintro ρ f ⟨rfl, l2, s4, s5, hr, nd2, led2, clo2, rfl⟩
          rw [List.length_map, List.length_range] at clo2
          exact ⟨_, rfl, hQ2 _ _ ⟨rfl, l2, s4, s5, hr, nd2, led2, clo2, rfl⟩⟩
      rintro _ g ⟨rfl, l2, s4, s5, ⟨r, hr⟩, nd2, led2, clo2, rfl⟩
      have ll2 := nodup_lt nd2 fun x hx => (led2 x hx).lt2
      have l12 : l.length ≤ l2.length := by rw [hr, List.length_append]; omega
      refine ⟨.nx [.dat (rowsP n P), .dat (.int (s : Nat)), .own (natsD l2), .dat (.int ((a + 1 : Nat) : Int)), s4, s5], g, by simp, m - 1, by omega, rfl, l2, a + 1, s4, s5, by omega, by omega, nd2, ?_, led2, fun y hy k hk py => ?_, rfl⟩
      · rw [hr, List.getElem?_append_left (by omega)]
        exact hd
      · have tk : l2.take (a + 1) = l.take a ++ [x] := by
          rw [hr, List.take_append_of_le_length (by omega), List.take_succ, List.getElem?_eq_getElem c, ← hx]
          rfl
        rw [tk] at hy
        rcases List.mem_append.mp hy with hy | hy
        · have := clo y hy k hk py
          rw [hr]
          exact List.mem_append_left _ this
        · rw [List.mem_singleton.mp hy] at py
          exact clo2 k hk py
    · have e : a = l.length := by omega
      have tst : (cT (cBin oLt (cVar 3) (cUn oLen (cVar 2)))) [.dat (rowsP n P), .dat (.int (s : Nat)), .own (natsD l), .dat (.int (a : Nat)), s4, s5] g = .ok false g := by
        simp [lN, c]
      rw [tst]
      refine Ev.of rfl ⟨(fun z => by cases z), fun _ => ⟨_, rfl, hQ _ _ ⟨rfl, l, ⟨nd, hd, fun k => ⟨led k, fun hk => ?_⟩⟩, _, _, _, rfl⟩⟩⟩
      rw [e, List.take_length] at clo
      exact led_in (S := l) (fun x hx k hk px => clo x hx k hk px) hk (List.mem_of_getElem? hd)
  rintro _ g ⟨rfl, l, hl, s3, s4, s5, rfl⟩
  exact ⟨.rt (.lent 2 (natsD l)), g, by simp, rfl, l, rfl, hl⟩
end
end Fp
namespace Fp
open PySem PySem.Spec L2 Dn
section
variable {n h : Nat} {P : Nat → Nat → Rat} {f : Feed}
theorem ways_home_ok (hn : n ≤ 4) (hh : h < n) (hl : ∀ k, k < n → Led n P k h) : ∃ ps, F_ways_home [.dat (rowsP n P), .dat (.int (h : Nat))] f = .ok (.dat (.tuple (ps.map prD))) f ∧ WaysOk n P h ps ∧ ps.length + 1 = n := by
  suffices hE : Ev (F_ways_home [.dat (rowsP n P), .dat (.int (h : Nat))] f) fun rv g => g = f ∧ ∃ ps, rv = .dat (.tuple (ps.map prD)) ∧ WaysOk n P h ps ∧ ps.length + 1 = n by
    obtain ⟨rv, g, e, rfl, l, rfl, hl⟩ := hE
    exact ⟨l, e, hl⟩
  have e0 := lenR (n := n) (P := P)
  rw [u_ways_home, ev_dEnd]
  unfold S_ways_home
  refine ev_step (fun ρ g => g = f ∧ ρ = [.dat (rowsP n P), .dat (.int (h : Nat)), .own (natsD [h]), .emp, .emp, .emp]) (by simp [natsD]) ?_
  rintro _ f ⟨rfl, rfl⟩
  refine ev_step (fun ρ g => g = f ∧ ρ = [.dat (rowsP n P), .dat (.int (h : Nat)), .own (natsD [h]), .own [], .emp, .emp]) (by simp) ?_
  rintro _ f ⟨rfl, rfl⟩
  refine ev_step (fun ρ g => g = f ∧ ρ = [.dat (rowsP n P), .dat (.int (h : Nat)), .own (natsD [h]), .own [], .dat (.int ((0 : Nat) : Int)), .emp]) (by simp) ?_
  rintro _ f ⟨rfl, rfl⟩
  refine ev_stp (fun ρ g => g = f ∧ ∃ ps, WaysOk n P h ps ∧ ps.length + 1 = n ∧ ∃ s2 s4 s5 : Slot, ρ = [.dat (rowsP n P), .dat (.int (h : Nat)), s2, .own (ps.map prD), s4, s5]) ?_ ?_
  · intro Q' hQ
    refine ev_while (I := fun m ρ g => g = f ∧ ∃ (ps : List (Nat × Nat)) (a : Nat) (s5 : Slot), m + a = n + 1 ∧ a ≤ ps.length + 1 ∧ WaysOk n P h ps ∧ (∀ x ∈ (h :: ps.map (·.1)).take a, ∀ k, k < n → P k x ≠ 0 → k ∈ h :: ps.map (·.1)) ∧ ρ = [.dat (rowsP n P), .dat (.int (h : Nat)), .own (natsD (h :: ps.map (·.1))), .own (ps.map prD), .dat (.int (a : Nat)), s5]) ?_ (n := n + 1) ⟨rfl, [], 0, .emp, rfl, Nat.zero_le _, WaysOk.nil hh, fun x hx => (by simp at hx), rfl⟩
    rintro m ρ g ⟨rfl, ps, a, s5, ma, al, wo, clo, rfl⟩
    have ll := wo.len hh
    have ledlen : (h :: ps.map (·.1)).length = ps.length + 1 := by rw [List.length_cons, List.length_map]
    have lN : (natsD (h :: ps.map (·.1))).length = ps.length + 1 := by unfold natsD; rw [List.length_map, ledlen]
    by_cases c : a < ps.length + 1
    · have cI : (a : Int) < ((ps.length : Nat) : Int) + 1 := by omega
      have tst : (cT (cBin oLt (cVar 4) (cUn oLen (cVar 2)))) [.dat (rowsP n P), .dat (.int (h : Nat)), .own (natsD (h :: ps.map (·.1))), .own (ps.map prD), .dat (.int (a : Nat)), s5] g = .ok true g := by
        generalize natsD (h :: ps.map (·.1)) = T at *
        simp [lN, cI]
      rw [tst]
      refine Ev.of rfl ⟨fun _ => ?_, fun z => by cases z⟩
      have ca : a < (h :: ps.map (·.1)).length := by omega
      obtain ⟨x, hx⟩ : ∃ x, x = (h :: ps.map (·.1))[a] := ⟨_, rfl⟩
      have xm : x ∈ h :: ps.map (·.1) := hx ▸ List.getElem_mem ca
      have xn : x < n := by
        rcases List.mem_cons.mp xm with e | e
        · rw [e]; exact hh
        · obtain ⟨p, hp, e⟩ := List.mem_map.mp e
          rw [← e]
          exact (wo.lt p hp).1
      refine ev_stp (fun ρ f => f = g ∧ ∃ (qs : List (Nat × Nat)) (s5 : Slot), (∃ r, qs = ps ++ r) ∧ WaysOk n P h qs ∧ (∀ k, k < n → P k x ≠ 0 → k ∈ h :: qs.map (·.1)) ∧ ρ = [.dat (rowsP n P), .dat (.int (h : Nat)), .own (natsD (h :: qs.map (·.1))), .own (qs.map prD), .dat (.int (a : Nat)), s5]) ?_ ?_
      · intro Q2 hQ2
        rw [e_for]
        have it : (iRange1 (cUn oLen (cVar 0))) [.dat (rowsP n P), .dat (.int (h : Nat)), .own (natsD (h :: ps.map (·.1))), .own (ps.map prD), .dat (.int (a : Nat)), s5] g = .ok (rangeD 0 n) g := by
          generalize rowsP n P = R at *
          generalize natsD (h :: ps.map (·.1)) = T at *
          simp [e0, smallI_ok (n := (n : Int)) (by omega) (by omega)]
        rw [it, ev_bind]
        refine Ev.of rfl ?_
        refine ev_for (I := fun i ρ f => f = g ∧ ∃ (qs : List (Nat × Nat)) (s5 : Slot), (∃ r, qs = ps ++ r) ∧ WaysOk n P h qs ∧ (∀ k, k < i → P k x ≠ 0 → k ∈ h :: qs.map (·.1)) ∧ ρ = [.dat (rowsP n P), .dat (.int (h : Nat)), .own (natsD (h :: qs.map (·.1))), .own (qs.map prD), .dat (.int (a : Nat)), s5]) ⟨rfl, ps, s5, ⟨[], by simp⟩, wo, fun k hk => by omega, rfl⟩ ?_ ?_
        · rintro i d ρ f hd ⟨rfl, qs, s5, ⟨r, hr⟩, wo2, clo2, rfl⟩
          obtain ⟨rfl, hi⟩ := range_at hd
          refine ⟨_, rfl, ?_⟩
          simp only [List.set_cons_succ, List.set_cons_zero, Int.zero_add]
          have ll2 := wo2.len hh
          have xa : (h :: qs.map (·.1))[a]? = some x := by
            rw [hr, List.map_append, ← List.cons_append, List.getElem?_append_left ca, List.getElem?_eq_getElem ca, ← hx]
          have xm2 : x ∈ h :: qs.map (·.1) := List.mem_of_getElem? xa
          have ix1 : oIx (.list (natsD (h :: qs.map (·.1)))) (.int (a : Nat)) = some (.dat (.int (x : Nat))) := by
            rw [e_ix_list, Dn.atI_nat]
            unfold natsD
            rw [List.getElem?_map, xa]
            rfl
          have ix2 := ixR (P := P) hi
          have ix3 := ixC (P := P) (i := i) xn
          have lN2 : (natsD (h :: qs.map (·.1))).length < 100000 := by unfold natsD; rw [List.length_map, List.length_cons, List.length_map]; omega
          have lQ : (qs.map prD).length < 100000 := by rw [List.length_map]; omega
          have nn := ne_enc0 (x := P i x)
          have nn : oNe (enc (P i x)) d_NOUGHT = some (.dat (.bool (!decide (P i x = 0)))) := nn
          have i2 := inNs (neg := true) (a := i) (A := h :: qs.map (·.1))
          rw [Bool.true_xor] at i2
          by_cases m2 : i ∈ h :: qs.map (·.1)
          · rw [decide_eq_true m2] at i2
            refine ⟨.nx [.dat (rowsP n P), .dat (.int (h : Nat)), .own (natsD (h :: qs.map (·.1))), .own (qs.map prD), .dat (.int (a : Nat)), .dat (.int (i : Nat))], f, ?_, rfl, qs, _, ⟨r, hr⟩, wo2, fun k hk pk => ?_, rfl⟩
            · generalize rowsP n P = R at *
              generalize natsD (h :: qs.map (·.1)) = T at *
              simp [i2]
            · rcases Nat.lt_or_eq_of_le (Nat.le_of_lt_succ hk) with q | rfl
              · exact clo2 k q pk
              · exact m2
          · rw [decide_eq_false m2] at i2
            by_cases z : P i x = 0
            · rw [decide_eq_true z] at nn
              refine ⟨.nx [.dat (rowsP n P), .dat (.int (h : Nat)), .own (natsD (h :: qs.map (·.1))), .own (qs.map prD), .dat (.int (a : Nat)), .dat (.int (i : Nat))], f, ?_, rfl, qs, _, ⟨r, hr⟩, wo2, fun k hk pk => ?_, rfl⟩
              · generalize rowsP n P = R at *
                generalize rwP n P i = rr at *
                generalize natsD (h :: qs.map (·.1)) = T at *
                generalize enc (P i x) = y at *
                simp [-e_ix_list, i2, ix1, ix2, ix3, nn]
              · rcases Nat.lt_or_eq_of_le (Nat.le_of_lt_succ hk) with q | rfl
                · exact clo2 k q pk
                · exact absurd z pk
            · rw [decide_eq_false z] at nn
              have wo3 : WaysOk n P h (qs ++ [(i, x)]) := wo2.snoc hi xn m2 xm2 z
              have e1 : h :: (qs ++ [(i, x)]).map (·.1) = (h :: qs.map (·.1)) ++ [i] := by simp
              refine ⟨.nx [.dat (rowsP n P), .dat (.int (h : Nat)), .own (natsD (h :: (qs ++ [(i, x)]).map (·.1))), .own ((qs ++ [(i, x)]).map prD), .dat (.int (a : Nat)), .dat (.int (i : Nat))], f, ?_, rfl, qs ++ [(i, x)], _, ⟨r ++ [(i, x)], by rw [hr, List.append_assoc]⟩, wo3, fun k hk pk => ?_, rfl⟩
              · have ap : natsD (h :: qs.map (·.1)) ++ [.int (i : Nat)] = natsD (h :: (qs ++ [(i, x)]).map (·.1)) := by rw [e1]; unfold natsD; rw [List.map_append]; rfl
                have ap2 : qs.map prD ++ [.tuple [.int (i : Nat), .int (x : Nat)]] = (qs ++ [(i, x)]).map prD := by rw [List.map_append]; rfl
                generalize natsD (h :: (qs ++ [(i, x)]).map (·.1)) = T2 at *
                generalize (qs ++ [(i, x)]).map prD = Q3 at *
                generalize rowsP n P = R at *
                generalize rwP n P i = rr at *
                generalize natsD (h :: qs.map (·.1)) = T at *
                generalize enc (P i x) = y at *
                generalize qs.map prD = QQ at *
                simp [-e_ix_list, i2, ix1, ix2, ix3, nn, lN2, lQ, ap, ap2]
              · rw [e1]
                rcases Nat.lt_or_eq_of_le (Nat.le_of_lt_succ hk) with q | rfl
                · exact List.mem_append_left _ (clo2 k q pk)
                · simp
        · rintro ρ f ⟨rfl, qs, s5, hr, wo2, clo2, rfl⟩
          rw [range_len] at clo2
          exact ⟨_, rfl, hQ2 _ _ ⟨rfl, qs, s5, hr, wo2, clo2, rfl⟩⟩
      rintro _ g ⟨rfl, qs, s5, ⟨r, hr⟩, wo2, clo2, rfl⟩
      have ll2 := wo2.len hh
      have l12 : ps.length ≤ qs.length := by rw [hr, List.length_append]; omega
      refine ⟨.nx [.dat (rowsP n P), .dat (.int (h : Nat)), .own (natsD (h :: qs.map (·.1))), .own (qs.map prD), .dat (.int ((a + 1 : Nat) : Int)), s5], g, by simp, m - 1, by omega, rfl, qs, a + 1, s5, by omega, by omega, wo2, fun y hy k hk py => ?_, rfl⟩
      have eq : h :: qs.map (·.1) = (h :: ps.map (·.1)) ++ r.map (·.1) := by rw [hr, List.map_append, List.cons_append]
      have tk : (h :: qs.map (·.1)).take (a + 1) = (h :: ps.map (·.1)).take a ++ [x] := by
        rw [eq, List.take_append_of_le_length (by omega), List.take_succ, List.getElem?_eq_getElem ca, ← hx]
        rfl
      rw [tk] at hy
      rcases List.mem_append.mp hy with hy | hy
      · have := clo y hy k hk py
        rw [eq]
        exact List.mem_append_left _ this
      · rw [List.mem_singleton.mp hy] at py
        exact clo2 k hk py
    · have e : a = ps.length + 1 := by omega
      have cI : ¬ (a : Int) < ((ps.length : Nat) : Int) + 1 := by omega
      have tst : (cT (cBin oLt (cVar 4) (cUn oLen (cVar 2)))) [.dat (rowsP n P), .dat (.int (h : Nat)), .own (natsD (h :: ps.map (·.1))), .own (ps.map prD), .dat (.int (a : Nat)), s5] g = .ok false g := by
        generalize natsD (h :: ps.map (·.1)) = T at *
        simp [lN, cI]
      rw [tst]
      refine Ev.of rfl ⟨(fun z => by cases z), fun _ => ⟨_, rfl, hQ _ _ ⟨rfl, ps, wo, ?_, _, _, _, rfl⟩⟩⟩
      rw [e, ← ledlen, List.take_length] at clo
      apply Classical.byContradiction
      intro q
      have : ∃ k, k < n ∧ k ∉ h :: ps.map (·.1) := by
        apply Classical.byContradiction
        intro z2
        have this := len_subN (List.nodup_range (n := n)) (m := h :: ps.map (·.1)) fun k hk => by
          apply Classical.byContradiction
          intro z3
          exact z2 ⟨k, List.mem_range.mp hk, z3⟩
        rw [List.length_range, ledlen] at this
        omega
      obtain ⟨k, hk, nk⟩ := this
      obtain ⟨u, v, hu, hv, nu, mv, hp⟩ := led_cross (hl k hk) (S := h :: ps.map (·.1)) (by simp) nk
      exact nu (clo v mv u hu hp)
  rintro _ g ⟨rfl, ps, wo, len, s2, s4, s5, rfl⟩
  refine ⟨.rt (.dat (.tuple (ps.map prD))), g, ?_, rfl, ps, rfl, wo, len⟩
  generalize ps.map prD = Q
  simp
/-- ratios added -/
theorem whole_of_q {n : Nat} {g : Nat → Rat} {d : PyData} (hd : seqOf d = some ((List.range n).map fun i => enc (g i))) (h1 : ∀ i, i ≤ n → Sz 4000 (rs i g)) (h2 : ∀ i, i < n → Sz 4000 (g i)) : F_whole_of [.dat d] f = .ok (.dat (enc (rs n g))) f := by
  apply ev_is
  rw [u_whole_of, ev_dEnd]
  unfold S_whole_of
  refine ev_step (fun ρ f2 => f2 = f ∧ ρ = [.dat d, .dat (enc (rs 0 g)), .emp]) (by
    have : enc (rs 0 g) = .tuple [.int 0, .int 1] := rfl
    rw [this]
    simp) ?_
  rintro _ f ⟨rfl, rfl⟩
  refine ev_step (fun ρ f2 => f2 = f ∧ ∃ s2 : Slot, ρ = [.dat d, .dat (enc (rs n g)), s2]) ?_ ?_
  · rw [e_for]
    have it : (iSeq (cVar 0)) [.dat d, .dat (enc (rs 0 g)), .emp] f = .ok ((List.range n).map fun i => enc (g i)) f := by
      generalize ((List.range n).map fun i => enc (g i)) = L at *
      simp [hd]
    rw [it, ev_bind]
    refine Ev.of rfl ?_
    refine ev_for (I := fun i ρ f2 => f2 = f ∧ ∃ s2 : Slot, ρ = [.dat d, .dat (enc (rs i g)), s2]) ⟨rfl, .emp, rfl⟩ ?_ ?_
    · rintro i x ρ f2 hx ⟨rfl, s2, rfl⟩
      have hi : i < n := by
        have := (List.getElem?_eq_some_iff.mp hx).1
        rwa [List.length_map, List.length_range] at this
      have ed : x = enc (g i) := by
        rw [List.getElem?_map, List.getElem?_range hi] at hx
        exact (Option.some.inj hx).symm
      subst ed
      refine ⟨_, rfl, ?_⟩
      have pl := plus_q (f := f2) (h1 i (by omega)) (h2 i hi) (Nat.le_refl _)
      rw [← rs_succ] at pl
      generalize enc (rs (i + 1) g) = y at *
      generalize enc (rs i g) = y1 at *
      generalize enc (g i) = y2 at *
      simp [pl]
    · rintro ρ f2 ⟨rfl, s2, rfl⟩
      rw [List.length_map, List.length_range]
      exact ⟨_, rfl, rfl, s2, rfl⟩
  rintro _ f ⟨rfl, s2, rfl⟩
  generalize enc (rs n g) = y
  simp
/-- each by all -/
theorem by_whole_q {n : Nat} {g : Nat → Rat} {d : PyData} (hl : n ≤ 100) (hd : seqOf d = some ((List.range n).map fun i => enc (g i))) (h1 : ∀ i, i ≤ n → Sz 4000 (rs i g)) (h2 : ∀ i, i < n → Sz 4000 (g i)) (hp : 0 < rs n g) : F_by_whole [.dat d] f = .ok (.dat (.tuple ((List.range n).map fun i => enc (g i / rs n g)))) f := by
  have wq := whole_of_q (f := f) hd h1 h2
  have lc : lcN (.one 2) cYes (cCall F_over [cVar 2, cVar 1]) [.dat d, .dat (enc (rs n g)), .emp] ((List.range n).map fun i => enc (g i)) [] f = .ok ((List.range n).map fun i => enc (g i / rs n g)) f := by
    refine lc_map (by rw [List.length_range]; omega) fun i hi => ⟨_, rfl, ?_⟩
    have o := over_q (f := f) (h2 i (List.mem_range.mp hi)) (h1 n (Nat.le_refl _)) hp
    generalize enc (g i / rs n g) = y at *
    generalize enc (g i) = y1 at *
    generalize enc (rs n g) = y2 at *
    simp [o]
  apply ev_is
  rw [u_by_whole, ev_dEnd]
  unfold S_by_whole
  generalize ((List.range n).map fun i => enc (g i)) = L at *
  generalize ((List.range n).map fun i => enc (g i / rs n g)) = L2 at *
  generalize enc (rs n g) = y at *
  simp [wq, hd, lc]
end
end Fp
namespace Fp
open PySem PySem.Spec L2 Dn
def brdD (N : Nat) (b : Brt) : List (List PyData) := (List.range N).map fun i => (List.range N).map fun j => enc (b i j)
def upB (b : Brt) (i j : Nat) (x : Rat) : Brt := fun r c => if r = i ∧ c = j then x else b r c
def rowB (m : Nat) (b : Brt) (i : Nat) : Brt := fun r k => if r < i then cutB m b r k else b r k
def stB (m : Nat) (b : Brt) (i c : Nat) : Brt := fun r k => if r < i then cutB m b r k else if r = i then (if k = m then cutB m b i m else if k < c then cutB m b i k else b i k) else b r k
section
variable {N m i j c : Nat} {b : Brt} {x : Rat}
theorem brd_at (h : i < N) : (brdD N b)[i]? = some ((List.range N).map fun j => enc (b i j)) := by
  unfold brdD
  rw [List.getElem?_map, List.getElem?_range h]
  rfl
theorem brow_at (h : j < N) : ((List.range N).map fun j => enc (b i j))[j]? = some (enc (b i j)) := by
  rw [List.getElem?_map, List.getElem?_range h]
  rfl
theorem map_setB {α : Type} {g : Nat → α} {N i : Nat} {y : α} (hi : i < N) : ((List.range N).map g).set i y = (List.range N).map fun r => if r = i then y else g r := by
  apply List.ext_getElem?
  intro k
  rw [List.getElem?_set, List.getElem?_map, List.length_map, List.length_range]
  by_cases e : i = k
  · subst e
    rw [if_pos rfl, if_pos hi, List.getElem?_map, List.getElem?_range hi]
    simp
  · rw [if_neg e, List.getElem?_map]
    cases q : (List.range N)[k]? with
    | none => rfl
    | some r =>
      have : r = k := by
        obtain ⟨h1, h2⟩ := List.getElem?_eq_some_iff.mp q
        rw [List.getElem_range] at h2
        exact h2.symm
      subst this
      simp
      exact fun z => absurd z.symm e
theorem brd_set (hi : i < N) (hj : j < N) : (brdD N b).set i (((List.range N).map fun j => enc (b i j)).set j (enc x)) = brdD N (upB b i j x) := by
  unfold brdD
  rw [map_setB hi]
  refine List.map_congr_left fun r hr => ?_
  by_cases e : r = i
  · subst e
    rw [if_pos rfl, put_row hj]
    refine List.map_congr_left fun c _ => ?_
    unfold upB
    by_cases e2 : c = j
    · rw [if_pos e2, if_pos ⟨rfl, e2⟩]
    · rw [if_neg e2, if_neg (fun z => e2 z.2)]
  · rw [if_neg e]
    refine List.map_congr_left fun c _ => ?_
    unfold upB
    rw [if_neg (fun z => e z.1)]
theorem cut_col (hi : i < m) : cutB m b i m = b i m / bkB m b := by
  unfold cutB
  rw [if_pos hi, if_neg (Nat.lt_irrefl m), if_pos rfl]
theorem cut_in (hi : i < m) (hc : c < m) : cutB m b i c = b i c + b i m / bkB m b * b m c := by
  unfold cutB
  rw [if_pos hi, if_pos hc]
theorem up_row (hi : i < m) : upB (rowB m b i) i m (b i m / bkB m b) = stB m b i 0 := by
  funext r k
  unfold upB rowB stB
  by_cases e : r = i
  · subst e
    by_cases e2 : k = m
    · subst e2
      simp [cut_col hi]
    · simp [e2]
  · simp [e]
theorem up_st (hi : i < m) (hc : c < m) : upB (stB m b i c) i c (b i c + b i m / bkB m b * b m c) = stB m b i (c + 1) := by
  funext r k
  unfold upB stB
  by_cases e : r = i
  · subst e
    by_cases e2 : k = c
    · subst e2
      have : k ≠ m := by omega
      simp [cut_in hi hc, this]
    · by_cases e3 : k = m
      · simp [e2, e3]
        intro z
        omega
      · have q : k < c + 1 ↔ k < c := by omega
        simp [e2, e3, q]
  · simp [e]
theorem st_row (hi : i < m) : stB m b i m = rowB m b (i + 1) := by
  funext r k
  unfold stB rowB
  by_cases e : r = i
  · subst e
    by_cases e2 : k = m
    · simp [e2]
    · by_cases e3 : k < m
      · simp [e2, e3]
      · simp [e2, e3]
        unfold cutB
        rw [if_pos hi, if_neg e3, if_neg e2]
  · have q : r < i + 1 ↔ r < i := by omega
    simp [e, q]
theorem rowB_0 : rowB m b 0 = b := by
  funext r k
  unfold rowB
  simp
theorem rowB_m : rowB m b m = cutB m b := by
  funext r k
  unfold rowB
  split
  · rfl
  · rename_i h
    unfold cutB
    rw [if_neg h]
/-- what may be reckoned with at a stage -/
structure BOk (m e : Nat) (b : Brt) : Prop where
  c : Chn (m + 1) b
  led : ∀ i, i < m + 1 → Led (m + 1) b i 0
  D : ∃ D, 0 < D ∧ D ≤ 2 ^ e ∧ ∀ i j, i ≤ m → j ≤ m → Wh D (b i j)
theorem BOk.le1 {e : Nat} (h : BOk m e b) (hi : i ≤ m) (hj : j ≤ m) : 0 ≤ b i j ∧ b i j ≤ 1 := by
  have nn := h.c.nn i
  have o := h.c.one i (by omega)
  refine ⟨nn j (by omega) (by omega), ?_⟩
  have := rs_ge1 (n := m + 1) (g := b i) (fun k hk => nn k (by omega) hk) j (by omega)
  rwa [o] at this
theorem BOk.sz {e : Nat} (h : BOk m e b) (hi : i ≤ m) (hj : j ≤ m) : Sz (e + 1) (b i j) := by
  obtain ⟨D, D0, D1, w⟩ := h.D
  obtain ⟨h0, h1⟩ := h.le1 hi hj
  exact sz01 D0 (w i j hi hj) h0 h1 (by rw [Nat.pow_succ]; omega)
theorem BOk.rsz {e : Nat} (h : BOk m e b) (hm : m ≤ 3) (hi : i ≤ m) (k : Nat) (hk : k ≤ m) : Sz (e + 3) (rs k (b i)) := by
  obtain ⟨D, D0, D1, w⟩ := h.D
  have a : Ab ((k * 1 : Nat) : Rat) (rs k (b i)) := rs_ab fun j hj => by
    obtain ⟨h0, h1⟩ := h.le1 hi (show j ≤ m by omega)
    simpa using ab_01 h0 h1
  refine ab_sz (B := 4) D0 (rs_wh fun j hj => w i j hi (by omega)) (a.up (Rat.natCast_le_natCast.mpr (by omega))) (by decide) ?_
  rw [Nat.pow_add]
  have : 0 < 2 ^ e := Nat.two_pow_pos e
  omega
theorem BOk.back {e : Nat} (h : BOk (m + 1) e b) : 0 < bkB (m + 1) b := back_pos h.c (h.led (m + 1) (by omega))
theorem BOk.q {e : Nat} (h : BOk (m + 1) e b) (hm : m ≤ 2) (hi : i ≤ m) : Sz (2 * e + 4) (b i (m + 1) / bkB (m + 1) b) := by
  have a := h.sz (i := i) (j := m + 1) (by omega) (Nat.le_refl _)
  have c := h.rsz (by omega) (Nat.le_refl (m + 1)) (m + 1) (Nat.le_refl _)
  exact (sz_div a c h.back).up (by omega)
theorem BOk.next {e : Nat} (h : BOk (m + 1) e b) : BOk m (2 * e) (cutB (m + 1) b) := by
  have hb := h.back
  refine ⟨cut_chn h.c hb, fun i hi => (led_cut h.c (h.led i (by omega)) rfl).1 hi hb, ?_⟩
  obtain ⟨D, D0, D1, w⟩ := h.D
  have wb : Wh D (bkB (m + 1) b) := rs_wh fun j hj => w (m + 1) j (Nat.le_refl _) (by omega)
  obtain ⟨z, hz⟩ := wb
  have Dp : (0 : Rat) < D := Rat.natCast_pos.mpr D0
  have zp : (0 : Rat) < (z : Rat) := by rw [← hz]; exact Rat.mul_pos hb Dp
  have zp : 0 < z := by
    have : ((0 : Int) : Rat) < (z : Rat) := by simpa using zp
    exact Rat.intCast_lt_intCast.mp this
  obtain ⟨Z, rfl⟩ := Int.eq_ofNat_of_zero_le (Int.le_of_lt zp)
  have b1 : bkB (m + 1) b ≤ 1 := by
    have o := h.c.one (m + 1) (by omega)
    rw [rs_succ] at o
    have := (h.le1 (Nat.le_refl (m + 1)) (Nat.le_refl (m + 1))).1
    have e : rs (m + 1) (b (m + 1)) = bkB (m + 1) b := rfl
    grind
  have ZD : Z ≤ D := by
    have h1 : bkB (m + 1) b * (D : Rat) ≤ 1 * (D : Rat) := Rat.mul_le_mul_of_nonneg_right b1 (Rat.le_of_lt Dp)
    rw [hz, Rat.one_mul] at h1
    exact Rat.natCast_le_natCast.mp h1
  refine ⟨D * Z, Nat.mul_pos D0 (by omega), ?_, fun i j hi hj => ?_⟩
  · rw [show 2 * e = e + e by omega, Nat.pow_add]
    exact Nat.mul_le_mul D1 (Nat.le_trans ZD D1)
  · rw [cut_in (by omega) (by omega)]
    have w1 := w i j (by omega) (by omega)
    have w2 : Wh Z (b i (m + 1) / bkB (m + 1) b) := by
      obtain ⟨y, hy⟩ := w i (m + 1) (by omega) (Nat.le_refl _)
      refine ⟨y, ?_⟩
      have hZ : (Z : Rat) = bkB (m + 1) b * (D : Rat) := hz.symm
      have e3 : b i (m + 1) / bkB (m + 1) b * bkB (m + 1) b = b i (m + 1) := Rat.div_mul_cancel (by grind)
      rw [hZ, ← hy, ← Rat.mul_assoc, e3]
    have w3 := w (m + 1) j (Nat.le_refl _) (by omega)
    refine (w1.up (Nat.dvd_mul_right _ _)).add ?_
    rw [Nat.mul_comm D Z]
    exact w2.mul w3
end
end Fp
namespace Fp
open PySem PySem.Spec L2 Dn
/-- chances among some kinds -/
def subB (P : Nat → Nat → Rat) (l : List Nat) : Brt := fun i j => P (l.getD i 0) (l.getD j 0)
theorem getD_lt {l : List Nat} {i : Nat} (h : i < l.length) : l.getD i 0 ∈ l := by
  rw [List.getD_eq_getElem?_getD, List.getElem?_eq_getElem h]
  exact List.getElem_mem h
theorem map_natsD {l : List Nat} {α : Type} {g : Nat → α} : l.map g = (List.range l.length).map fun i => g (l.getD i 0) := by
  apply List.ext_getElem?
  intro i
  by_cases h : i < l.length
  · rw [List.getElem?_map, List.getElem?_map, List.getElem?_range h, List.getElem?_eq_getElem h]
    show some (g l[i]) = some (g (l.getD i 0))
    rw [List.getD_eq_getElem?_getD, List.getElem?_eq_getElem h]
    rfl
  · rw [List.getElem?_eq_none (by rw [List.length_map]; omega), List.getElem?_eq_none (by rw [List.length_map, List.length_range]; omega)]
/-- how long weights are -/
def SB (k : Nat) : Nat := [1, 300, 600, 1200].getD k 0
theorem SB_le {k : Nat} : SB k ≤ 1200 := by
  unfold SB
  match k with
  | 0 | 1 | 2 | 3 => decide
  | k + 4 => simp
section
variable {n N m M i j c e : Nat} {P : Nat → Nat → Rat} {b : Brt} {f : Feed} {l : List Nat}
/-- one kind is left out of the board -/
theorem cut_step (hm : m + 1 < N) (hN : N ≤ 4) (h : BOk (m + 1) e b) (he : e ≤ 250) {s0 s1 s3 s5 s6 s7 s8 s9 : Slot} :
    Ev ((sSeq (sSet 4 (cCall F_whole_of [cSl (cRow 2 (cVar 3)) none (some (cVar 3))])) (sFor (iRange1 (cVar 3)) (.one 5) (sSeq (sBPut 2 (cVar 5) (cVar 3) (cCall F_over [cBin oIx (cRow 2 (cVar 5)) (cVar 3), cVar 4])) (sFor (iRange1 (cVar 3)) (.one 6) (sBPut 2 (cVar 5) (cVar 6) (cCall F_plus [cBin oIx (cRow 2 (cVar 5)) (cVar 6), cCall F_times [cBin oIx (cRow 2 (cVar 5)) (cVar 3), cBin oIx (cRow 2 (cVar 3)) (cVar 6)]])))))) [s0, s1, .brd (brdD N b), .dat (.int ((m + 1 : Nat) : Int)), s3, s5, s6, s7, s8, s9] f) fun ctl g => g = f ∧ ∃ t4 t5 t6 : Slot, ctl = .nx [s0, s1, .brd (brdD N (cutB (m + 1) b)), .dat (.int ((m + 1 : Nat) : Int)), t4, t5, t6, s7, s8, s9] := by
  have hb := h.back
  have wq := whole_of_q (f := f) (n := m + 1) (g := b (m + 1)) (d := .list ((List.range (m + 1)).map fun k => enc (b (m + 1) k))) rfl (fun k hk => (h.rsz (by omega) (Nat.le_refl _) k hk).up (by omega)) (fun k hk => (h.sz (Nat.le_refl _) (by omega)).up (by omega))
  have wq : F_whole_of [.dat (.list ((List.range (m + 1)).map fun k => enc (b (m + 1) k)))] f = .ok (.dat (enc (bkB (m + 1) b))) f := wq
  have zbk : Sz 4000 (bkB (m + 1) b) := (h.rsz (by omega) (Nat.le_refl _) (m + 1) (Nat.le_refl _)).up (by omega)
  have rAt : ∀ (b : Brt) (i : Nat), i < N → atI (brdD N b) ((i : Nat) : Int) = some ((List.range N).map fun j => enc (b i j)) := fun b i hi => by rw [Dn.atI_nat, brd_at hi]
  have tk : cutD ((List.range N).map fun j => enc (b (m + 1) j)) none (some ((m + 1 : Nat) : Int)) = (List.range (m + 1)).map fun k => enc (b (m + 1) k) := by
    rw [cutD_take, ← List.map_take, List.take_range, Nat.min_eq_left (by omega)]
  refine ev_step (fun ρ g => g = f ∧ ρ = [s0, s1, .brd (brdD N b), .dat (.int ((m + 1 : Nat) : Int)), .dat (enc (bkB (m + 1) b)), s5, s6, s7, s8, s9]) ?_ ?_
  · have r1 := rAt b (m + 1) hm
    generalize brdD N b = B at *
    generalize ((List.range N).map fun j => enc (b (m + 1) j)) = R at *
    generalize ((List.range (m + 1)).map fun k => enc (b (m + 1) k)) = R2 at *
    generalize enc (bkB (m + 1) b) = y at *
    simp [-Dn.atI_nat, -Int.natCast_add, r1, tk, wq]
  rintro _ f ⟨rfl, rfl⟩
  rw [e_for]
  have it : (iRange1 (cVar 3)) [s0, s1, .brd (brdD N b), .dat (.int ((m + 1 : Nat) : Int)), .dat (enc (bkB (m + 1) b)), s5, s6, s7, s8, s9] f = .ok (rangeD 0 (m + 1)) f := by
    have tn : (((m + 1 : Nat) : Int)).toNat = m + 1 := by omega
    simp [-Int.natCast_add, smallI_ok (n := ((m + 1 : Nat) : Int)) (by omega) (by omega)]
  rw [it, ev_bind]
  refine Ev.of rfl ?_
  refine ev_for (I := fun i ρ g => g = f ∧ ∃ t5 t6 : Slot, ρ = [s0, s1, .brd (brdD N (rowB (m + 1) b i)), .dat (.int ((m + 1 : Nat) : Int)), .dat (enc (bkB (m + 1) b)), t5, t6, s7, s8, s9]) ⟨rfl, s5, s6, by rw [rowB_0]⟩ ?_ ?_
  · rintro i d ρ g hd ⟨rfl, t5, t6, rfl⟩
    obtain ⟨rfl, hi⟩ := range_at hd
    refine ⟨_, rfl, ?_⟩
    simp only [List.set_cons_succ, List.set_cons_zero, Int.zero_add]
    have bi : ∀ k, rowB (m + 1) b i i k = b i k := fun k => by unfold rowB; rw [if_neg (Nat.lt_irrefl i)]
    have zq : Sz (2 * e + 4) (b i (m + 1) / bkB (m + 1) b) := h.q (by omega) (by omega)
    refine ev_step (fun ρ f => f = g ∧ ρ = [s0, s1, .brd (brdD N (stB (m + 1) b i 0)), .dat (.int ((m + 1 : Nat) : Int)), .dat (enc (bkB (m + 1) b)), .dat (.int (i : Nat)), t6, s7, s8, s9]) ?_ ?_
    · have r1 := rAt (rowB (m + 1) b i) i (by omega)
      have r2 := brow_at (N := N) (b := rowB (m + 1) b i) (i := i) hm
      rw [bi (m + 1)] at r2
      have ov := over_q (f := g) ((h.sz (i := i) (j := m + 1) (by omega) (Nat.le_refl _)).up (by omega)) zbk hb
      have bs := brd_set (b := rowB (m + 1) b i) (x := b i (m + 1) / bkB (m + 1) b) (show i < N by omega) hm
      rw [up_row hi] at bs
      have ba := brd_at (b := rowB (m + 1) b i) (show i < N by omega)
      have ix1 : ixN (brdD N (rowB (m + 1) b i)).length ((i : Nat) : Int) = some i := by
        rw [ixN_nat]
        unfold brdD
        rw [List.length_map, List.length_range, if_pos (by omega)]
      have ix2 : ixN ((List.range N).map fun j => enc (rowB (m + 1) b i i j)).length (((m + 1 : Nat) : Int)) = some (m + 1) := by
        rw [ixN_nat, List.length_map, List.length_range, if_pos hm]
      have at2 : atI ((List.range N).map fun j => enc (rowB (m + 1) b i i j)) ((m + 1 : Nat) : Int) = some (enc (b i (m + 1))) := by rw [Dn.atI_nat, r2]
      generalize brdD N (stB (m + 1) b i 0) = B2 at *
      generalize brdD N (rowB (m + 1) b i) = B at *
      generalize ((List.range N).map fun j => enc (rowB (m + 1) b i i j)) = R at *
      generalize enc (bkB (m + 1) b) = y at *
      generalize enc (b i (m + 1) / bkB (m + 1) b) = y2 at *
      generalize enc (b i (m + 1)) = y3 at *
      simp [-Dn.atI_nat, -Dn.ixN_nat, -Int.natCast_add, r1, at2, ov, ix1, ix2, ba, bs]
    rintro _ g ⟨rfl, rfl⟩
    rw [e_for]
    have it : (iRange1 (cVar 3)) [s0, s1, .brd (brdD N (stB (m + 1) b i 0)), .dat (.int ((m + 1 : Nat) : Int)), .dat (enc (bkB (m + 1) b)), .dat (.int (i : Nat)), t6, s7, s8, s9] g = .ok (rangeD 0 (m + 1)) g := by
      have tn : (((m + 1 : Nat) : Int)).toNat = m + 1 := by omega
      simp [-Int.natCast_add, smallI_ok (n := ((m + 1 : Nat) : Int)) (by omega) (by omega)]
    rw [it, ev_bind]
    refine Ev.of rfl ?_
    refine ev_for (I := fun c ρ f => f = g ∧ ∃ t6 : Slot, ρ = [s0, s1, .brd (brdD N (stB (m + 1) b i c)), .dat (.int ((m + 1 : Nat) : Int)), .dat (enc (bkB (m + 1) b)), .dat (.int (i : Nat)), t6, s7, s8, s9]) ⟨rfl, t6, rfl⟩ ?_ ?_
    · rintro c d ρ f hd ⟨rfl, t6, rfl⟩
      obtain ⟨rfl, hc⟩ := range_at hd
      refine ⟨_, rfl, ?_⟩
      simp only [List.set_cons_succ, List.set_cons_zero, Int.zero_add]
      have c1 : stB (m + 1) b i c i (m + 1) = b i (m + 1) / bkB (m + 1) b := by
        unfold stB
        rw [if_neg (Nat.lt_irrefl i), if_pos rfl, if_pos rfl, cut_col hi]
      have c2 : stB (m + 1) b i c i c = b i c := by
        unfold stB
        rw [if_neg (Nat.lt_irrefl i), if_pos rfl, if_neg (by omega), if_neg (Nat.lt_irrefl c)]
      have c3 : stB (m + 1) b i c (m + 1) c = b (m + 1) c := by
        unfold stB
        rw [if_neg (by omega), if_neg (by omega)]
      have zb := (h.sz (i := m + 1) (j := c) (Nat.le_refl _) (by omega))
      have zi := (h.sz (i := i) (j := c) (by omega) (by omega))
      have tm := times_q (f := f) (zq.up (show 2 * e + 4 ≤ 4000 by omega)) (zb.up (by omega)) (Nat.le_refl _)
      have zp : Sz (3 * e + 5) (b i (m + 1) / bkB (m + 1) b * b (m + 1) c) := (Sz.mul zq zb).up (by omega)
      have pl := plus_q (f := f) (zi.up (show e + 1 ≤ 4000 by omega)) (zp.up (by omega)) (Nat.le_refl _)
      have r1 := rAt (stB (m + 1) b i c) i (by omega)
      have r2 := rAt (stB (m + 1) b i c) (m + 1) hm
      have a1 : atI ((List.range N).map fun j => enc (stB (m + 1) b i c i j)) ((m + 1 : Nat) : Int) = some (enc (b i (m + 1) / bkB (m + 1) b)) := by rw [Dn.atI_nat, brow_at hm, c1]
      have a2 : atI ((List.range N).map fun j => enc (stB (m + 1) b i c i j)) ((c : Nat) : Int) = some (enc (b i c)) := by rw [Dn.atI_nat, brow_at (by omega), c2]
      have a3 : atI ((List.range N).map fun j => enc (stB (m + 1) b i c (m + 1) j)) ((c : Nat) : Int) = some (enc (b (m + 1) c)) := by rw [Dn.atI_nat, brow_at (by omega), c3]
      have bs := brd_set (b := stB (m + 1) b i c) (x := b i c + b i (m + 1) / bkB (m + 1) b * b (m + 1) c) (show i < N by omega) (show c < N by omega)
      rw [up_st hi hc] at bs
      have ba := brd_at (b := stB (m + 1) b i c) (show i < N by omega)
      have ix1 : ixN (brdD N (stB (m + 1) b i c)).length ((i : Nat) : Int) = some i := by
        rw [ixN_nat]
        unfold brdD
        rw [List.length_map, List.length_range, if_pos (by omega)]
      have ix2 : ixN ((List.range N).map fun j => enc (stB (m + 1) b i c i j)).length ((c : Nat) : Int) = some c := by
        rw [ixN_nat, List.length_map, List.length_range, if_pos (by omega)]
      generalize brdD N (stB (m + 1) b i (c + 1)) = B2 at *
      generalize brdD N (stB (m + 1) b i c) = B at *
      generalize ((List.range N).map fun j => enc (stB (m + 1) b i c i j)) = R at *
      generalize ((List.range N).map fun j => enc (stB (m + 1) b i c (m + 1) j)) = R3 at *
      generalize enc (bkB (m + 1) b) = y at *
      generalize enc (b i c + b i (m + 1) / bkB (m + 1) b * b (m + 1) c) = y1 at *
      generalize enc (b i (m + 1) / bkB (m + 1) b * b (m + 1) c) = y2 at *
      generalize enc (b i (m + 1) / bkB (m + 1) b) = y3 at *
      generalize enc (b (m + 1) c) = y4 at *
      generalize enc (b i c) = y5 at *
      simp [-Dn.atI_nat, -Dn.ixN_nat, -Int.natCast_add, r1, r2, a1, a2, a3, tm, pl, ix1, ix2, ba, bs]
    · rintro ρ f ⟨rfl, t6, rfl⟩
      rw [range_len, st_row hi]
      exact ⟨rfl, _, t6, rfl⟩
  · rintro ρ g ⟨rfl, t5, t6, rfl⟩
    rw [range_len, rowB_m]
    exact ⟨rfl, _, t5, t6, rfl⟩
end
end Fp
namespace Fp
open PySem PySem.Spec L2 Dn
def QB (k : Nat) : Nat := [0, 252, 128, 66].getD k 0
theorem rs_szU {T : Nat} {g : Nat → Rat} : ∀ n, (∀ i, i < n → Sz T (g i)) → Sz (n * (T + 1) + 1) (rs n g)
  | 0, _ => by
    rw [rs_zero]
    have : Sz 1 0 := ⟨by decide, by decide⟩
    exact this.up (by omega)
  | n + 1, h => by
    rw [rs_succ]
    have a := rs_szU n fun i hi => h i (by omega)
    exact (Sz.add a (h n (by omega))).up (by rw [Nat.succ_mul]; omega)
section
variable {n N m M i j c e : Nat} {P : Nat → Nat → Rat} {b : Brt} {f : Feed} {l : List Nat}
/-- the weights' lengths, by the last board's -/
theorem wG_sz (hM : M ≤ 3) (hq : ∀ k, 1 ≤ k → k ≤ M → ∀ i, i < k → Sz (QB k) (finB M b i k)) : ∀ k, k ≤ M → Sz (SB k) (wG M b k) := by
  have w0 : Sz (SB 0) (wG M b 0) := by
    rw [wG_fin M b 0 (Nat.zero_le _), if_pos rfl]
    exact ⟨by decide, by decide⟩
  have w1 : 1 ≤ M → Sz (SB 1) (wG M b 1) := fun h => by
    rw [wG_fin M b 1 h, if_neg (by decide), rs_1']
    exact (Sz.mul w0 (hq 1 (by decide) h 0 (by decide))).up (by decide)
  have w2 : 2 ≤ M → Sz (SB 2) (wG M b 2) := fun h => by
    rw [wG_fin M b 2 h, if_neg (by decide), rs_2']
    exact (Sz.add (Sz.mul w0 (hq 2 (by decide) h 0 (by decide))) (Sz.mul (w1 (by omega)) (hq 2 (by decide) h 1 (by decide)))).up (by decide)
  have w3 : 3 ≤ M → Sz (SB 3) (wG M b 3) := fun h => by
    rw [wG_fin M b 3 h, if_neg (by decide), rs_3']
    exact (Sz.add (Sz.add (Sz.mul w0 (hq 3 (by decide) h 0 (by decide))) (Sz.mul (w1 (by omega)) (hq 3 (by decide) h 1 (by decide)))) (Sz.mul (w2 (by omega)) (hq 3 (by decide) h 2 (by decide)))).up (by decide)
  intro k hk
  match k, hk with
  | 0, _ => exact w0
  | 1, h => exact w1 h
  | 2, h => exact w2 h
  | 3, h => exact w3 h
  | k + 4, h => omega
theorem weights_of_ok (hn : n ≤ 4) (hl : l.length = M + 1) (hM : M ≤ 3) (hlt : ∀ k ∈ l, k < n) (h0 : BOk M 31 (subB P l)) : F_weights_of [.dat (rowsP n P), .dat (.list (natsD l))] f = .ok (.own ((List.range (M + 1)).map fun k => enc (wG M (subB P l) k))) f ∧ ∀ k, k ≤ M → Sz (SB k) (wG M (subB P l) k) := by
  generalize hb : subB P l = b at *
  have lN : oLen (.list (natsD l)) = some (.dat (.int ((M + 1 : Nat) : Int))) := by
    show some (RV.dat (.int ((natsD l).length : Nat))) = _
    unfold natsD
    rw [List.length_map, hl]
  suffices hE : Ev (F_weights_of [.dat (rowsP n P), .dat (.list (natsD l))] f) fun rv g => g = f ∧ rv = .own ((List.range (M + 1)).map fun k => enc (wG M b k)) ∧ ∀ k, k ≤ M → Sz (SB k) (wG M b k) by
    obtain ⟨rv, g, e, rfl, rfl, h⟩ := hE
    exact ⟨e, h⟩
  rw [u_weights_of, ev_dEnd]
  unfold S_weights_of
  refine ev_step (fun ρ g => g = f ∧ ρ = [.dat (rowsP n P), .dat (.list (natsD l)), .brd (brdD (M + 1) b), .emp, .emp, .emp, .emp, .emp, .emp, .emp]) ?_ ?_
  · have lc1 : ∀ (k : Nat) (s8 s9 : Slot), k < n → lcN (.one 9) cYes (cBin oIx (cBin oIx (cVar 0) (cVar 8)) (cVar 9)) [.dat (rowsP n P), .dat (.list (natsD l)), .emp, .emp, .emp, .emp, .emp, .emp, .dat (.int (k : Nat)), s9] (l.map nD) [] f = .ok (l.map fun c => enc (P k c)) f := fun k s8 s9 hk => by
      refine lc_map (by rw [hl]; omega) fun c hc => ⟨_, rfl, ?_⟩
      have e1 := ixR (P := P) hk
      have e2 := ixC (P := P) (i := k) (hlt c hc)
      generalize rowsP n P = R at *
      generalize rwP n P k = rr at *
      generalize enc (P k c) = y at *
      simp [e1, e2]
    have lb := lcB_map (T := .one 8) (e := cLc (iSeq (cVar 1)) (.one 9) cYes (cBin oIx (cBin oIx (cVar 0) (cVar 8)) (cVar 9)) [9]) (ρ := [.dat (rowsP n P), .dat (.list (natsD l)), .emp, .emp, .emp, .emp, .emp, .emp, .emp, .emp]) (f := f) (enc := nD) (g := fun k => l.map fun c => enc (P k c)) l [] (by simp; omega) fun k hk => ⟨_, rfl, by
      have l1 := lc1 k .emp .emp (hlt k hk)
      have sq : seqOf (.list (natsD l)) = some (l.map nD) := rfl
      generalize natsD l = T at *
      generalize l.map (fun c => enc (P k c)) = L at *
      generalize l.map nD = T2 at *
      generalize rowsP n P = R at *
      simp at sq
      simp [sq]
      subst sq
      simp [l1]⟩
    have eb : l.map (fun k => l.map fun c => enc (P k c)) = brdD (M + 1) b := by
      unfold brdD
      rw [map_natsD, hl]
      refine List.map_congr_left fun i _ => ?_
      rw [map_natsD, hl, ← hb]
      rfl
    rw [eb, List.nil_append] at lb
    have sq : seqOf (.list (natsD l)) = some (l.map nD) := rfl
    generalize brdD (M + 1) b = B at *
    generalize l.map nD = T2 at *
    generalize rowsP n P = R at *
    generalize natsD l = T at *
    simp at sq
    subst sq
    simp [lb]
  rintro _ f ⟨rfl, rfl⟩
  refine ev_stp (fun ρ g => g = f ∧ (∀ k, 1 ≤ k → k ≤ M → ∀ i, i < k → Sz (QB k) (finB M b i k)) ∧ ∃ s3 s4 s5 s6 : Slot, ρ = [.dat (rowsP n P), .dat (.list (natsD l)), .brd (brdD (M + 1) (finB M b)), s3, s4, s5, s6, .emp, .emp, .emp]) ?_ ?_
  · intro Q' hQ
    rw [e_for]
    have it : (iDown (cBin oSub (cUn oLen (cVar 1)) (cC (.int 1))) (cC (.int 0)) (cUn oNeg (cC (.int 1)))) [.dat (rowsP n P), .dat (.list (natsD l)), .brd (brdD (M + 1) b), .emp, .emp, .emp, .emp, .emp, .emp, .emp] f = .ok (downD (M : Int) M) f := by
      have tn : ((M : Int) - 0).toNat = M := by omega
      generalize natsD l = T at *
      simp [-oLen_list, lN, smallI_ok (n := (M : Int)) (by omega) (by omega), smallI_ok (n := (0 : Int)) (by omega) (by omega)]
    rw [it, ev_bind]
    refine Ev.of rfl ?_
    refine ev_for (I := fun t ρ g => g = f ∧ t ≤ M ∧ ∃ (b' : Brt), BOk (M - t) (31 * 2 ^ t) b' ∧ finB (M - t) b' = finB M b ∧ (∀ k, M - t < k → k ≤ M → ∀ i, i < k → Sz (QB k) (b' i k)) ∧ ∃ s3 s4 s5 s6 : Slot, ρ = [.dat (rowsP n P), .dat (.list (natsD l)), .brd (brdD (M + 1) b'), s3, s4, s5, s6, .emp, .emp, .emp]) ⟨rfl, Nat.zero_le _, b, h0, rfl, fun k h1 h2 => by omega, .emp, .emp, .emp, .emp, rfl⟩ ?_ ?_
    · rintro t d ρ g hd ⟨rfl, _, b', bok, fe, qs, s3, s4, s5, s6, rfl⟩
      have ht : t < M := by
        have := (List.getElem?_eq_some_iff.mp hd).1
        rwa [downD_length] at this
      have ed : d = .int ((M - t : Nat) : Int) := by
        rw [downD_get ht] at hd
        have := Option.some.inj hd
        rw [← this]
        congr 1
        omega
      subst ed
      refine ⟨_, rfl, ?_⟩
      simp only [List.set_cons_succ, List.set_cons_zero]
      obtain ⟨m, hm⟩ : ∃ m, M - t = m + 1 := ⟨M - t - 1, by omega⟩
      rw [hm] at bok fe qs ⊢
      have e250 : 31 * 2 ^ t ≤ 250 := by
        have : 2 ^ t ≤ 2 ^ 2 := Nat.pow_le_pow_right (by decide) (by omega)
        omega
      refine Ev.mono (cut_step (N := M + 1) (f := g) (by omega) (by omega) bok e250) ?_
      rintro c g ⟨rfl, t4, t5, t6, rfl⟩
      have hm2 : M - (t + 1) = m := by omega
      refine ⟨rfl, by omega, cutB (m + 1) b', ?_, ?_, ?_, _, t4, t5, t6, rfl⟩
      · rw [hm2, show 31 * 2 ^ (t + 1) = 2 * (31 * 2 ^ t) by rw [Nat.pow_succ]; omega]
        exact bok.next
      · rw [hm2, ← fe]
        rfl
      · intro k k1 k2 i hi
        rw [hm2] at k1
        by_cases e : k = m + 1
        · subst e
          rw [cut_col hi]
          refine (bok.q (by omega) (by omega)).up ?_
          have tt : t = M - (m + 1) := by omega
          have : m + 1 = 1 ∨ m + 1 = 2 ∨ m + 1 = 3 := by omega
          rcases this with q | q | q
          · rw [q]
            have : 2 ^ t ≤ 2 ^ 2 := Nat.pow_le_pow_right (by decide) (by omega)
            show 2 * (31 * 2 ^ t) + 4 ≤ 252
            omega
          · rw [q]
            have : 2 ^ t ≤ 2 ^ 1 := Nat.pow_le_pow_right (by decide) (by omega)
            show 2 * (31 * 2 ^ t) + 4 ≤ 128
            omega
          · rw [q]
            have : 2 ^ t ≤ 2 ^ 0 := Nat.pow_le_pow_right (by decide) (by omega)
            show 2 * (31 * 2 ^ t) + 4 ≤ 66
            omega
        · have q := qs k (by omega) k2 i hi
          have : cutB (m + 1) b' i k = b' i k := by
            unfold cutB
            split
            · split
              · omega
              · rfl
            · rfl
          rw [this]
          exact q
    · rintro ρ g ⟨rfl, _, b', bok, fe, qs, s3, s4, s5, s6, rfl⟩
      rw [downD_length, Nat.sub_self] at fe qs
      have fe : b' = finB M b := fe
      subst fe
      exact ⟨_, rfl, hQ _ _ ⟨rfl, fun k k1 k2 => qs k (by omega) k2, s3, s4, s5, s6, rfl⟩⟩
  rintro _ f ⟨rfl, qs, s3, s4, s5, s6, rfl⟩
  have ws := wG_sz hM qs
  refine ev_step (fun ρ g => g = f ∧ ρ = [.dat (rowsP n P), .dat (.list (natsD l)), .brd (brdD (M + 1) (finB M b)), s3, s4, s5, s6, .own ((List.range 1).map fun k => enc (wG M b k)), .emp, .emp]) ?_ ?_
  · have e1 : (List.range 1).map (fun k => enc (wG M b k)) = [.tuple [.int 1, .int 1]] := by
      show [enc (wG M b 0)] = _
      rw [wG_fin M b 0 (Nat.zero_le _), if_pos rfl]
      rfl
    rw [e1]
    simp
  rintro _ f ⟨rfl, rfl⟩
  refine ev_stp (fun ρ g => g = f ∧ ∃ s2 s3 s4 s5 s6 : Slot, ρ = [.dat (rowsP n P), .dat (.list (natsD l)), s2, s3, s4, s5, s6, .own ((List.range (M + 1)).map fun k => enc (wG M b k)), .emp, .emp]) ?_ ?_
  · intro Q' hQ
    rw [e_for]
    have it : (iRange2 (cC (.int 1)) (cUn oLen (cVar 1))) [.dat (rowsP n P), .dat (.list (natsD l)), .brd (brdD (M + 1) (finB M b)), s3, s4, s5, s6, .own ((List.range 1).map fun k => enc (wG M b k)), .emp, .emp] f = .ok (rangeD 1 M) f := by
      generalize natsD l = T at *
      generalize ((List.range 1).map fun k => enc (wG M b k)) = L at *
      simp [-oLen_list, lN, smallI_ok (n := (M : Int) + 1) (by omega) (by omega), smallI_ok (n := (1 : Int)) (by omega) (by omega)]
    rw [it, ev_bind]
    refine Ev.of rfl ?_
    refine ev_for (I := fun t ρ g => g = f ∧ ∃ s3 s5 : Slot, ρ = [.dat (rowsP n P), .dat (.list (natsD l)), .brd (brdD (M + 1) (finB M b)), s3, s4, s5, s6, .own ((List.range (t + 1)).map fun k => enc (wG M b k)), .emp, .emp]) ⟨rfl, s3, s5, rfl⟩ ?_ ?_
    · rintro t d ρ g hd ⟨rfl, s3, s5, rfl⟩
      obtain ⟨rfl, ht⟩ := range_at hd
      refine ⟨_, rfl, ?_⟩
      simp only [List.set_cons_succ, List.set_cons_zero]
      have i1 : (1 : Int) + (t : Nat) = ((t + 1 : Nat) : Int) := by omega
      rw [i1]
      have zt : ∀ i, i < t + 1 → Sz 700 (wG M b i * finB M b i (t + 1)) := fun i hi => by
        refine (Sz.mul (ws i (by omega)) (qs (t + 1) (by omega) (by omega) i hi)).up ?_
        have c : t + 1 = 1 ∨ t + 1 = 2 ∨ t + 1 = 3 := by omega
        rcases c with q | q | q
        · rw [q, show i = 0 by omega]
          decide
        · rw [q]
          have : i = 0 ∨ i = 1 := by omega
          rcases this with z | z <;> rw [z] <;> decide
        · rw [q]
          have : i = 0 ∨ i = 1 ∨ i = 2 := by omega
          rcases this with z | z | z <;> rw [z] <;> decide
      have lcw : ∀ (s5 s6 : Slot), lcN (.one 5) cYes (cCall F_times [cBin oIx (cVar 7) (cVar 5), cBin oIx (cRow 2 (cVar 5)) (cVar 3)]) [.dat (rowsP n P), .dat (.list (natsD l)), .brd (brdD (M + 1) (finB M b)), .dat (.int ((t + 1 : Nat) : Int)), s4, s5, s6, .own ((List.range (t + 1)).map fun k => enc (wG M b k)), .emp, .emp] ((List.range (t + 1)).map nD) [] g = .ok ((List.range (t + 1)).map fun i => enc (wG M b i * finB M b i (t + 1))) g := fun s5 s6 => by
        refine lc_map (by rw [List.length_range]; omega) fun i hi => ⟨_, rfl, ?_⟩
        rw [List.mem_range] at hi
        have a1 : atI ((List.range (t + 1)).map fun k => enc (wG M b k)) ((i : Nat) : Int) = some (enc (wG M b i)) := by
          rw [Dn.atI_nat, List.getElem?_map, List.getElem?_range hi]
          rfl
        have r1 : atI (brdD (M + 1) (finB M b)) ((i : Nat) : Int) = some ((List.range (M + 1)).map fun j => enc (finB M b i j)) := by rw [Dn.atI_nat, brd_at (by omega)]
        have a2 : atI ((List.range (M + 1)).map fun j => enc (finB M b i j)) ((t + 1 : Nat) : Int) = some (enc (finB M b i (t + 1))) := by rw [Dn.atI_nat, brow_at (by omega)]
        have q252 : QB (t + 1) ≤ 252 := by
          have : t + 1 = 1 ∨ t + 1 = 2 ∨ t + 1 = 3 := by omega
          rcases this with q | q | q <;> rw [q] <;> decide
        have tm := times_q (f := g) ((ws i (by omega)).up (show SB i ≤ 4000 by have := SB_le (k := i); omega)) ((qs (t + 1) (by omega) (by omega) i hi).up (show QB (t + 1) ≤ 4000 by omega)) (Nat.le_refl _)
        generalize brdD (M + 1) (finB M b) = B at *
        generalize ((List.range (t + 1)).map fun k => enc (wG M b k)) = L at *
        generalize ((List.range (M + 1)).map fun j => enc (finB M b i j)) = R2 at *
        generalize enc (wG M b i * finB M b i (t + 1)) = y at *
        generalize enc (wG M b i) = y1 at *
        generalize enc (finB M b i (t + 1)) = y2 at *
        simp [-Dn.atI_nat, -Int.natCast_add, a1, r1, a2, tm]
      have wq := whole_of_q (f := g) (n := t + 1) (g := fun i => wG M b i * finB M b i (t + 1)) (d := .list ((List.range (t + 1)).map fun i => enc (wG M b i * finB M b i (t + 1)))) rfl (fun k hk => (rs_szU k fun i hi => zt i (by omega)).up (by
        have : k * (700 + 1) ≤ 3 * (700 + 1) := Nat.mul_le_mul_right _ (by omega)
        omega)) (fun i hi => (zt i hi).up (by decide))
      have wf := wG_fin M b (t + 1) (by omega)
      rw [if_neg (by omega)] at wf
      rw [← wf] at wq
      have rr : (List.range (t + 1 + 1)).map (fun k => enc (wG M b k)) = ((List.range (t + 1)).map fun k => enc (wG M b k)) ++ [enc (wG M b (t + 1))] := by
        rw [List.range_succ, List.map_append]
        rfl
      rw [rr]
      have lcw := fun s5 => lcw s5 s6
      have lL : ((List.range (t + 1)).map fun k => enc (wG M b k)).length < 100000 := by rw [List.length_map, List.length_range]; omega
      have rg := rgN (m := t + 1)
      have tn : (((t + 1 : Nat) : Int)).toNat = t + 1 := by omega
      refine ⟨.nx [.dat (rowsP n P), .dat (.list (natsD l)), .brd (brdD (M + 1) (finB M b)), .dat (.int ((t + 1 : Nat) : Int)), s4, s5, s6, .own (((List.range (t + 1)).map fun k => enc (wG M b k)) ++ [enc (wG M b (t + 1))]), .emp, .emp], g, ?_, rfl, _, s5, rfl⟩
      generalize brdD (M + 1) (finB M b) = B at *
      generalize ((List.range (t + 1)).map fun k => enc (wG M b k)) = L at *
      generalize ((List.range (t + 1)).map fun i => enc (wG M b i * finB M b i (t + 1))) = L2 at *
      generalize enc (wG M b (t + 1)) = y at *
      generalize rowsP n P = R at *
      generalize natsD l = T at *
      simp [-Int.natCast_add, smallI_ok (n := ((t + 1 : Nat) : Int)) (by omega) (by omega), rg, lcw, wq, lL]
    · rintro ρ g ⟨rfl, s3, s5, rfl⟩
      rw [range_len]
      exact ⟨_, rfl, hQ _ _ ⟨rfl, _, s3, s4, s5, s6, rfl⟩⟩
  rintro _ f ⟨rfl, s2, s3, s4, s5, s6, rfl⟩
  refine ⟨.rt (.lent 7 ((List.range (M + 1)).map fun k => enc (wG M b k))), f, ?_, rfl, rfl, ws⟩
  generalize ((List.range (M + 1)).map fun k => enc (wG M b k)) = L
  simp
end
end Fp
namespace Fp
open PySem PySem.Spec L2 Dn
/-- weights put at their kinds, one by one -/
def wz (l : List Nat) (w : Nat → Rat) : Nat → Nat → Rat
  | 0 => fun _ => 0
  | t + 1 => fun k => if k = l.getD t 0 then w t else wz l w t k
section
variable {n N : Nat} {P : Nat → Nat → Rat} {l : List Nat} {w c g : Nat → Rat} {h : Nat}
theorem wz_out : ∀ t, t ≤ l.length → ∀ k, (∀ i, i < t → l.getD i 0 ≠ k) → wz l w t k = 0
  | 0, _, k, _ => rfl
  | t + 1, ht, k, hk => by
    show (if k = l.getD t 0 then w t else wz l w t k) = 0
    rw [if_neg fun z => hk t (by omega) z.symm]
    exact wz_out t (by omega) k fun i hi => hk i (by omega)
theorem nodup_get (nd : l.Nodup) {i j : Nat} (hi : i < l.length) (hj : j < l.length) (e : l.getD i 0 = l.getD j 0) : i = j := by
  rw [List.getD_eq_getElem?_getD, List.getD_eq_getElem?_getD, List.getElem?_eq_getElem hi, List.getElem?_eq_getElem hj] at e
  have e : l[i] = l[j] := e
  have pw := List.pairwise_iff_getElem.mp nd
  rcases Nat.lt_trichotomy i j with q | q | q
  · exact absurd e (pw i j hi hj q)
  · exact q
  · exact absurd e.symm (pw j i hj hi q)
theorem wz_new (nd : l.Nodup) {t : Nat} (ht : t < l.length) : wz l w t (l.getD t 0) = 0 := wz_out t (by omega) _ fun i hi e => by
  have := nodup_get nd (by omega) ht e
  omega
theorem wz_at (nd : l.Nodup) : ∀ t, t ≤ l.length → ∀ i, i < t → wz l w t (l.getD i 0) = w i
  | 0, _, i, hi => by omega
  | t + 1, ht, i, hi => by
    show (if l.getD i 0 = l.getD t 0 then w t else wz l w t (l.getD i 0)) = w i
    by_cases e : l.getD i 0 = l.getD t 0
    · rw [if_pos e, nodup_get nd (by omega) (by omega) e]
    · rw [if_neg e]
      exact wz_at nd t (by omega) i (by
        have : i ≠ t := fun z => e (by rw [z])
        omega)
theorem rs_if {a : Nat} {g : Nat → Rat} : ∀ n, (rs n fun j => if j = a then g j else 0) = if a < n then g a else 0
  | 0 => rfl
  | n + 1 => by
    rw [rs_succ, rs_if n]
    by_cases e : n = a
    · subst e
      rw [if_neg (Nat.lt_irrefl n), if_pos rfl, if_pos (Nat.lt_succ_self n)]
      grind
    · rw [if_neg e]
      by_cases q : a < n
      · rw [if_pos q, if_pos (by omega)]
        grind
      · rw [if_neg q, if_neg (by omega)]
        grind
theorem wz_sum (nd : l.Nodup) (hl : ∀ k ∈ l, k < n) : ∀ t, t ≤ l.length → (rs n fun j => wz l w t j * c j) = rs t fun i => w i * c (l.getD i 0)
  | 0, _ => by
    have : (rs n fun j => wz l w 0 j * c j) = rs n fun _ => 0 := rs_congr fun i _ => Rat.zero_mul _
    rw [rs_zero, this, rs_0]
  | t + 1, ht => by
    rw [rs_succ, ← wz_sum nd hl t (by omega)]
    have e : (rs n fun j => wz l w (t + 1) j * c j) = rs n fun j => wz l w t j * c j + if j = l.getD t 0 then w t * c j else 0 := rs_congr fun j _ => by
      show (if j = l.getD t 0 then w t else wz l w t j) * c j = _
      by_cases q : j = l.getD t 0
      · rw [if_pos q, if_pos q, q, wz_new nd (by omega), Rat.zero_mul]
        grind
      · rw [if_neg q, if_neg q]
        grind
    rw [e, rs_add, rs_if, if_pos (hl _ (getD_lt (by omega)))]
/-- a sum over all kinds where only some count -/
theorem rs_over (nd : l.Nodup) (hl : ∀ k ∈ l, k < n) (hz : ∀ k, k < n → k ∉ l → g k = 0) : rs n g = rs l.length fun i => g (l.getD i 0) := by
  have s := wz_sum (w := fun i => g (l.getD i 0)) (c := fun _ => 1) nd hl l.length (Nat.le_refl _)
  rw [rs_congr (g := fun i => g (l.getD i 0) * 1) (h := fun i => g (l.getD i 0)) fun i _ => Rat.mul_one _] at s
  rw [← s]
  refine rs_congr fun k hk => ?_
  rw [Rat.mul_one]
  by_cases m : k ∈ l
  · obtain ⟨i, hi, e⟩ := List.getElem_of_mem m
    have e2 : l.getD i 0 = k := by
      rw [List.getD_eq_getElem?_getD, List.getElem?_eq_getElem hi]
      exact e
    rw [← e2, wz_at nd l.length (Nat.le_refl _) i hi]
  · rw [hz k hk m, wz_out l.length (Nat.le_refl _) k fun i hi e => m (e ▸ getD_lt hi)]
theorem rch_closed (r : RchOk n P h l) {a k : Nat} (ha : a ∈ l) (hk : k < n) (hp : P a k ≠ 0) : k ∈ l := by
  have m := (r.mem a).mp ha
  exact (r.mem k).mpr (m.trans (Led.one a k m.lt2 hk hp))
theorem sub_chn (ch : Chn n P) (r : RchOk n P h l) : Chn l.length (subB P l) := by
  refine ⟨fun i j hi hj => ch.nn _ _ (r.lt _ (getD_lt hi)) (r.lt _ (getD_lt hj)), fun i hi => ?_⟩
  have hm := getD_lt hi
  have o := ch.one _ (r.lt _ hm)
  rw [rs_over r.nd r.lt fun k hk nk => by
    apply Classical.byContradiction
    intro z
    exact nk (rch_closed r hm hk z)] at o
  exact o
theorem sub_led (r : RchOk n P h l) (hl : ∀ k, k < n → Led n P k h) : ∀ i, i < l.length → Led l.length (subB P l) i 0 := by
  have go : ∀ {x z : Nat}, Led n P x z → z = h → ∀ i, i < l.length → l.getD i 0 = x → Led l.length (subB P l) i 0 := by
    intro x z hx
    induction hx with
    | refl x hx =>
      intro e i hi q
      have h0 : l.getD 0 0 = h := by
        rw [List.getD_eq_getElem?_getD, r.hd]
        rfl
      have : i = 0 := nodup_get r.nd hi (by omega) (by rw [q, h0, e])
      subst this
      exact .refl 0 hi
    | step x y z h1 h2 h3 ih =>
      intro e i hi q
      have ym : y ∈ l := rch_closed r (q ▸ getD_lt hi) h3.lt1 h2
      obtain ⟨j, hj, ej⟩ := List.getElem_of_mem ym
      have ej : l.getD j 0 = y := by
        rw [List.getD_eq_getElem?_getD, List.getElem?_eq_getElem hj]
        exact ej
      refine .step i j 0 hi ?_ (ih e j hj ej)
      show P (l.getD i 0) (l.getD j 0) ≠ 0
      rw [q, ej]
      exact h2
  exact fun i hi => go (hl _ (r.lt _ (getD_lt hi))) rfl i hi rfl
/-- weights that the chain of some leaves as they are, as weights of all -/
theorem wz_stat (r : RchOk n P h l) (hw : ∀ k, k < l.length → stat l.length (subB P l) w k = w k) : ∀ k, k < n → stat n P (wz l w l.length) k = wz l w l.length k := fun k hk => by
  have s := wz_sum (w := w) (c := fun j => P j k) r.nd r.lt l.length (Nat.le_refl _)
  have e : stat n P (wz l w l.length) k = rs n fun j => wz l w l.length j * P j k := rfl
  rw [e, s]
  by_cases m : k ∈ l
  · obtain ⟨i, hi, ei⟩ := List.getElem_of_mem m
    have ei : l.getD i 0 = k := by
      rw [List.getD_eq_getElem?_getD, List.getElem?_eq_getElem hi]
      exact ei
    rw [← ei, wz_at r.nd l.length (Nat.le_refl _) i hi]
    exact hw i hi
  · rw [wz_out l.length (Nat.le_refl _) k fun i hi e => m (e ▸ getD_lt hi), rs_congr (h := fun _ => 0) fun i hi => by
      have : P (l.getD i 0) k = 0 := by
        apply Classical.byContradiction
        intro z
        exact m (rch_closed r (getD_lt hi) hk z)
      rw [this, Rat.mul_zero], rs_0]
/-- the told weights are those by all ways home -/
theorem told_tw {W : Nat} (pw : PW n P W) (ch : Chn n P) (hh : h < n) (hl : ∀ k, k < n → Led n P k h) {v : Nat → Rat} (hv : ∀ k, k < n → stat n P v k = v k) (hp : 0 < rs n v) : ∀ k, k < n → v k / rs n v = twW n P k := by
  have sp := twS_pos pw hh hl
  refine stat_uniq ch hl (w := fun k => v k / rs n v) (fun k hk => ?_) (twW_stat pw.n1 pw.n4 ch) ?_ (twW_sum (by grind))
  · have : stat n P (fun k => v k / rs n v) k = (rs n v)⁻¹ * stat n P v k := by
      unfold stat
      rw [← rs_mul]
      refine rs_congr fun i _ => ?_
      show v i / rs n v * P i k = _
      rw [Rat.div_def]
      grind
    rw [this, hv k hk, Rat.div_def, Rat.mul_comm]
  · have : rs n (fun k => v k / rs n v) = (rs n v)⁻¹ * rs n v := by
      rw [← rs_mul]
      refine rs_congr fun i _ => ?_
      rw [Rat.div_def, Rat.mul_comm]
    rw [this]
    exact Rat.inv_mul_cancel _ (by grind)
end
end Fp
namespace Fp
open PySem PySem.Spec L2 Dn
/-- a right paper -/
def PaperOk (ks : List (List Tri)) (W : Nat) (d : PyData) : Prop := (∃ h ps, d = shareD ks.length h (twW ks.length (pk ks)) ps ∧ SharePw ks W h ps) ∨ (∃ p, d = pairD p ∧ p ∈ pairsC (closL ks.length (pk ks)) ∧ homL ks.length (pk ks) = [])
section
variable {W : Nat} {ks : List (List Tri)} {f : Feed}
theorem PaperOk.tc {d : PyData} (hk : KsOk W ks) (hW : W ≤ 2 ^ 31) (h : PaperOk ks W d) : Tc 134 565 3 d := by
  rcases h with ⟨h, ps, rfl, s⟩ | ⟨p, rfl, hp, _⟩
  · exact s.tc hk hW
  · obtain ⟨sA, sB, pn⟩ := pair_vA hk.n4 hp
    exact (tc_apart hk.n4 sA sB).up (Nat.le_refl _) (by decide) (by decide)
theorem PaperOk.told {d : PyData} (hk : KsOk W ks) (hW : W ≤ 2 ^ 31) (hf : ∀ k ∈ ks, fullK k) (h : PaperOk ks W d) : ∃ word : Str, WsOk word ∧ oIx d (.int 0) = some (.dat (.str word)) ∧ ∀ f, F_q_told_v4 [.dat (kindsD ks), .dat d] f = .ok (.own [.str word]) f := by
  rcases h with ⟨h, ps, rfl, s⟩ | ⟨p, rfl, hp, _⟩
  · exact ⟨Str.ofString "share", ws_share, rfl, fun f => s.told hk hW hf⟩
  · exact ⟨Str.ofString "apart", ws_apart, rfl, fun f => pair_told hk hW hp⟩
end
end Fp
namespace Fp
open PySem PySem.Spec L2 Dn
theorem in_nats {k : Nat} {A : List Nat} : oInF false (.int (k : Nat)) (.list (natsD A)) = some (.dat (.bool (decide (k ∈ A)))) := by
  have := inNs (neg := false) (a := k) (A := A)
  rwa [Bool.false_xor] at this
theorem nin_nats {k : Nat} {A : List Nat} : oInF true (.int (k : Nat)) (.list (natsD A)) = some (.dat (.bool (!decide (k ∈ A)))) := by
  have := inNs (neg := true) (a := k) (A := A)
  rwa [Bool.true_xor] at this
/-- a list of fresh lists -/
theorem lc_mapO {τ : Type} {T : Tgt} {e : Ex} {ρ : Rho} {f : Feed} {xs : List τ} {enc : τ → PyData} {g : τ → List PyData} (hl : xs.length ≤ 100000)
    (h : ∀ x ∈ xs, ∃ ρ1, T.put (enc x) ρ = some ρ1 ∧ e ρ1 f = .ok (.own (g x)) f) : lcN T cYes e ρ (xs.map enc) [] f = .ok (xs.map fun x => .list (g x)) f := by
  have go : ∀ (r : List τ) (acc : List PyData), acc.length + r.length ≤ 100000 → (∀ x ∈ r, ∃ ρ1, T.put (enc x) ρ = some ρ1 ∧ e ρ1 f = .ok (.own (g x)) f) → lcN T cYes e ρ (r.map enc) acc f = .ok (acc ++ r.map fun x => .list (g x)) f := by
    intro r
    induction r with
    | nil =>
      intro acc _ _
      show R.ok acc f = _
      rw [List.map_nil, List.append_nil]
    | cons x r ih =>
      intro acc hl h
      rw [List.length_cons] at hl
      obtain ⟨ρ1, h1, h3⟩ := h x List.mem_cons_self
      show lcN T cYes e ρ (enc x :: r.map enc) acc f = _
      unfold lcN
      have h2 : cYes ρ1 f = .ok true f := rfl
      have h4 : ∀ {β : Type} (k : PyData → Feed → R β), dt (R.ok (.own (g x)) f) k = k (.list (g x)) f := fun k => rfl
      rw [h1]
      simp only [h2, noEx_ok2, bind_ok]
      rw [if_pos trivial, h3, noEx_ok2, h4, if_pos (by omega), ih (acc ++ [PyData.list (g x)]) (by rw [List.length_append]; show acc.length + 1 + r.length ≤ 100000; omega) fun y hy => h y (List.mem_cons_of_mem _ hy), List.map_cons, List.append_assoc]
      rfl
  exact go xs [] (by simpa using hl) h
/-- sorted, what is led to -/
theorem srt_rch {n s : Nat} {P : Nat → Nat → Rat} {l : List Nat} (hs : s < n) (h : RchOk n P s l) : oSortI (.list (natsD l)) = some (.own (natsD (rchL n P s))) := by
  have e : natsD l = (l.map fun (a : Nat) => (a : Int)).map .int := by unfold natsD; rw [List.map_map]; rfl
  have e2 : natsD (rchL n P s) = ((rchL n P s).map fun (a : Nat) => (a : Int)).map .int := by unfold natsD; rw [List.map_map]; rfl
  rw [e, oSortI_list, e2]
  congr 3
  refine srtI_uniq (srtI_perm.trans ?_) (srtI_pw _) ?_
  · refine List.Perm.map _ ((List.perm_ext_iff_of_nodup h.nd (List.Nodup.sublist List.filter_sublist List.nodup_range)).mpr fun k => ?_)
    rw [h.mem k]
    exact (mem_rch hs).symm
  · refine List.pairwise_map.mpr ?_
    have : (rchL n P s).Pairwise (· < ·) := List.Pairwise.sublist List.filter_sublist List.pairwise_lt_range
    exact this.imp fun h => by omega
theorem ws_setP {n j : Nat} {w : Nat → Rat} {x : Rat} (hj : j < n) : (wsD n w).set j (enc x) = wsD n fun m => if m = j then x else w m := put_row hj
theorem wz_val {l : List Nat} {w : Nat → Rat} : ∀ t k, wz l w t k = 0 ∨ ∃ i, i < t ∧ wz l w t k = w i
  | 0, k => .inl rfl
  | t + 1, k => by
    show (if k = l.getD t 0 then w t else wz l w t k) = 0 ∨ ∃ i, i < t + 1 ∧ (if k = l.getD t 0 then w t else wz l w t k) = w i
    split
    · exact .inr ⟨t, by omega, rfl⟩
    · rcases wz_val t k with h | ⟨i, hi, h⟩
      · exact .inl h
      · exact .inr ⟨i, by omega, h⟩
theorem wz_sz {n M : Nat} {l : List Nat} {w : Nat → Rat} (hn : n ≤ 4) (hM : M ≤ 3) (hs : ∀ k, k ≤ M → Sz (SB k) (w k)) : (∀ i, i ≤ n → Sz 4000 (rs i (wz l w (M + 1)))) ∧ ∀ i, Sz 4000 (wz l w (M + 1) i) := by
  obtain ⟨v, hv⟩ : ∃ v : Nat → Rat, v = fun k => if k ≤ M then w k else 0 := ⟨_, rfl⟩
  have vs : ∀ k, k ≤ 3 → Sz (SB k) (v k) := fun k hk => by
    rw [hv]
    show Sz (SB k) (if k ≤ M then w k else 0)
    split
    · rename_i h
      exact hs k h
    · have : Sz 1 0 := ⟨by decide, by decide⟩
      refine this.up ?_
      match k, hk with
      | 0, _ | 1, _ | 2, _ | 3, _ => decide
  obtain ⟨Z, hZ⟩ : ∃ Z, Z = (v 0).den * (v 1).den * ((v 2).den * (v 3).den) := ⟨_, rfl⟩
  have Z0 : 0 < Z := by
    rw [hZ]
    exact Nat.mul_pos (Nat.mul_pos (v 0).den_pos (v 1).den_pos) (Nat.mul_pos (v 2).den_pos (v 3).den_pos)
  have Z1 : Z ≤ 2 ^ (1 + 300 + (600 + 1200)) := by
    rw [hZ, Nat.pow_add, Nat.pow_add, Nat.pow_add]
    exact Nat.mul_le_mul (Nat.mul_le_mul (Nat.le_of_lt (vs 0 (by decide)).den) (Nat.le_of_lt (vs 1 (by decide)).den)) (Nat.mul_le_mul (Nat.le_of_lt (vs 2 (by decide)).den) (Nat.le_of_lt (vs 3 (by decide)).den))
  have wv : ∀ k, k ≤ 3 → Wh Z (v k) := fun k hk => by
    have own : Wh (v k).den (v k) := ⟨(v k).num, mul_den _⟩
    refine own.up ?_
    rw [hZ]
    match k, hk with
    | 0, _ => exact Nat.dvd_trans (Nat.dvd_mul_right _ _) (Nat.dvd_mul_right _ _)
    | 1, _ => exact Nat.dvd_trans (Nat.dvd_mul_left _ _) (Nat.dvd_mul_right _ _)
    | 2, _ => exact Nat.dvd_trans (Nat.dvd_mul_right _ _) (Nat.dvd_mul_left _ _)
    | 3, _ => exact Nat.dvd_trans (Nat.dvd_mul_left _ _) (Nat.dvd_mul_left _ _)
  have val : ∀ i, Wh Z (wz l w (M + 1) i) ∧ Sz 1200 (wz l w (M + 1) i) := fun i => by
    rcases wz_val (l := l) (w := w) (M + 1) i with h | ⟨k, hk, h⟩
    · rw [h]
      have : Sz 1 0 := ⟨by decide, by decide⟩
      exact ⟨wh_0, this.up (by decide)⟩
    · rw [h]
      have e : w k = v k := by
        rw [hv]
        show w k = if k ≤ M then w k else 0
        rw [if_pos (by omega)]
      refine ⟨?_, (hs k (by omega)).up SB_le⟩
      rw [e]
      exact wv k (by omega)
  refine ⟨fun i hi => ?_, fun i => (val i).2.up (by decide)⟩
  have a : Ab ((i * 2 ^ 1200 : Nat) : Rat) (rs i (wz l w (M + 1))) := rs_ab fun j _ => ab_of_sz (val j).2
  have h4 : i * 2 ^ 1200 ≤ 2 ^ 2 * 2 ^ 1200 := Nat.mul_le_mul_right _ (by omega)
  refine ab_sz (B := 2 ^ 2 * 2 ^ 1200) Z0 (rs_wh fun j _ => (val j).1) (a.up (Rat.natCast_le_natCast.mpr h4)) (Nat.mul_pos (by decide) (Nat.two_pow_pos _)) ?_
  have h5 : 2 ^ 2 * 2 ^ 1200 * Z ≤ 2 ^ 2 * 2 ^ 1200 * 2 ^ (1 + 300 + (600 + 1200)) := Nat.mul_le_mul_left _ Z1
  rw [← Nat.pow_add, ← Nat.pow_add] at h5
  exact Nat.lt_of_le_of_lt h5 (Nat.pow_lt_pow_right (by decide) (by decide))
section
variable {W : Nat} {ks : List (List Tri)} {f : Feed}
theorem pairs_clos {n : Nat} {P : Nat → Nat → Rat} (n4 : n ≤ 4) {i j : Nat} (hi : i < n) (hj : j < n) (h : ∀ a, Led n P i a → ¬ Led n P j a) : (rchL n P i, rchL n P j) ∈ pairsC (closL n P) := by
  have cl : ∀ i, i < n → rchL n P i ∈ closL n P := fun i hi => mem_clos n4 (fun a ha => ((mem_rch hi).mp ha).lt2) (List.Pairwise.sublist List.filter_sublist List.pairwise_lt_range) (fun z => by
    have : i ∈ rchL n P i := (mem_rch hi).mpr (.refl i hi)
    rw [z] at this
    cases this) fun a ha => by
    unfold outB
    rw [List.any_eq_false]
    intro j hj
    rw [List.mem_range] at hj
    by_cases z : P a j = 0
    · simp [z]
    · have m := (mem_rch hi).mp ha
      have : j ∈ rchL n P i := (mem_rch hi).mpr (m.trans (Led.one a j m.lt2 hj z))
      simp [this]
  exact mem_pairs.mpr ⟨cl i hi, cl j hj, fun a ha hb => h a ((mem_rch hi).mp ha) ((mem_rch hj).mp hb)⟩
theorem share_told_ok (hk : KsOk W ks) (hW : W ≤ 2 ^ 31) (hf : ∀ k ∈ ks, fullK k) : ∃ d, F_share_told [.dat (kindsD ks)] f = .ok (.dat d) f ∧ PaperOk ks W d := by
  suffices hE : Ev (F_share_told [.dat (kindsD ks)] f) fun rv g => g = f ∧ ∃ d, rv = .dat d ∧ PaperOk ks W d by
    obtain ⟨rv, g, e, rfl, d, rfl, h⟩ := hE
    exact ⟨d, e, h⟩
  have n4 := hk.n4
  have n1 := hk.n1
  have pw := pw_of hk hW
  have ch := chn_of hk hf
  have cq := chain_q (f := f) hk hW
  rw [rowsD_P] at cq
  have e0 := lenR (n := ks.length) (P := pk ks)
  have rg := rgN (m := ks.length)
  obtain ⟨L, hL⟩ : ∃ L : Nat → List Nat, ∀ i, i < ks.length → F_reached [.dat (rowsP ks.length (pk ks)), .dat (.int (i : Nat))] f = .ok (.own (natsD (L i))) f ∧ RchOk ks.length (pk ks) i (L i) := by
    have : ∀ i, ∃ l, i < ks.length → F_reached [.dat (rowsP ks.length (pk ks)), .dat (.int (i : Nat))] f = .ok (.own (natsD l)) f ∧ RchOk ks.length (pk ks) i l := fun i => by
      by_cases hi : i < ks.length
      · obtain ⟨l, h⟩ := reached_ok (P := pk ks) (f := f) n4 hi
        exact ⟨l, fun _ => h⟩
      · exact ⟨[], fun z => absurd z hi⟩
    exact ⟨fun i => Classical.choose (this i), fun i hi => Classical.choose_spec (this i) hi⟩
  rw [u_share_told, ev_dEnd]
  unfold S_share_told
  refine ev_step (fun ρ g => g = f ∧ ρ = [.dat (kindsD ks), .dat (rowsP ks.length (pk ks)), .emp, .emp, .emp, .emp, .emp, .emp, .emp, .emp, .emp, .emp]) (by simp [cq]) ?_
  rintro _ f ⟨rfl, rfl⟩
  have lc1 : ∀ (s0 s2 s6 : Slot), lcN (.one 6) cYes (cCall F_reached [cVar 1, cVar 6]) [s0, .dat (rowsP ks.length (pk ks)), s2, .emp, .emp, .emp, s6, .emp, .emp, .emp, .emp, .emp] ((List.range ks.length).map nD) [] f = .ok ((List.range ks.length).map fun i => .list (natsD (L i))) f := fun s0 s2 s6 => by
    refine lc_mapO (by rw [List.length_range]; omega) fun i hi => ⟨_, rfl, ?_⟩
    have q := (hL i (List.mem_range.mp hi)).1
    generalize rowsP ks.length (pk ks) = R at *
    generalize natsD (L i) = T at *
    simp [q]
  have sm := smallI_ok (n := (ks.length : Int)) (by omega) (by omega)
  refine ev_step (fun ρ g => g = f ∧ ρ = [.dat (kindsD ks), .dat (rowsP ks.length (pk ks)), .own ((List.range ks.length).map fun i => .list (natsD (L i))), .emp, .emp, .emp, .emp, .emp, .emp, .emp, .emp, .emp]) (by
    generalize rowsP ks.length (pk ks) = R at *
    generalize ((List.range ks.length).map fun i => PyData.list (natsD (L i))) = SP at *
    generalize kindsD ks = K at *
    simp [e0, sm, rg, lc1]) ?_
  rintro _ f ⟨rfl, rfl⟩
  refine ev_step (fun ρ g => g = f ∧ ρ = [.dat (kindsD ks), .dat (rowsP ks.length (pk ks)), .dat (.list ((List.range ks.length).map fun i => .list (natsD (L i)))), .emp, .emp, .emp, .emp, .emp, .emp, .emp, .emp, .emp]) (by simp) ?_
  rintro _ f ⟨rfl, rfl⟩
  have lc2 : ∀ (k : Nat) (s0 s1 s2 s11 : Slot), lcN (.one 11) cYes (cBin (oInF false) (cVar 6) (cVar 11)) [s0, s1, s2, .emp, .emp, .emp, .dat (.int (k : Nat)), .emp, .emp, .emp, .emp, s11] ((List.range ks.length).map fun i => .list (natsD (L i))) [] f = .ok ((List.range ks.length).map fun i => .bool (decide (k ∈ L i))) f := fun k s0 s1 s2 s11 => by
    refine lc_map (by rw [List.length_range]; omega) fun i hi => ⟨_, rfl, ?_⟩
    have q := in_nats (k := k) (A := L i)
    generalize natsD (L i) = T at *
    simp [q]
  have lc3 : ∀ (s0 s1 s6 : Slot), lcN (.one 6) (cT (cUn oAll (cLc (iSeq (cVar 2)) (.one 11) cYes (cBin (oInF false) (cVar 6) (cVar 11)) [11]))) (cVar 6) [s0, s1, .dat (.list ((List.range ks.length).map fun i => .list (natsD (L i)))), .emp, .emp, .emp, s6, .emp, .emp, .emp, .emp, .emp] ((List.range ks.length).map nD) [] f = .ok ((homL ks.length (pk ks)).map nD) f := fun s0 s1 s6 => by
    refine lc_pure (by rw [List.length_range]; omega) fun k hk => ⟨_, rfl, ?_, fun _ => by simp⟩
    have l2 := lc2 k s0 s1 (.dat (.list ((List.range ks.length).map fun i => .list (natsD (L i))))) .emp
    have al := all_map6 (List.range ks.length) fun i => decide (k ∈ L i)
    have ea : (List.range ks.length).all (fun i => decide (k ∈ L i)) = (List.range ks.length).all fun i => ledB ks.length (pk ks) i k := by
      rw [Bool.eq_iff_iff, List.all_eq_true, List.all_eq_true]
      refine forall_congr' fun i => ?_
      refine imp_congr_right fun hi => ?_
      rw [decide_eq_true_eq, ledB_iff]
      exact (hL i (List.mem_range.mp hi)).2.mem k
    rw [ea] at al
    generalize ((List.range ks.length).map fun i => PyData.bool (decide (k ∈ L i))) = B at *
    generalize ((List.range ks.length).map fun i => PyData.list (natsD (L i))) = SP at *
    simp [l2, al]
  refine ev_step (fun ρ g => g = f ∧ ρ = [.dat (kindsD ks), .dat (rowsP ks.length (pk ks)), .dat (.list ((List.range ks.length).map fun i => .list (natsD (L i)))), .own (natsD (homL ks.length (pk ks))), .emp, .emp, .emp, .emp, .emp, .emp, .emp, .emp]) (by
    unfold natsD at *
    generalize (homL ks.length (pk ks)).map nD = H at *
    generalize rowsP ks.length (pk ks) = R at *
    generalize ((List.range ks.length).map fun i => PyData.list ((L i).map nD)) = SP at *
    generalize kindsD ks = K at *
    simp [e0, sm, rg, lc3]) ?_
  rintro _ f ⟨rfl, rfl⟩
  refine ev_step (fun ρ g => g = f ∧ ρ = [.dat (kindsD ks), .dat (rowsP ks.length (pk ks)), .dat (.list ((List.range ks.length).map fun i => .list (natsD (L i)))), .dat (.list (natsD (homL ks.length (pk ks)))), .emp, .emp, .emp, .emp, .emp, .emp, .emp, .emp]) (by simp) ?_
  rintro _ f ⟨rfl, rfl⟩
  have nn := ne_natL (A := homL ks.length (pk ks))
  have atL : ∀ i, i < ks.length → oIx (.list ((List.range ks.length).map fun i => .list (natsD (L i)))) (.int (i : Nat)) = some (.dat (.list (natsD (L i)))) := fun i hi => by
    rw [e_ix_list, Dn.atI_nat, List.getElem?_map, List.getElem?_range hi]
    rfl
  cases hHL : homL ks.length (pk ks) with
  | cons h hr =>
    have hm : h ∈ homL ks.length (pk ks) := by rw [hHL]; exact List.mem_cons_self
    obtain ⟨hh, hl⟩ := mem_hom.mp hm
    have r := (hL h hh).2
    have ll := nodup_lt r.nd r.lt
    have l0 : 0 < (L h).length := by
      have := List.mem_of_getElem? r.hd
      exact List.length_pos_of_mem this
    obtain ⟨M, hM⟩ : ∃ M, (L h).length = M + 1 := ⟨(L h).length - 1, by omega⟩
    have b0 : BOk M 31 (subB (pk ks) (L h)) := by
      refine ⟨?_, ?_, W, hk.W0, hW, fun i j hi hj => (hk.P _ _ (r.lt _ (getD_lt (by omega))) (r.lt _ (getD_lt (by omega)))).1⟩
      · rw [← hM]
        exact sub_chn ch r
      · rw [← hM]
        exact sub_led r hl
    obtain ⟨wo, wsz⟩ := weights_of_ok (f := f) (P := pk ks) (l := L h) n4 hM (by omega) r.lt b0
    obtain ⟨ws, wnn, w0⟩ := wG_stat M _ b0.c b0.led
    generalize wG M (subB (pk ks) (L h)) = w at *
    have hst := wz_stat (w := w) r (by rw [hM]; exact ws)
    obtain ⟨ps, wh, waysok, plen⟩ := ways_home_ok (f := f) (P := pk ks) n4 hh hl
    rw [hHL] at nn
    have hH : oIx (.list (natsD (h :: hr))) (.int 0) = some (.dat (.int (h : Nat))) := by
      rw [e_ix_list, show natsD (h :: hr) = PyData.int (h : Nat) :: natsD hr from rfl, e_at0]
      rfl
    have nz : (d_NOUGHT : PyData) = enc 0 := rfl
    have hn2 : oNe (.list (natsD (h :: hr))) (.list []) = some (.dat (.bool true)) := by
      rw [nn]
      rfl
    rw [e_seq, ev_bind]
    simp only [e_if]
    rw [ev_bind]
    have tst : (cT (cBin oNe (cVar 3) (cLst []))) [.dat (kindsD ks), .dat (rowsP ks.length (pk ks)), .dat (.list ((List.range ks.length).map fun i => .list (natsD (L i)))), .dat (.list (natsD (h :: hr))), .emp, .emp, .emp, .emp, .emp, .emp, .emp, .emp] f = .ok true f := by
      generalize natsD (h :: hr) = H at *
      generalize rowsP ks.length (pk ks) = R at *
      generalize ((List.range ks.length).map fun i => PyData.list (natsD (L i))) = SP at *
      generalize kindsD ks = K at *
      simp [hn2]
    rw [tst]
    refine Ev.of rfl ?_
    simp only [if_true]
    refine ev_step (fun ρ g => g = f ∧ ρ = [.dat (kindsD ks), .dat (rowsP ks.length (pk ks)), .dat (.list ((List.range ks.length).map fun i => .list (natsD (L i)))), .dat (.list (natsD (h :: hr))), .dat (.int (h : Nat)), .emp, .emp, .emp, .emp, .emp, .emp, .emp]) (by
      generalize natsD (h :: hr) = H at *
      simp [hH]) ?_
    rintro _ f ⟨rfl, rfl⟩
    generalize natsD (h :: hr) = H at *
    refine ev_step (fun ρ g => g = f ∧ ρ = [.dat (kindsD ks), .dat (rowsP ks.length (pk ks)), .dat (.list ((List.range ks.length).map fun i => .list (natsD (L i)))), .dat (.list H), .dat (.int (h : Nat)), .own (wsD ks.length (wz (L h) w 0)), .emp, .emp, .emp, .emp, .emp, .emp]) ?_ ?_
    · have lc4 : ∀ (s0 s1 s2 s5 s10 : Slot), lcN (.one 10) cYes (cC d_NOUGHT) [s0, s1, s2, .dat (.list H), .dat (.int (h : Nat)), s5, .emp, .emp, .emp, .emp, s10, .emp] ((List.range ks.length).map (rwP ks.length (pk ks))) [] f = .ok (wsD ks.length (wz (L h) w 0)) f := fun s0 s1 s2 s5 s10 => by
        refine lc_map (by rw [List.length_range]; omega) fun k _ => ⟨_, rfl, ?_⟩
        simp
        rfl
      have sq : seqOf (rowsP ks.length (pk ks)) = some ((List.range ks.length).map (rwP ks.length (pk ks))) := rfl
      generalize wsD ks.length (wz (L h) w 0) = WD at *
      generalize ((List.range ks.length).map (rwP ks.length (pk ks))) = RR at *
      generalize rowsP ks.length (pk ks) = R at *
      generalize ((List.range ks.length).map fun i => PyData.list (natsD (L i))) = SP at *
      generalize kindsD ks = K at *
      simp [sq, lc4]
    rintro _ f ⟨rfl, rfl⟩
    have aL := atL h hh
    refine ev_stp (fun ρ g => g = f ∧ ∃ s6 s7 : Slot, ρ = [.dat (kindsD ks), .dat (rowsP ks.length (pk ks)), .dat (.list ((List.range ks.length).map fun i => .list (natsD (L i)))), .dat (.list H), .dat (.int (h : Nat)), .own (wsD ks.length (wz (L h) w (M + 1))), s6, s7, .emp, .emp, .emp, .emp]) ?_ ?_
    · intro Q' hQ
      rw [e_for]
      have it : (iZip (cBin oIx (cVar 2) (cVar 4)) (cCall F_weights_of [cVar 1, cBin oIx (cVar 2) (cVar 4)])) [.dat (kindsD ks), .dat (rowsP ks.length (pk ks)), .dat (.list ((List.range ks.length).map fun i => .list (natsD (L i)))), .dat (.list H), .dat (.int (h : Nat)), .own (wsD ks.length (wz (L h) w 0)), .emp, .emp, .emp, .emp, .emp, .emp] f = .ok (zipD (natsD (L h)) ((List.range (M + 1)).map fun k => enc (w k))) f := by
        generalize ((List.range (M + 1)).map fun k => enc (w k)) = WW at *
        generalize rowsP ks.length (pk ks) = R at *
        generalize natsD (L h) = T at *
        generalize ((List.range ks.length).map fun i => PyData.list (natsD (L i))) = SP at *
        generalize kindsD ks = K at *
        simp [-e_ix_list, aL, wo]
      rw [it, ev_bind]
      refine Ev.of rfl ?_
      have lz : (zipD (natsD (L h)) ((List.range (M + 1)).map fun k => enc (w k))).length = M + 1 := by
        rw [zipD_length, List.length_map, List.length_range]
        unfold natsD
        rw [List.length_map, hM, Nat.min_self]
      refine ev_for (I := fun t ρ g => g = f ∧ ∃ s6 s7 : Slot, ρ = [.dat (kindsD ks), .dat (rowsP ks.length (pk ks)), .dat (.list ((List.range ks.length).map fun i => .list (natsD (L i)))), .dat (.list H), .dat (.int (h : Nat)), .own (wsD ks.length (wz (L h) w t)), s6, s7, .emp, .emp, .emp, .emp]) ⟨rfl, .emp, .emp, rfl⟩ ?_ ?_
      · rintro t d ρ g hd ⟨rfl, s6, s7, rfl⟩
        have ht : t < M + 1 := by
          have := (List.getElem?_eq_some_iff.mp hd).1
          rwa [lz] at this
        have x1 : (natsD (L h))[t]? = some (.int ((L h).getD t 0 : Nat)) := by
          unfold natsD
          rw [List.getElem?_map, List.getElem?_eq_getElem (by omega), List.getD_eq_getElem?_getD, List.getElem?_eq_getElem (by omega)]
          rfl
        have x2 : ((List.range (M + 1)).map fun k => enc (w k))[t]? = some (enc (w t)) := by
          rw [List.getElem?_map, List.getElem?_range ht]
          rfl
        have ed : d = .tuple [.int ((L h).getD t 0 : Nat), enc (w t)] := by
          rw [zipD_get x1 x2] at hd
          exact (Option.some.inj hd).symm
        subst ed
        refine ⟨_, put_two5, ?_⟩
        simp only [List.set_cons_succ, List.set_cons_zero]
        have lt := r.lt _ (getD_lt (l := L h) (i := t) (by omega))
        have st := ws_setP (w := wz (L h) w t) (x := w t) lt
        have st : (wsD ks.length (wz (L h) w t)).set ((L h).getD t 0) (enc (w t)) = wsD ks.length (wz (L h) w (t + 1)) := st
        have ix : ixN (wsD ks.length (wz (L h) w t)).length (((L h).getD t 0 : Nat) : Int) = some ((L h).getD t 0) := by
          unfold wsD
          rw [ixN_nat, List.length_map, List.length_range, if_pos lt]
        refine ⟨.nx [.dat (kindsD ks), .dat (rowsP ks.length (pk ks)), .dat (.list ((List.range ks.length).map fun i => .list (natsD (L i)))), .dat (.list H), .dat (.int (h : Nat)), .own (wsD ks.length (wz (L h) w (t + 1))), .dat (.int ((L h).getD t 0 : Nat)), .dat (enc (w t)), .emp, .emp, .emp, .emp], g, ?_, rfl, _, _, rfl⟩
        generalize wsD ks.length (wz (L h) w (t + 1)) = WD2 at *
        generalize wsD ks.length (wz (L h) w t) = WD at *
        generalize (L h).getD t 0 = q at *
        generalize enc (w t) = y at *
        generalize rowsP ks.length (pk ks) = R at *
        generalize ((List.range ks.length).map fun i => PyData.list (natsD (L i))) = SP at *
        generalize kindsD ks = K at *
        simp [-Dn.ixN_nat, ix, st]
      · rintro ρ g ⟨rfl, s6, s7, rfl⟩
        rw [lz]
        exact ⟨_, rfl, hQ _ _ ⟨rfl, s6, s7, rfl⟩⟩
    rintro _ f ⟨rfl, s6, s7, rfl⟩
    refine ev_step (fun ρ g => g = f ∧ ρ = [.dat (kindsD ks), .dat (rowsP ks.length (pk ks)), .dat (.list ((List.range ks.length).map fun i => .list (natsD (L i)))), .dat (.list H), .dat (.int (h : Nat)), .dat (.list (wsD ks.length (wz (L h) w (M + 1)))), s6, s7, .emp, .emp, .emp, .emp]) (by simp) ?_
    rintro _ f ⟨rfl, rfl⟩
    obtain ⟨z1, z2⟩ := wz_sz (l := L h) (w := w) n4 (show M ≤ 3 by omega) wsz
    have pos : 0 < rs ks.length (wz (L h) w (M + 1)) := by
      have s := wz_sum (w := w) (c := fun _ => 1) r.nd r.lt (M + 1) (by omega)
      rw [rs_congr (g := fun j => wz (L h) w (M + 1) j * 1) (h := wz (L h) w (M + 1)) fun i _ => Rat.mul_one _, rs_congr (g := fun i => w i * 1) (h := w) fun i _ => Rat.mul_one _] at s
      rw [s]
      have := rs_ge1 (n := M + 1) (g := w) wnn 0 (by omega)
      rw [w0] at this
      grind
    have bw := by_whole_q (f := f) (d := .list (wsD ks.length (wz (L h) w (M + 1)))) (n := ks.length) (g := wz (L h) w (M + 1)) (by omega) rfl z1 (fun i _ => z2 i) pos
    rw [hM] at hst
    have tw := told_tw pw ch hh hl hst pos
    have ew : (List.range ks.length).map (fun i => enc (wz (L h) w (M + 1) i / rs ks.length (wz (L h) w (M + 1)))) = wsD ks.length (twW ks.length (pk ks)) := List.map_congr_left fun i hi => by rw [tw i (List.mem_range.mp hi)]
    rw [ew] at bw
    have X : ∃ d, PyData.tuple [.str (Str.ofString "share"), .int (h : Nat), .tuple (wsD ks.length (twW ks.length (pk ks))), .tuple (ps.map Fp.prD)] = d ∧ PaperOk ks W d := ⟨_, rfl, .inl ⟨h, ps, rfl, ⟨hh, hl, waysok, plen⟩⟩⟩
    generalize wsD ks.length (wz (L h) w (M + 1)) = WD at *
    generalize wsD ks.length (twW ks.length (pk ks)) = WD2 at *
    generalize ps.map Fp.prD = PD at *
    generalize rowsP ks.length (pk ks) = R at *
    generalize ((List.range ks.length).map fun i => PyData.list (natsD (L i))) = SP at *
    simp [bw, wh]
    simpa using X
  | nil =>
    rw [hHL] at nn
    have hn2 : oNe (.list (natsD [])) (.list []) = some (.dat (.bool false)) := by
      rw [nn]
      rfl
    generalize natsD [] = H at *
    refine ev_step (fun ρ g => g = f ∧ ρ = [.dat (kindsD ks), .dat (rowsP ks.length (pk ks)), .dat (.list ((List.range ks.length).map fun i => .list (natsD (L i)))), .dat (.list H), .emp, .emp, .emp, .emp, .emp, .emp, .emp, .emp]) (by
      generalize ((List.range ks.length).map fun i => PyData.list (natsD (L i))) = SP at *
      simp [hn2]) ?_
    rintro _ f ⟨rfl, rfl⟩
    have lcD : ∀ (i j : Nat) (s0 s1 s6 s10 s11 : Slot), i < ks.length → j < ks.length → lcN (.one 6) cYes (cBin (oInF true) (cVar 6) (cBin oIx (cVar 2) (cVar 8))) [s0, s1, .dat (.list ((List.range ks.length).map fun i => .list (natsD (L i)))), .dat (.list H), .emp, .emp, s6, .emp, .dat (.int (i : Nat)), .dat (.int (j : Nat)), s10, s11] ((L j).map nD) [] f = .ok ((L j).map fun k => .bool (!decide (k ∈ L i))) f := fun i j s0 s1 s6 s10 s11 hi hj => by
      refine lc_map (by have := nodup_lt (hL j hj).2.nd (hL j hj).2.lt; omega) fun k hk => ⟨_, rfl, ?_⟩
      have q := nin_nats (k := k) (A := L i)
      have a := atL i hi
      generalize natsD (L i) = T at *
      generalize ((List.range ks.length).map fun i => PyData.list (natsD (L i))) = SP at *
      simp [-e_ix_list, a, q]
    have tb : ∀ (i j : Nat) (s0 s1 s6 s10 s11 : Slot), i < ks.length → j < ks.length → (cT (cUn oAll (cLc (iSeq (cBin oIx (cVar 2) (cVar 9))) (.one 6) cYes (cBin (oInF true) (cVar 6) (cBin oIx (cVar 2) (cVar 8))) [6]))) [s0, s1, .dat (.list ((List.range ks.length).map fun i => .list (natsD (L i)))), .dat (.list H), .emp, .emp, s6, .emp, .dat (.int (i : Nat)), .dat (.int (j : Nat)), s10, s11] f = .ok ((L j).all fun k => !decide (k ∈ L i)) f := fun i j s0 s1 s6 s10 s11 hi hj => by
      have l1 := lcD i j s0 s1 .emp s10 s11 hi hj
      have a := atL j hj
      have al := all_map6 (L j) fun k => !decide (k ∈ L i)
      have sq : seqOf (.list (natsD (L j))) = some ((L j).map nD) := rfl
      generalize ((L j).map fun k => PyData.bool (!decide (k ∈ L i))) = B at *
      generalize (L j).map nD = T2 at *
      generalize natsD (L j) = T at *
      generalize ((List.range ks.length).map fun i => PyData.list (natsD (L i))) = SP at *
      simp at sq
      subst sq
      simp [-e_ix_list, a, l1, al]
    have dis : ∀ i j, i < ks.length → j < ks.length → ((L j).all fun k => !decide (k ∈ L i)) = true → ∀ a, Led ks.length (pk ks) j a → ¬ Led ks.length (pk ks) i a := fun i j hi hj h a ha hb => by
      have := List.all_eq_true.mp h a (((hL j hj).2.mem a).mpr ha)
      simp [((hL i hi).2.mem a).mpr hb] at this
    have ndis : ∀ i j, i < ks.length → j < ks.length → ((L j).all fun k => !decide (k ∈ L i)) = false → ∃ a, Led ks.length (pk ks) i a ∧ Led ks.length (pk ks) j a := fun i j hi hj h => by
      apply Classical.byContradiction
      intro q
      have : ((L j).all fun k => !decide (k ∈ L i)) = true := List.all_eq_true.mpr fun k hk => by
        have nm : k ∉ L i := fun m => q ⟨k, ((hL i hi).2.mem k).mp m, ((hL j hj).2.mem k).mp hk⟩
        simp [nm]
      rw [this] at h
      cases h
    rw [e_seq, ev_bind]
    suffices hF : Ev ((sFor (iRange1 (cUn oLen (cVar 1))) (.one 8) (sFor (iRange1 (cVar 8)) (.one 9) (sIf (cT (cUn oAll (cLc (iSeq (cBin oIx (cVar 2) (cVar 9))) (.one 6) (cYes) (cBin (oInF true) (cVar 6) (cBin oIx (cVar 2) (cVar 8))) [6]))) (sRet (cTup [cC (.str "apart"), cUn oTuple (cUn oSortI (cBin oIx (cVar 2) (cVar 9))), cUn oTuple (cUn oSortI (cBin oIx (cVar 2) (cVar 8)))])) (sNext)))) [.dat (kindsD ks), .dat (rowsP ks.length (pk ks)), .dat (.list ((List.range ks.length).map fun i => .list (natsD (L i)))), .dat (.list H), .emp, .emp, .emp, .emp, .emp, .emp, .emp, .emp] f) fun c g => g = f ∧ ∃ d, c = .rt (.dat d) ∧ PaperOk ks W d by
      refine Ev.mono hF ?_
      rintro _ g ⟨rfl, d, rfl, hd⟩
      simp
      exact hd
    rw [e_for]
    have it : (iRange1 (cUn oLen (cVar 1))) [.dat (kindsD ks), .dat (rowsP ks.length (pk ks)), .dat (.list ((List.range ks.length).map fun i => .list (natsD (L i)))), .dat (.list H), .emp, .emp, .emp, .emp, .emp, .emp, .emp, .emp] f = .ok (rangeD 0 ks.length) f := by
      generalize rowsP ks.length (pk ks) = R at *
      simp [e0, sm]
    rw [it, ev_bind]
    refine Ev.of rfl ?_
    refine ev_for (I := fun i ρ g => g = f ∧ (∀ a b, a < i → b < a → ∃ k, Led ks.length (pk ks) a k ∧ Led ks.length (pk ks) b k) ∧ ∃ s8 s9 : Slot, ρ = [.dat (kindsD ks), .dat (rowsP ks.length (pk ks)), .dat (.list ((List.range ks.length).map fun i => .list (natsD (L i)))), .dat (.list H), .emp, .emp, .emp, .emp, s8, s9, .emp, .emp]) ⟨rfl, fun a b h => by omega, .emp, .emp, rfl⟩ ?_ ?_
    · rintro i d ρ g hd ⟨rfl, none1, s8, s9, rfl⟩
      obtain ⟨rfl, hi⟩ := range_at hd
      refine ⟨_, rfl, ?_⟩
      simp only [List.set_cons_succ, List.set_cons_zero, Int.zero_add]
      rw [e_for]
      have it : (iRange1 (cVar 8)) [.dat (kindsD ks), .dat (rowsP ks.length (pk ks)), .dat (.list ((List.range ks.length).map fun i => .list (natsD (L i)))), .dat (.list H), .emp, .emp, .emp, .emp, .dat (.int (i : Nat)), s9, .emp, .emp] g = .ok (rangeD 0 i) g := by
        simp [smallI_ok (n := (i : Int)) (by omega) (by omega)]
      rw [it, ev_bind]
      refine Ev.of rfl ?_
      refine ev_for (I := fun j ρ f => f = g ∧ (∀ b, b < j → ∃ k, Led ks.length (pk ks) i k ∧ Led ks.length (pk ks) b k) ∧ ∃ s9 : Slot, ρ = [.dat (kindsD ks), .dat (rowsP ks.length (pk ks)), .dat (.list ((List.range ks.length).map fun i => .list (natsD (L i)))), .dat (.list H), .emp, .emp, .emp, .emp, .dat (.int (i : Nat)), s9, .emp, .emp]) ⟨rfl, fun b h => by omega, s9, rfl⟩ ?_ ?_
      · rintro j d ρ f hd ⟨rfl, none2, s9, rfl⟩
        obtain ⟨rfl, hj⟩ := range_at hd
        refine ⟨_, rfl, ?_⟩
        simp only [List.set_cons_succ, List.set_cons_zero, Int.zero_add]
        have hjn : j < ks.length := by omega
        have t := tb i j (.dat (kindsD ks)) (.dat (rowsP ks.length (pk ks))) .emp .emp .emp hi hjn
        simp only [e_if]
        rw [ev_bind, t]
        refine Ev.of rfl ?_
        cases c : ((L j).all fun k => !decide (k ∈ L i)) with
        | true =>
          simp only [if_true]
          have s1 := srt_rch hjn (hL j hjn).2
          have s2 := srt_rch hi (hL i hi).2
          have a1 := atL j hjn
          have a2 := atL i hi
          have X : PaperOk ks W (.tuple [.str (Str.ofString "apart"), .tuple (natsD (rchL ks.length (pk ks) j)), .tuple (natsD (rchL ks.length (pk ks) i))]) := .inr ⟨(rchL ks.length (pk ks) j, rchL ks.length (pk ks) i), rfl, pairs_clos n4 hjn hi (dis i j hi hjn c), hHL⟩
          refine ⟨.rt (.dat (.tuple [.str (Str.ofString "apart"), .tuple (natsD (rchL ks.length (pk ks) j)), .tuple (natsD (rchL ks.length (pk ks) i))])), f, ?_, rfl, _, rfl, X⟩
          generalize natsD (rchL ks.length (pk ks) j) = A1 at *
          generalize natsD (rchL ks.length (pk ks) i) = A2 at *
          generalize natsD (L j) = T1 at *
          generalize natsD (L i) = T2 at *
          generalize ((List.range ks.length).map fun i => PyData.list (natsD (L i))) = SP at *
          simp [-e_ix_list, a1, a2, s1, s2]
        | false =>
          simp only [if_false, Bool.false_eq_true]
          refine ⟨_, f, rfl, rfl, fun b hb => ?_, _, rfl⟩
          rcases Nat.lt_or_eq_of_le (Nat.le_of_lt_succ hb) with q | rfl
          · exact none2 b q
          · exact ndis i b hi hjn c
      · rintro ρ f ⟨rfl, none2, s9, rfl⟩
        rw [range_len] at none2
        refine ⟨rfl, fun a b ha hb => ?_, _, _, rfl⟩
        rcases Nat.lt_or_eq_of_le (Nat.le_of_lt_succ ha) with q | rfl
        · exact none1 a b q hb
        · exact none2 b hb
    · rintro ρ g ⟨rfl, none1, s8, s9, rfl⟩
      rw [range_len] at none1
      exfalso
      obtain ⟨c, c1, c2⟩ := home_all (P := pk ks) n1 fun i j hi hj => by
        rcases Nat.lt_trichotomy i j with q | q | q
        · obtain ⟨k, k1, k2⟩ := none1 j i hj q
          exact ⟨k, k2, k1⟩
        · subst q
          exact ⟨i, .refl i hi, .refl i hi⟩
        · exact none1 i j hi q
      have : c ∈ homL ks.length (pk ks) := mem_hom.mpr ⟨c1, c2⟩
      rw [hHL] at this
      cases this
end
end Fp
namespace Fp
open PySem PySem.Spec L2 Dn
section
variable {W : Nat} {ks : List (List Tri)} {f : Feed}
theorem zip_map {α : Type} {g h : α → PyData} : ∀ (l : List α), zipD (l.map g) (l.map h) = l.map fun x => .tuple [g x, h x]
  | [] => rfl
  | a :: r => by
    rw [List.map_cons, List.map_cons, List.map_cons, zipD, zip_map r]
end
end Fp
namespace Fp
open PySem PySem.Spec L2 Dn
def cov {α : Type} (z : α) (F : (Nat → α) → Nat → α) : Nat → List α
  | 0 => []
  | m + 1 => cov z F m ++ [F (fun q => (cov z F m).getD q z) m]
def cvv {α : Type} (z : α) (F : (Nat → α) → Nat → α) (m : Nat) : α := (cov z F (m + 1)).getD m z
section
variable {α : Type} {z : α} {F : (Nat → α) → Nat → α}
end
def kAt (ks : List (List Tri)) (i : Nat) : List Tri := ks.getD i []
def pairsK (ks : List (List Tri)) : List (Nat × Tri) := (List.range ks.length).flatMap fun i => (kAt ks i).map fun t => (i, t)
theorem getD_mem {ks : List (List Tri)} {i : Nat} (h : i < ks.length) : kAt ks i ∈ ks := by
  unfold kAt
  rw [List.getD_eq_getElem?_getD, List.getElem?_eq_getElem h]
  exact List.getElem_mem h
/-- what a triple gives to kind j at beat m -/
def cb (R : Nat → Nat → Rat) (m : Nat) (p : Nat × Tri) (j : Nat) : Rat := if p.2.nx = j ∧ p.2.st ≤ m then R (m - p.2.st) p.1 * p.2.c else 0
def sb (R : Nat → Nat → Rat) (m : Nat) (l : List (Nat × Tri)) (j : Nat) : Rat := (l.map fun p => cb R m p j).sum
def rb (R : Nat → Nat → Rat) (m : Nat) (ks : List (List Tri)) (j : Nat) : Rat := sb R m (pairsK ks) j
/-- a row of ratios -/
def rw' (n : Nat) (g : Nat → Rat) : List PyData := (List.range n).map fun j => enc (g j)
/-- the first i kinds' triples -/
def pre (ks : List (List Tri)) (i : Nat) : List (Nat × Tri) := (List.range i).flatMap fun i => (kAt ks i).map fun t => (i, t)
def kpF (ks : List (List Tri)) (a : Nat) (R : Nat → Nat → Rat) (m : Nat) : Nat → Rat := if m = 0 then fun j => if j = a then 1 else 0 else rb R m ks
/-- the chance that a part of kind j is put at beat m, the first one of kind a -/
def kp (ks : List (List Tri)) (a : Nat) : Nat → Nat → Rat := cvv (fun _ => 0) (kpF ks a)
section
variable {W a : Nat} {ks : List (List Tri)} {f : Feed}
@[simp] theorem e_CallLk {F : Dn.Fn} {xs : List Ex} {i : Nat} {ρ : Rho} {f : Feed} : cCallL F xs i ρ f = (cVals xs ρ f).bind fun as f1 => match ρ[i]? with
  | some (.own ds) => (F (as ++ [.dat (.list ds)]) f1).bind keepF
  | _ => .no := nr rfl
end
end Fp
namespace Fp
open PySem PySem.Spec L2 Dn
theorem rs_one {n a : Nat} {g : Nat → Rat} : rs n (fun i => if i = a then g i else 0) = if a < n then g a else 0 := by
  induction n with
  | zero => rfl
  | succ n ih =>
    rw [rs_succ, ih]
    by_cases e : n = a
    · subst e
      rw [if_pos rfl, if_neg (Nat.lt_irrefl _), if_pos (Nat.lt_succ_self _)]
      grind
    · rw [if_neg e]
      by_cases c : a < n
      · rw [if_pos c, if_pos (by omega)]
        grind
      · rw [if_neg c, if_neg (by omega)]
        grind
end Fp
namespace Fp
open PySem PySem.Spec L2 Dn
section
variable {n : Nat} {T : Nat → Nat → Nat → Rat} {P Q : Nat → Nat → Nat → Rat}
end
end Fp
namespace Fp
open PySem PySem.Spec L2 Dn
def pT (d j : Nat) (t : Tri) : Bool := decide (t.nx = j) && decide (t.st = d + 1)
/-- the chance that kind i lasts d + 1 and leads to j -/
def tk (ks : List (List Tri)) (d i j : Nat) : Rat := cp (kAt ks i) (pT d j)
/-- by the first stretch -/
def qs (R : Nat → Nat → Rat) (m : Nat) (k : List Tri) : Rat := (k.map fun t => if t.st ≤ m then t.c * R (m - t.st) t.nx else 0).sum
section
variable {W : Nat} {ks : List (List Tri)}
theorem st1 (h : KsOk W ks) (a : Nat) : ∀ t ∈ kAt ks a, 1 ≤ t.st ∧ t.nx < ks.length := fun t ht => by
  by_cases c : a < ks.length
  · have := (h.ok _ (getD_mem c)).st t ht
    exact ⟨this.1, this.2.2⟩
  · unfold kAt at ht
    rw [List.getD_eq_getElem?_getD, List.getElem?_eq_none (by omega)] at ht
    cases ht
/-- the chance that kind j lasts longer -/
def pL (g : Nat) (t : Tri) : Bool := decide (t.st ≤ g)
def stl (ks : List (List Tri)) (j g : Nat) : Rat := 1 - cp (kAt ks j) (pL g)
def stands (ks : List (List Tri)) (a m j : Nat) : Rat := rs (m + 1) fun g => kp ks a (m - g) j * stl ks j g
end
theorem rowS_split (k : List Tri) : ∃ n, rowS k = (lifeK k).row ++ List.replicate n 0 := by
  rw [lifeK_eqS]
  obtain ⟨n, e⟩ := tz_split (rowS k).reverse
  refine ⟨n, ?_⟩
  have := congrArg List.reverse e
  rw [List.reverse_reverse, List.reverse_append, List.reverse_replicate] at this
  exact this
theorem rowS_get {n W : Nat} {k : List Tri} (h : KdOk n W k) (j : Nat) : (rowS k).getD j 0 = cp k (pS (j + 1)) := by
  unfold rowS
  by_cases c : j < 6
  · rw [List.getD_eq_getElem?_getD, List.getElem?_map, List.getElem?_eq_getElem (by simpa using c), List.getElem_range]
    rfl
  · rw [List.getD_eq_getElem?_getD, List.getElem?_eq_none (by simp; omega)]
    have : k.filter (pS (j + 1)) = [] := List.filter_eq_nil_iff.mpr fun t ht => by
      have := (h.st t ht).2.1
      unfold pS
      simp
      omega
    unfold cp
    rw [this]
    rfl
theorem ch_lifeK {n W : Nat} {k : List Tri} (h : KdOk n W k) (j : Nat) : ch (lifeK k) (j + 1) = cp k (pS (j + 1)) := by
  obtain ⟨m, e⟩ := rowS_split k
  have e0 : (lifeK k).step = 0 := by rw [lifeK_eqS]
  rw [← rowS_get h, e]
  unfold ch
  by_cases c : j + 1 ≤ (lifeK k).row.length
  · rw [if_pos c, Nat.add_sub_cancel, List.getD_eq_getElem?_getD, List.getD_eq_getElem?_getD, List.getElem?_append_left (by omega)]
  · rw [if_neg c, if_pos e0, List.getD_eq_getElem?_getD, List.getElem?_append_right (by omega)]
    by_cases c2 : j - (lifeK k).row.length < m
    · rw [List.getElem?_eq_getElem (by simpa using c2), List.getElem_replicate]
      rfl
    · rw [List.getElem?_eq_none (by simpa using c2)]
      rfl
theorem cp_sum6 {k : List Tri} : (∀ t ∈ k, 1 ≤ t.st ∧ t.st ≤ 6) → rs 6 (fun j => cp k (pS (j + 1))) = (k.map (·.c)).sum := by
  induction k with
  | nil =>
    intro _
    rw [rs_congr (h := fun _ => 0) fun j _ => cp_nil, rs_0]
    rfl
  | cons t k ih =>
    intro h
    rw [List.map_cons, List.sum_cons, ← ih fun s hs => h s (List.mem_cons_of_mem _ hs)]
    have : rs 6 (fun j => cp (t :: k) (pS (j + 1))) = (rs 6 fun j => if j = t.st - 1 then t.c else 0) + rs 6 fun j => cp k (pS (j + 1)) := by
      rw [← rs_add]
      refine rs_congr fun j _ => ?_
      rw [cp_cons]
      congr 1
      have := (h t List.mem_cons_self).1
      unfold pS
      by_cases c : j = t.st - 1
      · rw [if_pos (by simp; omega), if_pos c]
      · rw [if_neg (by simp; omega), if_neg c]
    have h1 := h t List.mem_cons_self
    rw [this, rs_one (g := fun _ => t.c), if_pos (by omega)]
theorem sum_rep (m : Nat) : (List.replicate m (0 : Rat)).sum = 0 := by
  induction m with
  | zero => rfl
  | succ m ih => rw [List.replicate_succ, List.sum_cons, ih]; grind
theorem lifeK_ok {n V : Nat} {k : List Tri} (h : KdOk n V k) : LOk V 1 (lifeK k) := by
  obtain ⟨m, e⟩ := rowS_split k
  have e0 : (lifeK k).step = 0 := by rw [lifeK_eqS]
  refine ⟨h.W0, by decide, fun x hx => ?_, by rw [e0]; exact wh_0, by rw [e0]; exact Rat.le_refl, by rw [e0]; decide, fun _ => e0, ?_⟩
  · have : x ∈ rowS k := by rw [e]; exact List.mem_append_left _ hx
    obtain ⟨j, _, rfl⟩ := List.mem_map.mp this
    exact h.cp _
  · have s1 : (rowS k).sum = (lifeK k).row.sum := by
      rw [e, sum_app, sum_rep]
      grind
    have s2 : (rowS k).sum = (k.map (·.c)).sum := by
      rw [← cp_sum6 fun t ht => ⟨(h.st t ht).1, (h.st t ht).2.1⟩]
      rfl
    have h1 := h.sum
    unfold tot
    rw [e0, Rat.mul_zero, ← s1, s2]
    grind
end Fp
namespace Fp
open PySem PySem.Spec L2 Dn
def mnK (k : List Tri) : Rat := (k.map fun t => (t.st : Rat) * t.c).sum
theorem cp_sumM {k : List Tri} : (∀ t ∈ k, 1 ≤ t.st ∧ t.st ≤ 6) → rs 6 (fun j => ((j : Rat) + 1) * cp k (pS (j + 1))) = mnK k := by
  induction k with
  | nil =>
    intro _
    rw [rs_congr (h := fun _ => 0) fun j _ => by rw [cp_nil, Rat.mul_zero], rs_0]
    rfl
  | cons t k ih =>
    intro h
    have e : mnK (t :: k) = (t.st : Rat) * t.c + mnK k := by
      unfold mnK
      rw [List.map_cons, List.sum_cons]
    rw [e, ← ih fun s hs => h s (List.mem_cons_of_mem _ hs)]
    have h1 := h t List.mem_cons_self
    have : rs 6 (fun j => ((j : Rat) + 1) * cp (t :: k) (pS (j + 1))) = (rs 6 fun j => if j = t.st - 1 then ((j : Rat) + 1) * t.c else 0) + rs 6 fun j => ((j : Rat) + 1) * cp k (pS (j + 1)) := by
      rw [← rs_add]
      refine rs_congr fun j _ => ?_
      rw [cp_cons]
      unfold pS
      by_cases c : j = t.st - 1
      · rw [if_pos (by simp; omega), if_pos c]
        grind
      · rw [if_neg (by simp; omega), if_neg c]
        grind
    rw [this, rs_if, if_pos (by omega)]
    congr 2
    have e2 : ((t.st - 1 : Nat) : Rat) + 1 = ((t.st - 1 + 1 : Nat) : Rat) := by
      rw [Rat.natCast_add]
      rfl
    rw [e2, show t.st - 1 + 1 = t.st by omega]
theorem whn {m : Nat} : (m : Rat) * ((1 : Nat) : Rat) = (((m : Nat) : Int) : Rat) := by
  have : ((1 : Nat) : Rat) = 1 := rfl
  rw [this, Rat.mul_one]
  rfl
section
variable {n V W : Nat} {k : List Tri} {ks : List (List Tri)} {f : Feed}
theorem ch_beyond (L : Life) (z : L.step = 0) {j : Nat} (h : L.row.length ≤ j) : ch L (j + 1) = 0 := by
  unfold ch
  rw [if_neg (by omega), if_pos z]
theorem rs_padM {t : Nat → Rat} {m : Nat} (h : ∀ i, m ≤ i → t i = 0) : ∀ d, rs (m + d) t = rs m t
  | 0 => rfl
  | d + 1 => by
    rw [← Nat.add_assoc, rs_succ, rs_padM h d, h (m + d) (by omega)]
    grind
theorem meanK (h : KdOk n V k) : meanV (lifeK k) = mnK k := by
  have z : (lifeK k).step = 0 := by rw [lifeK_eqS]
  have l6 := (lifeK_row (k := k)).1
  unfold meanV
  rw [z]
  have e0 : lastR (lifeK k) * (((lifeK k).row.length : Rat) * (0 / (1 - 0)) + 0 / (1 - 0) / (1 - 0)) = 0 := by grind
  rw [e0, Rat.add_zero, ← cp_sumM fun t ht => ⟨(h.st t ht).1, (h.st t ht).2.1⟩]
  rw [← rs_padM (t := fun k_1 => ((k_1 : Rat) + 1) * ch (lifeK k) (k_1 + 1)) (m := (lifeK k).row.length) (fun i hi => by
    show ((i : Rat) + 1) * ch (lifeK k) (i + 1) = 0
    rw [ch_beyond _ z hi, Rat.mul_zero]) (6 - (lifeK k).row.length), show (lifeK k).row.length + (6 - (lifeK k).row.length) = 6 by omega]
  exact rs_congr fun j _ => by rw [ch_lifeK h]
theorem missK (h : KdOk n V k) (hf : fullK k) : miss (lifeK k) = 0 := by
  have z : (lifeK k).step = 0 := by rw [lifeK_eqS]
  obtain ⟨m, e⟩ := rowS_split k
  have s1 : (rowS k).sum = (lifeK k).row.sum := by
    rw [e, sum_app, sum_rep]
    grind
  have s2 : (rowS k).sum = (k.map (·.c)).sum := by
    rw [← cp_sum6 fun t ht => ⟨(h.st t ht).1, (h.st t ht).2.1⟩]
    rfl
  have hf : (k.map (·.c)).sum = 1 := hf
  unfold miss tot
  rw [z, Rat.mul_zero, ← s1, s2, hf]
  grind
theorem mean_K (h : KdOk n V k) (hV : V ≤ 200) (hf : fullK k) : F_mean [.dat (lifeD (lifeK k))] f = .ok (.dat (enc (mnK k))) f := by
  have := mean_q (f := f) (lifeK_ok h) (by omega) (by decide) (by have := (lifeK_row (k := k)).1; omega) (missK h hf)
  rwa [meanK h] at this
theorem mnK_ge : ∀ {k : List Tri}, (∀ t ∈ k, 1 ≤ t.st ∧ 0 ≤ t.c) → (k.map (·.c)).sum ≤ mnK k
  | [], _ => Rat.le_refl
  | t :: k, h => by
    have a := mnK_ge fun s hs => h s (List.mem_cons_of_mem _ hs)
    obtain ⟨h1, h2⟩ := h t List.mem_cons_self
    unfold mnK at a ⊢
    rw [List.map_cons, List.map_cons, List.sum_cons, List.sum_cons]
    have h3 : (1 : Rat) ≤ (t.st : Rat) := by
      have := Rat.natCast_le_natCast.mpr h1
      simpa using this
    have := Rat.mul_le_mul_of_nonneg_right h3 h2
    grind
theorem mnK_le : ∀ {k : List Tri}, (∀ t ∈ k, t.st ≤ 6 ∧ 0 ≤ t.c) → mnK k ≤ 6 * (k.map (·.c)).sum
  | [], _ => by show (0 : Rat) ≤ 6 * 0; grind
  | t :: k, h => by
    have a := mnK_le fun s hs => h s (List.mem_cons_of_mem _ hs)
    obtain ⟨h1, h2⟩ := h t List.mem_cons_self
    unfold mnK at a ⊢
    rw [List.map_cons, List.map_cons, List.sum_cons, List.sum_cons]
    have h3 : (t.st : Rat) ≤ 6 := by
      have := Rat.natCast_le_natCast.mpr h1
      simpa using this
    have := Rat.mul_le_mul_of_nonneg_right h3 h2
    grind
theorem mnK_wh : ∀ {k : List Tri}, (∀ t ∈ k, Wh V t.c) → Wh V (mnK k)
  | [], _ => wh_0
  | t :: k, h => by
    have a := mnK_wh fun s hs => h s (List.mem_cons_of_mem _ hs)
    unfold mnK at a ⊢
    rw [List.map_cons, List.sum_cons]
    refine Wh.add ?_ a
    have w : Wh 1 (t.st : Rat) := ⟨t.st, whn⟩
    have := w.mul (h t List.mem_cons_self)
    rwa [Nat.one_mul] at this
theorem mnK_ok (h : KdOk n V k) (hV : V ≤ 200) (hf : fullK k) : 1 ≤ mnK k ∧ Sz 12 (mnK k) := by
  have hf : (k.map (·.c)).sum = 1 := hf
  have c0 : ∀ t ∈ k, 0 ≤ t.c := fun t ht => Rat.le_of_lt (h.c t ht).2.1
  have g := mnK_ge (k := k) fun t ht => ⟨(h.st t ht).1, c0 t ht⟩
  have l := mnK_le (k := k) fun t ht => ⟨(h.st t ht).2.1, c0 t ht⟩
  rw [hf] at g l
  refine ⟨g, ab_sz (D := V) (B := 6) h.W0 (mnK_wh fun t ht => (h.c t ht).1) ⟨?_, ?_⟩ (by decide) (by omega)⟩
  · have : (-((6 : Nat) : Rat)) ≤ 0 := by decide
    grind
  · have : ((6 : Nat) : Rat) = 6 := rfl
    rw [this]
    grind
theorem q_all_sz {g : Nat → Rat} {e : Nat} {d : PyData} (hn : n ≤ 4) (he : e ≤ 700) (hd : seqOf d = some ((List.range n).map fun i => enc (g i))) (h : ∀ i, i < n → Sz e (g i)) : F_q_all [.dat d] f = .ok (.dat (enc (rs n g))) f := by
  obtain ⟨D, D0, D1, hD⟩ := wh_prod n h
  have d3 : D ≤ 2 ^ (e * 4) := Nat.le_trans D1 (Nat.pow_le_pow_right (by decide) (Nat.mul_le_mul_left e hn))
  refine q_all_d (xs := (List.range n).map g) (D := D) (B := 2 ^ e) (L := 7) (by rw [hd, List.map_map]; rfl) D0 (Nat.two_pow_pos e) (fun x hx => ?_) (fun x hx => ?_) (by rw [List.length_map, List.length_range]; omega) ?_
  · obtain ⟨i, hi, rfl⟩ := List.mem_map.mp hx
    exact hD i (List.mem_range.mp hi)
  · obtain ⟨i, hi, rfl⟩ := List.mem_map.mp hx
    exact ab_of_sz (h i (List.mem_range.mp hi))
  · have : 2 ^ e * (7 + 1) * D ≤ 2 ^ e * 2 ^ 3 * 2 ^ (e * 4) := Nat.mul_le_mul (Nat.le_refl _) d3
    rw [← Nat.pow_add, ← Nat.pow_add] at this
    exact Nat.lt_of_le_of_lt this (Nat.pow_lt_pow_right (by decide) (by omega))
theorem q_mean_K (h : KdOk n V k) (hV : V ≤ 200) : F_q_mean [.dat (kindD k)] f = .ok (.dat (enc (mnK k))) f := by
  have hl := h.len
  have lc : ∀ s0 s1 s2 s3 : Slot, lcN (.many [1, 2, 3]) cYes (cCall F_q_by [cTup [cVar 1, cC (.int 1)], cVar 3]) [s0, s1, s2, s3] (k.map triD) [] f = .ok (k.map fun t => enc ((t.st : Rat) * t.c)) f := fun s0 s1 s2 s3 => by
    refine lc_map (by omega) fun t ht => ⟨_, rfl, ?_⟩
    obtain ⟨s1, s6, sn⟩ := h.st t ht
    obtain ⟨w, c0, c1⟩ := h.c t ht
    have z1 : Sz 8 t.c := sz01 h.W0 w (Rat.le_of_lt c0) c1 (by omega)
    have en : enc (t.st : Rat) = .tuple [.int (t.st : Nat), .int 1] := by
      unfold enc
      simp
    have z2 : Sz 8 (t.st : Rat) := ⟨by simp; omega, by simp⟩
    have q := q_by_s (f := f) z2 z1 (by decide)
    rw [en] at q
    generalize enc ((t.st : Rat) * t.c) = y at *
    generalize enc t.c = y2 at *
    simp [q]
  have e : (k.map fun t => enc ((t.st : Rat) * t.c)) = (k.map fun t => (t.st : Rat) * t.c).map enc := by rw [List.map_map]; rfl
  have al := q_all_d (f := f) (d0 := .list (k.map fun t => enc ((t.st : Rat) * t.c))) (xs := k.map fun t => (t.st : Rat) * t.c) (D := V) (B := 6) (L := 24) (by rw [← e]; rfl) h.W0 (by decide) (fun x hx => by
    obtain ⟨t, ht, rfl⟩ := List.mem_map.mp hx
    have w : Wh 1 (t.st : Rat) := ⟨t.st, whn⟩
    have := w.mul (h.c t ht).1
    rwa [Nat.one_mul] at this) (fun x hx => by
    obtain ⟨t, ht, rfl⟩ := List.mem_map.mp hx
    obtain ⟨_, c0, c1⟩ := h.c t ht
    have h3 : (t.st : Rat) ≤ ((6 : Nat) : Rat) := Rat.natCast_le_natCast.mpr (h.st t ht).2.1
    have s0 : (0 : Rat) ≤ (t.st : Rat) := Rat.natCast_nonneg
    have a := Rat.mul_le_mul_of_nonneg_right h3 (Rat.le_of_lt c0)
    have b := Rat.mul_nonneg s0 (Rat.le_of_lt c0)
    have c : ((6 : Nat) : Rat) * t.c ≤ ((6 : Nat) : Rat) * 1 := Rat.mul_le_mul_of_nonneg_left c1 Rat.natCast_nonneg
    have z : (-((6 : Nat) : Rat)) ≤ 0 := by decide
    constructor <;> grind) (by rw [List.length_map]; exact hl) (by
      have : 6 * (24 + 1) * V ≤ 2 ^ 20 := by omega
      exact Nat.lt_of_le_of_lt this (Nat.pow_lt_pow_right (by decide) (by decide)))
  have al : F_q_all [.dat (.list (k.map fun t => enc ((t.st : Rat) * t.c)))] f = .ok (.dat (enc (mnK k))) f := al
  have sq : seqOf (kindD k) = some (k.map triD) := rfl
  apply ev_is
  rw [u_q_mean, ev_dEnd]
  unfold S_q_mean
  generalize (k.map fun t => enc ((t.st : Rat) * t.c)) = L at *
  generalize k.map triD = T at *
  generalize kindD k = K at *
  generalize enc (mnK k) = y at *
  simp [sq, lc, al]
/-- one by all: the other one turned about -/
theorem q_by_inv {x T : Rat} {e : Nat} (hx : Sz e x) (hT : Sz e T) (h0 : 0 < T) (he : e ≤ 4000) : F_q_by [.dat (enc x), .dat (.tuple [.int (T.den : Nat), .int T.num])] f = .ok (.dat (enc (x / T))) f := by
  have np := num_pos h0
  have e1 : oIx (enc x) (.int 0) = some (.dat (.int x.num)) := rfl
  have e2 : oIx (enc x) (.int 1) = some (.dat (.int (x.den : Nat))) := rfl
  have m1 : oMul (.int x.num) (.int (T.den : Nat)) = some (.dat (.int (x.num * T.den))) := oMul_int (mulC_sz (n := e) hx.num (by rw [Int.natAbs_natCast]; exact hT.den) he)
  have m3 : oMul (.int (x.den : Nat)) (.int T.num) = some (.dat (.int (x.den * T.num))) := oMul_int (mulC_sz (n := e) (by rw [Int.natAbs_natCast]; exact hx.den) hT.num he)
  have e3 : (x.den * T.num : Int) = ((x.den * T.num.toNat : Nat) : Int) := by
    rw [Int.natCast_mul, Int.toNat_of_nonneg (by omega)]
  rw [e3] at m3
  have b3 := prod_lt hx.den hT.num he
  have en2 : T.num.toNat = T.num.natAbs := by omega
  have kk : (2 : Nat) ^ 8000 ≤ 2 ^ 8500 := by decide
  have lb := lowest_big (f := f) (p := x.num * T.den) (q := x.den * T.num.toNat) (Nat.mul_pos x.den_pos (by omega)) (by rw [en2]; omega)
  rw [div_eq h0] at lb
  apply ev_is
  rw [u_q_by, ev_dEnd]
  unfold S_q_by
  generalize enc (x / T) = y at *
  generalize enc x = xx at *
  generalize (x.den * T.num.toNat : Nat) = q at *
  generalize (x.num * T.den : Int) = p' at *
  simp [e1, e2, m1, m3, lb]
def ptK (ks : List (List Tri)) (i : Nat) : Rat := twW ks.length (pk ks) i * mnK (ks.getD i [])
def shK (ks : List (List Tri)) (i : Nat) : Rat := ptK ks i / rs ks.length (ptK ks)
theorem pt_ok (hk : KsOk W ks) (hW : W ≤ 2 ^ 31) (hf : ∀ k ∈ ks, fullK k) (z : twS ks.length (pk ks) ≠ 0) : (∀ i, i < ks.length → Sz 52 (ptK ks i)) ∧ 0 < rs ks.length (ptK ks) ∧ (∀ i, i ≤ ks.length → Sz 220 (rs i (ptK ks))) ∧ ∀ i, i < ks.length → Sz 300 (shK ks i) := by
  have n4 := hk.n4
  have pw := pw_of hk hW
  obtain ⟨V, o⟩ := own_of hk
  have m : ∀ i, i < ks.length → 1 ≤ mnK (ks.getD i []) ∧ Sz 12 (mnK (ks.getD i [])) := fun i hi => by
    obtain ⟨V, V2, hV⟩ := hk.own _ (ks_get hi)
    exact mnK_ok hV V2 (hf _ (ks_get hi))
  have s1 : ∀ i, i < ks.length → Sz 52 (ptK ks i) := fun i hi => Sz.mul (twW_sz pw o z hi).1 (m i hi).2
  have pos : 0 < rs ks.length (ptK ks) := by
    have a := rs_le9 (n := ks.length) (g := twW ks.length (pk ks)) (h := ptK ks) fun i hi => by
      have w0 := (twW_sz pw o z hi).2.1
      have := Rat.mul_le_mul_of_nonneg_left (m i hi).1 w0
      rw [Rat.mul_one] at this
      exact this
    rw [twW_sum z] at a
    grind
  have s2 : ∀ i, i ≤ ks.length → Sz 220 (rs i (ptK ks)) := fun i hi => (rs_szU i fun j hj => s1 j (by omega)).up (by
    have : i * (52 + 1) ≤ 4 * (52 + 1) := Nat.mul_le_mul_right _ (by omega)
    omega)
  exact ⟨s1, pos, s2, fun i hi => (sz_div (s1 i hi) (s2 _ (Nat.le_refl _)) pos).up (by decide)⟩
theorem getD_q {i : Nat} (hi : i < ks.length) : ks[i]? = some (ks.getD i []) := by
  rw [List.getD_eq_getElem?_getD, List.getElem?_eq_getElem hi]
  rfl
theorem shares_q (hk : KsOk W ks) (hW : W ≤ 2 ^ 31) (hf : ∀ k ∈ ks, fullK k) : F_shares [.dat (kindsD ks)] f = .ok (.dat (if twS ks.length (pk ks) = 0 then .none else .tuple ((List.range ks.length).map fun i => enc (shK ks i)))) f := by
  obtain ⟨d, st, pd⟩ := share_told_ok (f := f) hk hW hf
  have pw := pw_of hk hW
  have n4 := hk.n4
  obtain ⟨V, o⟩ := own_of hk
  apply ev_is
  rw [u_shares, ev_dEnd]
  unfold S_shares
  refine ev_step (fun ρ g => g = f ∧ ρ = [.dat (kindsD ks), .dat d, .emp, .emp]) (by
    generalize kindsD ks = K at *
    simp [st]) ?_
  rintro _ f ⟨rfl, rfl⟩
  rcases pd with ⟨h, ps, rfl, s⟩ | ⟨p, rfl, hp, hz⟩
  · have sp := twS_pos pw s.hh s.led
    have z : twS ks.length (pk ks) ≠ 0 := by grind
    rw [if_neg z]
    obtain ⟨p1, p2, p3, p4⟩ := pt_ok hk hW hf z
    have lc : ∀ s1 s2 s3 : Slot, lcN (.many [2, 3]) cYes (cCall F_times [cVar 3, cCall F_mean [cCall F_kind_life [cVar 0, cVar 2]]]) [.dat (kindsD ks), s1, s2, s3] ((List.range ks.length).map fun i => .tuple [.int (i : Nat), enc (twW ks.length (pk ks) i)]) [] f = .ok ((List.range ks.length).map fun i => enc (ptK ks i)) f := fun s1 s2 s3 => by
      refine lc_map (by rw [List.length_range]; omega) fun i hi => ⟨_, rfl, ?_⟩
      rw [List.mem_range] at hi
      obtain ⟨V, V2, hV⟩ := hk.own _ (ks_get hi)
      have kl := kind_life_q (f := f) hk hW (getD_q hi)
      have mk := mean_K (f := f) hV V2 (hf _ (ks_get hi))
      have tm := times_q (f := f) ((twW_sz pw o z hi).1.up (show 40 ≤ 4000 by decide)) ((mnK_ok hV V2 (hf _ (ks_get hi))).2.up (by decide)) (Nat.le_refl _)
      have tm : F_times [.dat (enc (twW ks.length (pk ks) i)), .dat (enc (mnK (ks.getD i [])))] f = .ok (.dat (enc (ptK ks i))) f := tm
      generalize enc (ptK ks i) = y at *
      generalize enc (mnK (ks.getD i [])) = y2 at *
      generalize lifeD (lifeK (ks.getD i [])) = L at *
      generalize enc (twW ks.length (pk ks) i) = y3 at *
      generalize kindsD ks = K at *
      simp [kl, mk, tm]
    have bw := by_whole_q (f := f) (d := .list ((List.range ks.length).map fun i => enc (ptK ks i))) (n := ks.length) (g := ptK ks) (by omega) rfl (fun i hi => (p3 i hi).up (by decide)) (fun i hi => (p1 i hi).up (by decide)) p2
    have bw : F_by_whole [.dat (.list ((List.range ks.length).map fun i => enc (ptK ks i)))] f = .ok (.dat (.tuple ((List.range ks.length).map fun i => enc (shK ks i)))) f := bw
    have pr : pairsD (wsD ks.length (twW ks.length (pk ks))) = (List.range ks.length).map fun i => .tuple [.int (i : Nat), enc (twW ks.length (pk ks) i)] := pairs_range
    have i0 : oIx (shareD ks.length h (twW ks.length (pk ks)) ps) (.int 0) = some (.dat (.str (Str.ofString "share"))) := rfl
    have i2 : oIx (shareD ks.length h (twW ks.length (pk ks)) ps) (.int 2) = some (.dat (.tuple (wsD ks.length (twW ks.length (pk ks))))) := rfl
    have sna : ¬ Str.ofString "share" = Str.ofString "apart" := by decide +kernel
    generalize shareD ks.length h (twW ks.length (pk ks)) ps = S at *
    generalize ((List.range ks.length).map fun i => enc (ptK ks i)) = L1 at *
    generalize ((List.range ks.length).map fun i => enc (shK ks i)) = L2 at *
    generalize ((List.range ks.length).map fun i => PyData.tuple [.int (i : Nat), enc (twW ks.length (pk ks) i)]) = L3 at *
    generalize wsD ks.length (twW ks.length (pk ks)) = WD at *
    generalize kindsD ks = K at *
    simp [i0, i2, sna, pr, lc, bw]
  · rw [if_pos ((twS_iff pw).mpr hz)]
    have i0 : oIx (pairD p) (.int 0) = some (.dat (.str (Str.ofString "apart"))) := rfl
    generalize pairD p = S at *
    simp [i0]
end
end Fp
namespace Fp
open PySem PySem.Spec L2 Dn
theorem zip_wsD {n : Nat} {g h : Nat → Rat} : zipD (wsD n g) (wsD n h) = (List.range n).map fun i => .tuple [enc (g i), enc (h i)] := zip_map _
def gnK (ks : List (List Tri)) (pr : Nat → Rat) : Rat := rs ks.length fun i => pr i * shK ks i
section
variable {n V W : Nat} {k : List Tri} {ks : List (List Tri)} {f : Feed} {pr : Nat → Rat}
theorem gn_sz (hk : KsOk W ks) (hW : W ≤ 2 ^ 31) (hf : ∀ k ∈ ks, fullK k) (z : twS ks.length (pk ks) ≠ 0) (hp : ∀ i, i < ks.length → Sz 11 (pr i)) : (∀ i, i < ks.length → Sz 311 (pr i * shK ks i)) ∧ ∀ i, i ≤ ks.length → Sz 1250 (rs i fun i => pr i * shK ks i) := by
  obtain ⟨p1, p2, p3, p4⟩ := pt_ok hk hW hf z
  have n4 := hk.n4
  have a : ∀ i, i < ks.length → Sz 311 (pr i * shK ks i) := fun i hi => Sz.mul (hp i hi) (p4 i hi)
  exact ⟨a, fun i hi => (rs_szU i fun j hj => a j (by omega)).up (by
    have : i * (311 + 1) ≤ 4 * (311 + 1) := Nat.mul_le_mul_right _ (by omega)
    omega)⟩
theorem ever_gain_q (hk : KsOk W ks) (hW : W ≤ 2 ^ 31) (hf : ∀ k ∈ ks, fullK k) (hp : ∀ i, i < ks.length → Sz 11 (pr i)) : F_ever_gain [.dat (kindsD ks), .dat (.tuple (wsD ks.length pr))] f = .ok (.dat (if twS ks.length (pk ks) = 0 then .none else enc (gnK ks pr))) f := by
  have sh := shares_q (f := f) hk hW hf
  have n4 := hk.n4
  apply ev_is
  rw [u_ever_gain, ev_dEnd]
  unfold S_ever_gain
  by_cases z : twS ks.length (pk ks) = 0
  · rw [if_pos z] at sh ⊢
    generalize kindsD ks = K at *
    generalize PyData.tuple (wsD ks.length pr) = PR at *
    simp [sh]
  · rw [if_neg z] at sh ⊢
    obtain ⟨p1, p2, p3, p4⟩ := pt_ok hk hW hf z
    obtain ⟨g1, g2⟩ := gn_sz hk hW hf z hp
    have lc : ∀ s0 s1 s2 s3 s4 : Slot, lcN (.many [3, 4]) cYes (cCall F_times [cVar 3, cVar 4]) [s0, s1, s2, s3, s4] ((List.range ks.length).map fun i => .tuple [enc (pr i), enc (shK ks i)]) [] f = .ok ((List.range ks.length).map fun i => enc (pr i * shK ks i)) f := fun s0 s1 s2 s3 s4 => by
      refine lc_map (by rw [List.length_range]; omega) fun i hi => ⟨_, rfl, ?_⟩
      rw [List.mem_range] at hi
      have tm := times_q (f := f) ((hp i hi).up (show 11 ≤ 4000 by decide)) ((p4 i hi).up (by decide)) (Nat.le_refl _)
      generalize enc (pr i * shK ks i) = y at *
      generalize enc (pr i) = y2 at *
      generalize enc (shK ks i) = y3 at *
      simp [tm]
    have wq := whole_of_q (f := f) (n := ks.length) (g := fun i => pr i * shK ks i) (d := .list ((List.range ks.length).map fun i => enc (pr i * shK ks i))) rfl (fun i hi => (g2 i hi).up (by decide)) (fun i hi => (g1 i hi).up (by decide))
    have wq : F_whole_of [.dat (.list ((List.range ks.length).map fun i => enc (pr i * shK ks i)))] f = .ok (.dat (enc (gnK ks pr))) f := wq
    have zz := zip_wsD (n := ks.length) (g := pr) (h := shK ks)
    have e1 : (List.range ks.length).map (fun i => enc (shK ks i)) = wsD ks.length (shK ks) := rfl
    rw [e1] at sh
    have isn : isNone (.tuple (wsD ks.length (shK ks))) = false := rfl
    generalize ((List.range ks.length).map fun i => PyData.tuple [enc (pr i), enc (shK ks i)]) = Z at *
    generalize ((List.range ks.length).map fun i => enc (pr i * shK ks i)) = L at *
    generalize enc (gnK ks pr) = y at *
    generalize wsD ks.length pr = PR at *
    generalize wsD ks.length (shK ks) = SH at *
    generalize kindsD ks = K at *
    simp [sh, isn, zz, lc, wq]
theorem zip_kinds {w : Nat → Rat} : zipD (wsD ks.length w) (ks.map kindD) = (List.range ks.length).map fun i => .tuple [enc (w i), kindD (ks.getD i [])] := by
  have e : ks.map kindD = (List.range ks.length).map fun i => kindD (ks.getD i []) := by
    apply List.ext_getElem?
    intro i
    by_cases hi : i < ks.length
    · rw [List.getElem?_map, List.getElem?_map, List.getElem?_range hi, getD_q hi]
      rfl
    · rw [List.getElem?_eq_none (by rw [List.length_map]; omega), List.getElem?_eq_none (by rw [List.length_map, List.length_range]; omega)]
  rw [e]
  exact zip_map _
theorem four_b {a : Nat} (h : a < 4) : ∃ q : Nat, 0 < q ∧ q < 1000 ∧ ([PyData.int 1, .int 2, .int 7, .int 999] : List PyData)[a]? = some (.int (q : Nat)) := by
  match a, h with
  | 0, _ => exact ⟨1, by decide, by decide, rfl⟩
  | 1, _ => exact ⟨2, by decide, by decide, rfl⟩
  | 2, _ => exact ⟨7, by decide, by decide, rfl⟩
  | 3, _ => exact ⟨999, by decide, by decide, rfl⟩
theorem mk_sz {p : Int} {q : Nat} (hp : p.natAbs < 2 ^ 11) (hq : 0 < q) (h2 : q < 2 ^ 11) : Sz 11 (mkRat p q) := by
  have a : Wh q (mkRat p q) := wh_mk hq
  have d : (mkRat p q).den ∣ q := a.dvd hq
  refine ⟨?_, Nat.lt_of_le_of_lt (Nat.le_of_dvd hq d) h2⟩
  rw [Rat.num_mkRat, if_neg (by omega), Nat.gcd_comm]
  have : (p / ((Nat.gcd p.natAbs q : Nat) : Int)).natAbs ≤ p.natAbs := by
    rw [Int.natAbs_ediv_of_dvd (Int.ofNat_dvd_left.mpr (Nat.gcd_dvd_left _ _)), Int.natAbs_natCast]
    exact Nat.div_le_self _ _
  omega
theorem shows_gain {y : Rat} {v : Nat → Rat} (hn : n ≤ 4) (hv : ∀ i, i < n → Sz 300 (v i)) (hy : Sz 1250 y) : Dn.shows (.list [.tuple (wsD n v), enc y]) = true := by
  have a : Nice (n * 3) 2 (.tuple (wsD n v)) := nice_tuple (nicel_range fun k hk => (hv k hk).up (by decide))
  have b : Nice 2 1 (enc y) := nice_enc (hy.up (by decide)) (Nat.le_refl 1850)
  exact (nice_list (niceL_cons (a.up (c := 12) (by omega) (Nat.le_refl _)) (niceL_cons (b.up (c := 2) (l := 2) (by decide) (by decide)) niceL_nil))).shows (by decide) (by decide)
end
end Fp
namespace Lfreshparts_k64_shares_and_gains_of_kinds
open PySem PySem.Spec L2 Dn Fp
/-- law, behind its first row; slots: 0 _law_script, 1 _law_feed_here, 2 _law_k, 3 _law_kinds_here, 4 _law_prices, 5 _law_kind, 6 _law_weights_here, 7 _law_due, 8 _law_gain, 9 _law_parts, 10 _law_top, 11 _law_bottom, 12 _law_turn, 13 _law_weight, 14 _law_triples, 15 _law_one, 16 _law_price -/
noncomputable def S_law : Sm := sSeq (sFor (iRange1 (cC (.int 4))) (.one 2) (sSeq (sIf (cT (cBin oEq (cCall F_q_draw_v3 [cVar 1, cC (.int 4)]) (cC (.int 0)))) (sSet 3 (cCall F_q_group_kinds [cVar 1])) (sSet 3 (cCall F_q_kinds [cVar 1, cBin oAdd (cC (.int 1)) (cCall F_q_draw_v3 [cVar 1, cC (.int 4)]), cC (.bool true)]))) (sSeq (sSet 4 (cLst [])) (sSeq (sFor (iSeq (cVar 3)) (.one 5) (sApp 4 (cCall F_q_lowest [cBin oSub (cCall F_q_draw_v3 [cVar 1, cC (.int 1999)]) (cC (.int 999)), cBin oIx (cLst [cC (.int 1), cC (.int 2), cC (.int 7), cC (.int 999)]) (cCall F_q_draw_v3 [cVar 1, cC (.int 4)])]))) (sSeq (sFrz 4) (sSeq (sSet 6 (cCall F_q_weights_v2 [cCall F_q_rows_v2 [cVar 3]])) (sSeq (sSet 7 (cC .none)) (sSeq (sSet 8 (cC .none)) (sSeq (sIf (cT (cBin (oIsN true) (cVar 6) (cC .none))) (sSeq (sSet 9 (cLc (iZip (cVar 6) (cVar 3)) (.many [13, 14]) (cYes) (cCall F_q_by [cVar 13, cCall F_q_mean [cVar 14]]) [13, 14])) (sSeq (sFrz 9) (sSeq (sAsg (.many [10, 11]) (cCall F_q_all [cVar 9])) (sSeq (sSet 7 (cUn oTuple (cLc (iSeq (cVar 9)) (.one 15) (cYes) (cCall F_q_by [cVar 15, cTup [cVar 11, cVar 10]]) [15]))) (sSet 8 (cCall F_q_all [cLc (iZip (cVar 4) (cVar 7)) (.many [16, 15]) (cYes) (cCall F_q_by [cVar 16, cVar 15]) [16, 15]])))))) (sNext)) (sSeq (sFrz 9) (sFor (iRange1 (cC (.int 2))) (.one 12) (sIf (cT (cBin oNe (cUn oRepr (cLst [cCall F_shares [cVar 3], cCall F_ever_gain [cVar 3, cUn oTuple (cVar 4)]])) (cUn oRepr (cLst [cVar 7, cVar 8])))) (sRet (cC (.bool false))) (sNext))))))))))))) (sRet (cC (.bool true)))
theorem fin : ∀ ns : List Int, ns.length ≤ 63 → ∃ f, S_law (.emp :: .feed :: List.replicate 15 .emp) (feed0 ns) = .ok (.rt (.dat (.bool true))) f := by
  intro ns hns
  suffices h : Ev (S_law (.emp :: .feed :: List.replicate 15 .emp) (feed0 ns)) (fun c _ => c = .rt (.dat (.bool true))) by
    obtain ⟨c, f, e, rfl⟩ := h
    exact ⟨f, e⟩
  unfold S_law
  rw [show (Slot.emp :: Slot.feed :: List.replicate 15 Slot.emp) = [.emp, .feed, .emp, .emp, .emp, .emp, .emp, .emp, .emp, .emp, .emp, .emp, .emp, .emp, .emp, .emp, .emp] from rfl]
  have hF0 := fd0 ns
  refine ev_step (fun ρ g => True) ?_ ?_
  · simp [smallI_ok (n := 4) (by decide) (by decide)]
    refine ev_for (I := fun i ρ g => (∃ s2 s3 s4 s5 s6 s7 s8 s9 s10 s11 s12 s13 s14 s15 s16 : Slot, ρ = [.emp, .feed, s2, s3, s4, s5, s6, s7, s8, s9, s10, s11, s12, s13, s14, s15, s16]) ∧ Fd (200 * i) g) ⟨⟨_, _, _, _, _, _, _, _, _, _, _, _, _, _, _, rfl⟩, hF0.up (by decide)⟩ ?_ ?_
    · rintro i d ρ g hd ⟨⟨s2, s3, s4, s5, s6, s7, s8, s9, s10, s11, s12, s13, s14, s15, s16, rfl⟩, hG⟩
      obtain ⟨rfl, hi⟩ := range_at hd
      refine ⟨_, rfl, ?_⟩
      simp only [List.set_cons_succ, List.set_cons_zero, Int.zero_add]
      refine ev_stp (fun ρ f => ∃ ks W, KsOk W ks ∧ W ≤ 2 ^ 31 ∧ (∀ k ∈ ks, fullK k) ∧ ρ = [.emp, .feed, .dat (.int (i : Nat)), .dat (kindsD ks), s4, s5, s6, s7, s8, s9, s10, s11, s12, s13, s14, s15, s16] ∧ Fd (200 * i + 80) f) ?_ ?_
      · intro Q' hQ
        simp only [e_if]
        rw [ev_bind]
        have drw : Ev ((cT (cBin oEq (cCall F_q_draw_v3 [cVar 1, cC (.int 4)]) (cC (.int 0)))) [.emp, .feed, .dat (.int (i : Nat)), s3, s4, s5, s6, s7, s8, s9, s10, s11, s12, s13, s14, s15, s16] g) fun b f => Fd (200 * i + 1) f := by
          simp
          refine Ev.drawn (draw_v3_ok (s := 4) (by decide) (by decide) hG (by omega)) fun a f a0 a1 hF1 => ?_
          simp
          exact hF1
        refine Ev.mono drw ?_
        rintro b f hF1
        cases b with
        | true =>
          simp
          refine Ev.mono (group_ok hF1 (by omega) (by omega)) ?_
          rintro _ g ⟨ks, W, c, e, rfl, h1, h2, h3, h4, h5, h6, _, hF2⟩
          simp
          exact hQ _ _ ⟨ks, W, h1, h2, h3, rfl, hF2.up (by omega)⟩
        | false =>
          simp
          refine Ev.drawn (draw_v3_ok (s := 4) (by decide) (by decide) hF1 (by omega)) fun a f a0 a1 hF2 => ?_
          obtain ⟨a, rfl⟩ := Int.eq_ofNat_of_zero_le a0
          have e1 : (1 : Int) + (a : Nat) = ((a + 1 : Nat) : Int) := by omega
          simp [-Int.natCast_add, e1]
          refine Ev.mono (kinds_ok (n := a + 1) (full := true) hF2 (by omega) (by omega) (by omega) (by omega)) ?_
          rintro _ g ⟨ks, W, rfl, h1, h2, h3, h4, hF3⟩
          simp
          exact hQ _ _ ⟨ks, W, h1, h2, h4 rfl, rfl, hF3.up (by omega)⟩
      rintro _ f ⟨ks, W, hk, hW, hf, rfl, hF1⟩
      have n4 := hk.n4
      have n1 := hk.n1
      have pw := pw_of hk hW
      refine ev_step (fun ρ g => g = f ∧ ρ = [.emp, .feed, .dat (.int (i : Nat)), .dat (kindsD ks), .own [], s5, s6, s7, s8, s9, s10, s11, s12, s13, s14, s15, s16]) (by simp) ?_
      rintro _ f ⟨rfl, rfl⟩
      refine ev_stp (fun ρ f => ∃ (pr : Nat → Rat) (s5 : Slot), (∀ j, j < ks.length → Sz 11 (pr j)) ∧ ρ = [.emp, .feed, .dat (.int (i : Nat)), .dat (kindsD ks), .own (wsD ks.length pr), s5, s6, s7, s8, s9, s10, s11, s12, s13, s14, s15, s16] ∧ Fd (200 * i + 100) f) ?_ ?_
      · intro Q' hQ
        rw [e_for]
        have it : (iSeq (cVar 3)) [.emp, .feed, .dat (.int (i : Nat)), .dat (kindsD ks), .own [], s5, s6, s7, s8, s9, s10, s11, s12, s13, s14, s15, s16] f = .ok (ks.map kindD) f := by
          have sq : seqOf (kindsD ks) = some (ks.map kindD) := rfl
          generalize kindsD ks = K at *
          generalize ks.map kindD = L at *
          simp [sq]
        rw [it, ev_bind]
        refine Ev.of rfl ?_
        refine ev_for (I := fun t ρ f => ∃ (pr : Nat → Rat) (s5 : Slot), (∀ j, j < t → Sz 11 (pr j)) ∧ ρ = [.emp, .feed, .dat (.int (i : Nat)), .dat (kindsD ks), .own (wsD t pr), s5, s6, s7, s8, s9, s10, s11, s12, s13, s14, s15, s16] ∧ Fd (200 * i + 80 + 2 * t) f) ⟨fun _ => 0, s5, fun j hj => by omega, rfl, hF1.up (by omega)⟩ ?_ ?_
        · rintro t d ρ f hd ⟨pr, s5, hp, rfl, hG⟩
          have ht : t < ks.length := by
            have := (List.getElem?_eq_some_iff.mp hd).1
            rwa [List.length_map] at this
          refine ⟨_, rfl, ?_⟩
          simp only [List.set_cons_succ, List.set_cons_zero]
          have Z : ∀ (x : Rat) (s5 : Slot) (g : Feed), Sz 11 x → Fd (200 * i + 80 + 2 * t + 2) g → ∃ (pr' : Nat → Rat) (t5 : Slot), (∀ j, j < t + 1 → Sz 11 (pr' j)) ∧ [Slot.emp, .feed, .dat (.int (i : Nat)), .dat (kindsD ks), .own (wsD t pr ++ [enc x]), s5, s6, s7, s8, s9, s10, s11, s12, s13, s14, s15, s16] = [.emp, .feed, .dat (.int (i : Nat)), .dat (kindsD ks), .own (wsD (t + 1) pr'), t5, s6, s7, s8, s9, s10, s11, s12, s13, s14, s15, s16] ∧ Fd (200 * i + 80 + 2 * ((t + 1 : Nat) : Int)) g := fun x s5 g hx hF => by
            refine ⟨fun j => if j = t then x else pr j, s5, fun j hj => ?_, ?_, hF.up (by omega)⟩
            · show Sz 11 (if j = t then x else pr j)
              split
              · exact hx
              · exact hp j (by omega)
            · have : wsD (t + 1) (fun j => if j = t then x else pr j) = wsD t pr ++ [enc x] := by
                unfold wsD
                rw [List.range_succ, List.map_append]
                congr 1
                · refine List.map_congr_left fun j hj => ?_
                  have := List.mem_range.mp hj
                  show enc (if j = t then x else pr j) = enc (pr j)
                  rw [if_neg (by omega)]
                · simp
              rw [this]
          have lP : (wsD t pr).length < 100000 := by
            unfold wsD
            rw [List.length_map, List.length_range]
            omega
          generalize wsD t pr = L at *
          generalize kindsD ks = K at *
          have goal : Ev ((sApp 4 (cCall F_q_lowest [cBin oSub (cCall F_q_draw_v3 [cVar 1, cC (.int 1999)]) (cC (.int 999)), cBin oIx (cLst [cC (.int 1), cC (.int 2), cC (.int 7), cC (.int 999)]) (cCall F_q_draw_v3 [cVar 1, cC (.int 4)])])) [.emp, .feed, .dat (.int (i : Nat)), .dat K, .own L, .dat d, s6, s7, s8, s9, s10, s11, s12, s13, s14, s15, s16] f) fun c g => ∃ x, Sz 11 x ∧ c = .nx [.emp, .feed, .dat (.int (i : Nat)), .dat K, .own (L ++ [enc x]), .dat d, s6, s7, s8, s9, s10, s11, s12, s13, s14, s15, s16] ∧ Fd (200 * i + 80 + 2 * t + 2) g := by
            simp
            refine Ev.drawn (draw_v3_ok (s := 1999) (by decide) (by decide) hG (by omega)) fun a f a0 a1 hF2 => ?_
            simp
            refine Ev.drawn (draw_v3_ok (s := 4) (by decide) (by decide) hF2 (by omega)) fun b f b0 b1 hF3 => ?_
            obtain ⟨b, rfl⟩ := Int.eq_ofNat_of_zero_le b0
            obtain ⟨q, q0, q1, eq⟩ := four_b (a := b) (by omega)
            have lb := lowest_big (f := f) (p := a - 999) (q := q) q0 (by omega)
            have sz := mk_sz (p := a - 999) (q := q) (by omega) q0 (by omega)
            simp [eq, lb, lP]
            exact ⟨_, sz, rfl, hF3.up (by omega)⟩
          refine Ev.mono goal ?_
          rintro _ g ⟨x, hx, rfl, hF4⟩
          exact Z x _ g hx hF4
        · rintro ρ f ⟨pr, s5, hp, rfl, hG⟩
          rw [List.length_map] at *
          exact ⟨_, rfl, hQ _ _ ⟨pr, s5, hp, rfl, hG.up (by omega)⟩⟩
      rintro _ f ⟨pr, s5, hp, rfl, hF2⟩
      have qr := q_rows_q (f := f) hk hW
      rw [rowsD_P] at qr
      have qw := q_weights_q (f := f) pw
      have sh := fun g => shares_q (f := g) hk hW hf
      have eg := fun g => ever_gain_q (f := g) hk hW hf hp
      refine ev_step (fun ρ g => g = f ∧ ρ = [.emp, .feed, .dat (.int (i : Nat)), .dat (kindsD ks), .dat (.list (wsD ks.length pr)), s5, s6, s7, s8, s9, s10, s11, s12, s13, s14, s15, s16]) (by simp) ?_
      rintro _ f ⟨rfl, rfl⟩
      refine ev_step (fun ρ g => g = f ∧ ρ = [.emp, .feed, .dat (.int (i : Nat)), .dat (kindsD ks), .dat (.list (wsD ks.length pr)), s5, .dat (if twS ks.length (Fp.pk ks) = 0 then .none else .tuple (wsD ks.length (twW ks.length (Fp.pk ks)))), s7, s8, s9, s10, s11, s12, s13, s14, s15, s16]) (by
        generalize kindsD ks = K at *
        generalize rowsP ks.length (Fp.pk ks) = R at *
        generalize (if twS ks.length (Fp.pk ks) = 0 then PyData.none else .tuple (wsD ks.length (twW ks.length (Fp.pk ks)))) = y at *
        simp [qr, qw]) ?_
      rintro _ f ⟨rfl, rfl⟩
      refine ev_step (fun ρ g => g = f ∧ ρ = [.emp, .feed, .dat (.int (i : Nat)), .dat (kindsD ks), .dat (.list (wsD ks.length pr)), s5, .dat (if twS ks.length (Fp.pk ks) = 0 then .none else .tuple (wsD ks.length (twW ks.length (Fp.pk ks)))), .dat .none, s8, s9, s10, s11, s12, s13, s14, s15, s16]) (by simp) ?_
      rintro _ f ⟨rfl, rfl⟩
      refine ev_step (fun ρ g => g = f ∧ ρ = [.emp, .feed, .dat (.int (i : Nat)), .dat (kindsD ks), .dat (.list (wsD ks.length pr)), s5, .dat (if twS ks.length (Fp.pk ks) = 0 then .none else .tuple (wsD ks.length (twW ks.length (Fp.pk ks)))), .dat .none, .dat .none, s9, s10, s11, s12, s13, s14, s15, s16]) (by simp) ?_
      rintro _ f ⟨rfl, rfl⟩
      have fin : Fd (200 * (i + 1)) f := hF2.up (by omega)
      -- the last loop, whatever stands in the slots
      have last : ∀ (x y : PyData) (s5 s6 s9 s10 s11 s12 s13 s14 s15 s16 : Slot) (P : Ctl → Feed → Prop), (∀ g, F_shares [.dat (kindsD ks)] g = .ok (.dat x) g) → (∀ g, F_ever_gain [.dat (kindsD ks), .dat (.tuple (wsD ks.length pr))] g = .ok (.dat y) g) → Dn.shows (.list [x, y]) = true → (∀ t12 : Slot, P (.nx [.emp, .feed, .dat (.int (i : Nat)), .dat (kindsD ks), .dat (.list (wsD ks.length pr)), s5, s6, .dat x, .dat y, s9, s10, s11, t12, s13, s14, s15, s16]) f) → Ev ((sFor (iRange1 (cC (.int 2))) (.one 12) (sIf (cT (cBin oNe (cUn oRepr (cLst [cCall F_shares [cVar 3], cCall F_ever_gain [cVar 3, cUn oTuple (cVar 4)]])) (cUn oRepr (cLst [cVar 7, cVar 8])))) (sRet (cC (.bool false))) (sNext))) [.emp, .feed, .dat (.int (i : Nat)), .dat (kindsD ks), .dat (.list (wsD ks.length pr)), s5, s6, .dat x, .dat y, s9, s10, s11, s12, s13, s14, s15, s16] f) P := fun x y s5 s6 s9 s10 s11 s12 s13 s14 s15 s16 P h1 h2 h3 h4 => by
        have rr := oRepr_of h3
        generalize kindsD ks = K at *
        generalize wsD ks.length pr = L at *
        rw [e_for]
        simp [smallI_ok (n := 2) (by decide) (by decide)]
        refine ev_for (I := fun t ρ g => g = f ∧ ∃ t12 : Slot, ρ = [.emp, .feed, .dat (.int (i : Nat)), .dat K, .dat (.list L), s5, s6, .dat x, .dat y, s9, s10, s11, t12, s13, s14, s15, s16]) ⟨rfl, s12, rfl⟩ ?_ ?_
        · rintro t d ρ g hd ⟨rfl, t12, rfl⟩
          obtain ⟨rfl, ht⟩ := range_at hd
          refine ⟨_, rfl, ?_⟩
          simp [h1, h2, rr]
        · rintro ρ g ⟨rfl, t12, rfl⟩
          exact h4 t12
      by_cases z : twS ks.length (Fp.pk ks) = 0
      · simp only [if_pos z] at sh eg ⊢
        refine ev_step (fun ρ g => g = f ∧ ρ = [.emp, .feed, .dat (.int (i : Nat)), .dat (kindsD ks), .dat (.list (wsD ks.length pr)), s5, .dat .none, .dat .none, .dat .none, s9, s10, s11, s12, s13, s14, s15, s16]) (by simp) ?_
        rintro _ f ⟨rfl, rfl⟩
        refine ev_stp (fun ρ g => g = f ∧ ∃ s9 : Slot, ρ = [.emp, .feed, .dat (.int (i : Nat)), .dat (kindsD ks), .dat (.list (wsD ks.length pr)), s5, .dat .none, .dat .none, .dat .none, s9, s10, s11, s12, s13, s14, s15, s16]) ?_ ?_
        · intro Q' hQ
          cases s9 <;> simp <;> exact hQ _ _ ⟨rfl, _, rfl⟩
        rintro _ f ⟨rfl, s9, rfl⟩
        exact last .none .none s5 _ s9 s10 s11 s12 s13 s14 s15 s16 _ sh eg (by decide +kernel) fun t12 => ⟨⟨_, _, _, _, _, _, _, _, _, _, _, _, _, _, _, rfl⟩, fin⟩
      · simp only [if_neg z] at sh eg ⊢
        obtain ⟨V, o⟩ := own_of hk
        obtain ⟨p1, p2, p3, p4⟩ := pt_ok hk hW hf z
        obtain ⟨g1, g2⟩ := gn_sz hk hW hf z hp
        have shw := shows_gain (n := ks.length) n4 p4 (show Sz 1250 (gnK ks pr) from g2 _ (Nat.le_refl _))
        have lcP : ∀ s0 s1 s2 s3 s4 s5 s6 s7 s8 s9 s10 s11 s12 s13 s14 s15 s16 : Slot, lcN (.many [13, 14]) cYes (cCall F_q_by [cVar 13, cCall F_q_mean [cVar 14]]) [s0, s1, s2, s3, s4, s5, s6, s7, s8, s9, s10, s11, s12, s13, s14, s15, s16] ((List.range ks.length).map fun i => .tuple [enc (twW ks.length (Fp.pk ks) i), kindD (ks.getD i [])]) [] f = .ok ((List.range ks.length).map fun i => enc (ptK ks i)) f := fun s0 s1 s2 s3 s4 s5 s6 s7 s8 s9 s10 s11 s12 s13 s14 s15 s16 => by
          refine lc_map (by rw [List.length_range]; omega) fun j hj => ⟨_, rfl, ?_⟩
          rw [List.mem_range] at hj
          obtain ⟨V, V2, hV⟩ := hk.own _ (ks_get hj)
          have qm := q_mean_K (f := f) hV V2
          have tm := q_by_s (f := f) ((twW_sz pw o z hj).1.up (show 40 ≤ 4000 by decide)) ((mnK_ok hV V2 (hf _ (ks_get hj))).2.up (by decide)) (Nat.le_refl _)
          have tm : F_q_by [.dat (enc (twW ks.length (Fp.pk ks) j)), .dat (enc (mnK (ks.getD j [])))] f = .ok (.dat (enc (ptK ks j))) f := tm
          generalize enc (ptK ks j) = y at *
          generalize enc (mnK (ks.getD j [])) = y2 at *
          generalize enc (twW ks.length (Fp.pk ks) j) = y3 at *
          generalize kindD (ks.getD j []) = K at *
          simp [qm, tm]
        have al := q_all_sz (f := f) (g := ptK ks) (e := 52) (d := .list ((List.range ks.length).map fun i => enc (ptK ks i))) n4 (by decide) rfl p1
        have enT : enc (rs ks.length (ptK ks)) = .tuple [.int (rs ks.length (ptK ks)).num, .int ((rs ks.length (ptK ks)).den : Nat)] := rfl
        have lcS : ∀ s0 s1 s2 s3 s4 s5 s6 s7 s8 s9 s12 s13 s14 s15 s16 : Slot, lcN (.one 15) cYes (cCall F_q_by [cVar 15, cTup [cVar 11, cVar 10]]) [s0, s1, s2, s3, s4, s5, s6, s7, s8, s9, .dat (.int (rs ks.length (ptK ks)).num), .dat (.int ((rs ks.length (ptK ks)).den : Nat)), s12, s13, s14, s15, s16] ((List.range ks.length).map fun i => enc (ptK ks i)) [] f = .ok ((List.range ks.length).map fun i => enc (shK ks i)) f := fun s0 s1 s2 s3 s4 s5 s6 s7 s8 s9 s12 s13 s14 s15 s16 => by
          refine lc_map (by rw [List.length_range]; omega) fun j hj => ⟨_, rfl, ?_⟩
          rw [List.mem_range] at hj
          have q := q_by_inv (f := f) ((p1 j hj).up (show 52 ≤ 220 by decide)) (p3 _ (Nat.le_refl _)) p2 (by decide)
          have q : F_q_by [.dat (enc (ptK ks j)), .dat (.tuple [.int ((rs ks.length (ptK ks)).den : Nat), .int (rs ks.length (ptK ks)).num])] f = .ok (.dat (enc (shK ks j))) f := q
          generalize enc (ptK ks j) = y at *
          generalize enc (shK ks j) = y2 at *
          generalize (rs ks.length (ptK ks)).num = a at *
          generalize (rs ks.length (ptK ks)).den = b at *
          simp [q]
        have lcG : ∀ s0 s1 s2 s3 s4 s5 s6 s7 s8 s9 s10 s11 s12 s13 s14 s15 s16 : Slot, lcN (.many [16, 15]) cYes (cCall F_q_by [cVar 16, cVar 15]) [s0, s1, s2, s3, s4, s5, s6, s7, s8, s9, s10, s11, s12, s13, s14, s15, s16] ((List.range ks.length).map fun i => .tuple [enc (pr i), enc (shK ks i)]) [] f = .ok ((List.range ks.length).map fun i => enc (pr i * shK ks i)) f := fun s0 s1 s2 s3 s4 s5 s6 s7 s8 s9 s10 s11 s12 s13 s14 s15 s16 => by
          refine lc_map (by rw [List.length_range]; omega) fun j hj => ⟨_, rfl, ?_⟩
          rw [List.mem_range] at hj
          have tm := q_by_s (f := f) ((hp j hj).up (show 11 ≤ 4000 by decide)) ((p4 j hj).up (by decide)) (Nat.le_refl _)
          generalize enc (pr j * shK ks j) = y at *
          generalize enc (pr j) = y2 at *
          generalize enc (shK ks j) = y3 at *
          simp [tm]
        have alG := q_all_sz (f := f) (g := fun i => pr i * shK ks i) (e := 311) (d := .list ((List.range ks.length).map fun i => enc (pr i * shK ks i))) n4 (by decide) rfl g1
        have alG : F_q_all [.dat (.list ((List.range ks.length).map fun i => enc (pr i * shK ks i)))] f = .ok (.dat (enc (gnK ks pr))) f := alG
        have zk := zip_kinds (ks := ks) (w := twW ks.length (Fp.pk ks))
        have zz := zip_wsD (n := ks.length) (g := pr) (h := shK ks)
        have e1 : (List.range ks.length).map (fun i => enc (shK ks i)) = wsD ks.length (shK ks) := rfl
        rw [e1] at lcS
        simp only [e1] at sh
        refine ev_stp (fun ρ g => g = f ∧ ∃ s9 s10 s11 : Slot, ρ = [.emp, .feed, .dat (.int (i : Nat)), .dat (kindsD ks), .dat (.list (wsD ks.length pr)), s5, .dat (.tuple (wsD ks.length (twW ks.length (Fp.pk ks)))), .dat (.tuple (wsD ks.length (shK ks))), .dat (enc (gnK ks pr)), s9, s10, s11, s12, s13, s14, s15, s16]) ?_ ?_
        · intro Q' hQ
          have isn : isNone (.tuple (wsD ks.length (twW ks.length (Fp.pk ks)))) = false := rfl
          have kk : kindsD ks = .tuple (ks.map kindD) := rfl
          have hQ := fun a b c => hQ [.emp, .feed, .dat (.int (i : Nat)), .dat (kindsD ks), .dat (.list (wsD ks.length pr)), s5, .dat (.tuple (wsD ks.length (twW ks.length (Fp.pk ks)))), .dat (.tuple (wsD ks.length (shK ks))), .dat (enc (gnK ks pr)), a, b, c, s12, s13, s14, s15, s16] f ⟨rfl, a, b, c, rfl⟩
          rw [enT] at al
          rw [kk] at hQ ⊢
          generalize ((List.range ks.length).map fun i => PyData.tuple [enc (twW ks.length (Fp.pk ks) i), kindD (ks.getD i [])]) = Z1 at *
          generalize ((List.range ks.length).map fun i => PyData.tuple [enc (pr i), enc (shK ks i)]) = Z2 at *
          generalize ((List.range ks.length).map fun i => enc (ptK ks i)) = PT at *
          generalize ((List.range ks.length).map fun i => enc (pr i * shK ks i)) = GN at *
          generalize enc (gnK ks pr) = y at *
          generalize (rs ks.length (ptK ks)).num = a at *
          generalize (rs ks.length (ptK ks)).den = b at *
          generalize wsD ks.length (shK ks) = SH at *
          generalize wsD ks.length (twW ks.length (Fp.pk ks)) = WD at *
          generalize wsD ks.length pr = PR at *
          generalize ks.map kindD = KD at *
          simp [isn, zk, lcP, al, lcS, zz, lcG, alG]
          exact hQ _ _ _
        rintro _ f ⟨rfl, s9, s10, s11, rfl⟩
        refine ev_stp (fun ρ g => g = f ∧ ∃ s9 : Slot, ρ = [.emp, .feed, .dat (.int (i : Nat)), .dat (kindsD ks), .dat (.list (wsD ks.length pr)), s5, .dat (.tuple (wsD ks.length (twW ks.length (Fp.pk ks)))), .dat (.tuple (wsD ks.length (shK ks))), .dat (enc (gnK ks pr)), s9, s10, s11, s12, s13, s14, s15, s16]) ?_ ?_
        · intro Q' hQ
          cases s9 <;> simp <;> exact hQ _ _ ⟨rfl, _, rfl⟩
        rintro _ f ⟨rfl, s9, rfl⟩
        exact last _ _ s5 _ s9 s10 s11 s12 s13 s14 s15 s16 _ sh eg shw fun t12 => ⟨⟨_, _, _, _, _, _, _, _, _, _, _, _, _, _, _, rfl⟩, fin⟩
    · rintro ρ g ⟨⟨s2, s3, s4, s5, s6, s7, s8, s9, s10, s11, s12, s13, s14, s15, s16, rfl⟩, hG⟩
      simp
  rintro ρ g _
  simp
section
set_option maxHeartbeats 4000000
def topS (i : Nat) : Stmt := PySem.Challenge.pw_freshparts_k64_shares_and_gains_of_kinds.main.body.getD i (.Pass ⟨0, 0, 0, 0⟩)
abbrev st_q_feed : Stmt := topS 37
abbrev N_q_feed : List Str := ["_law_script"]
theorem sc_q_feed : FnScope N_q_feed ["_law_script"] (defScope st_q_feed) := ⟨rfl, rfl, rfl, by decide +kernel, rfl, by decide +kernel, by decide +kernel⟩
abbrev st_common : Stmt := topS 6
abbrev N_common : List Str := ["one", "other"]
theorem sc_common : FnScope N_common ["one", "other"] (defScope st_common) := ⟨rfl, rfl, rfl, by decide +kernel, rfl, by decide +kernel, by decide +kernel⟩
abbrev st_ratio : Stmt := topS 7
abbrev N_ratio : List Str := ["top", "bottom", "sign", "part"]
theorem sc_ratio : FnScope N_ratio ["top", "bottom"] (defScope st_ratio) := ⟨rfl, rfl, rfl, by decide +kernel, rfl, by decide +kernel, by decide +kernel⟩
abbrev st_times : Stmt := topS 10
abbrev N_times : List Str := ["one", "other"]
theorem sc_times : FnScope N_times ["one", "other"] (defScope st_times) := ⟨rfl, rfl, rfl, by decide +kernel, rfl, by decide +kernel, by decide +kernel⟩
abbrev st_plus : Stmt := topS 8
abbrev N_plus : List Str := ["one", "other"]
theorem sc_plus : FnScope N_plus ["one", "other"] (defScope st_plus) := ⟨rfl, rfl, rfl, by decide +kernel, rfl, by decide +kernel, by decide +kernel⟩
abbrev st_short : Stmt := topS 16
abbrev N_short : List Str := ["life", "row", "step"]
theorem sc_short : FnScope N_short ["life"] (defScope st_short) := ⟨rfl, rfl, rfl, by decide +kernel, rfl, by decide +kernel, by decide +kernel⟩
abbrev st_kind_life : Stmt := topS 21
abbrev N_kind_life : List Str := ["kinds", "kind", "row", "stretch", "following", "chance", "k"]
theorem sc_kind_life : FnScope N_kind_life ["kinds", "kind"] (defScope st_kind_life) := ⟨rfl, rfl, rfl, by decide +kernel, rfl, by decide +kernel, by decide +kernel⟩
abbrev st_summed : Stmt := topS 12
abbrev N_summed : List Str := ["some", "found", "one"]
theorem sc_summed : FnScope N_summed ["some"] (defScope st_summed) := ⟨rfl, rfl, rfl, by decide +kernel, rfl, by decide +kernel, by decide +kernel⟩
abbrev st_minus : Stmt := topS 9
abbrev N_minus : List Str := ["one", "other"]
theorem sc_minus : FnScope N_minus ["one", "other"] (defScope st_minus) := ⟨rfl, rfl, rfl, by decide +kernel, rfl, by decide +kernel, by decide +kernel⟩
abbrev st_over : Stmt := topS 11
abbrev N_over : List Str := ["one", "other"]
theorem sc_over : FnScope N_over ["one", "other"] (defScope st_over) := ⟨rfl, rfl, rfl, by decide +kernel, rfl, by decide +kernel, by decide +kernel⟩
abbrev st_chances_added : Stmt := topS 14
abbrev N_chances_added : List Str := ["life", "row", "step", "found"]
theorem sc_chances_added : FnScope N_chances_added ["life"] (defScope st_chances_added) := ⟨rfl, rfl, rfl, by decide +kernel, rfl, by decide +kernel, by decide +kernel⟩
abbrev st_miss : Stmt := topS 15
abbrev N_miss : List Str := ["life"]
theorem sc_miss : FnScope N_miss ["life"] (defScope st_miss) := ⟨rfl, rfl, rfl, by decide +kernel, rfl, by decide +kernel, by decide +kernel⟩
abbrev st_behind_row : Stmt := topS 23
abbrev N_behind_row : List Str := ["life", "power", "row", "step", "many", "rest", "once", "twice", "thrice", "found"]
theorem sc_behind_row : FnScope N_behind_row ["life", "power"] (defScope st_behind_row) := ⟨rfl, rfl, rfl, by decide +kernel, rfl, by decide +kernel, by decide +kernel⟩
abbrev st_mean : Stmt := topS 24
abbrev N_mean : List Str := ["life", "own", "k", "chance"]
theorem sc_mean : FnScope N_mean ["life"] (defScope st_mean) := ⟨rfl, rfl, rfl, by decide +kernel, rfl, by decide +kernel, by decide +kernel⟩
abbrev st_whole_of : Stmt := topS 29
abbrev N_whole_of : List Str := ["numbers", "total", "number"]
theorem sc_whole_of : FnScope N_whole_of ["numbers"] (defScope st_whole_of) := ⟨rfl, rfl, rfl, by decide +kernel, rfl, by decide +kernel, by decide +kernel⟩
abbrev st_by_whole : Stmt := topS 30
abbrev N_by_whole : List Str := ["numbers", "total", "number"]
theorem sc_by_whole : FnScope N_by_whole ["numbers"] (defScope st_by_whole) := ⟨rfl, rfl, rfl, by decide +kernel, rfl, by decide +kernel, by decide +kernel⟩
abbrev st_chain : Stmt := topS 20
abbrev N_chain : List Str := ["kinds", "rows", "triples", "row", "stretch", "following", "chance", "triple"]
theorem sc_chain : FnScope N_chain ["kinds"] (defScope st_chain) := ⟨rfl, rfl, rfl, by decide +kernel, rfl, by decide +kernel, by decide +kernel⟩
abbrev st_reached : Stmt := topS 28
abbrev N_reached : List Str := ["rows", "kind", "found", "at", "following", "chance"]
theorem sc_reached : FnScope N_reached ["rows", "kind"] (defScope st_reached) := ⟨rfl, rfl, rfl, by decide +kernel, rfl, by decide +kernel, by decide +kernel⟩
abbrev st_weights_of : Stmt := topS 31
abbrev N_weights_of : List Str := ["rows", "some", "board", "last", "back", "i", "j", "weights", "kind", "following"]
theorem sc_weights_of : FnScope N_weights_of ["rows", "some"] (defScope st_weights_of) := ⟨rfl, rfl, rfl, by decide +kernel, rfl, by decide +kernel, by decide +kernel⟩
abbrev st_ways_home : Stmt := topS 32
abbrev N_ways_home : List Str := ["rows", "home", "led", "found", "at", "kind"]
theorem sc_ways_home : FnScope N_ways_home ["rows", "home"] (defScope st_ways_home) := ⟨rfl, rfl, rfl, by decide +kernel, rfl, by decide +kernel, by decide +kernel⟩
abbrev st_share_told : Stmt := topS 33
abbrev N_share_told : List Str := ["kinds", "rows", "spread", "homes", "home", "weights", "kind", "weight", "one", "other", "row", "some"]
theorem sc_share_told : FnScope N_share_told ["kinds"] (defScope st_share_told) := ⟨rfl, rfl, rfl, by decide +kernel, rfl, by decide +kernel, by decide +kernel⟩
abbrev st_shares : Stmt := topS 34
abbrev N_shares : List Str := ["kinds", "told", "kind", "weight"]
theorem sc_shares : FnScope N_shares ["kinds"] (defScope st_shares) := ⟨rfl, rfl, rfl, by decide +kernel, rfl, by decide +kernel, by decide +kernel⟩
abbrev st_ever_gain : Stmt := topS 35
abbrev N_ever_gain : List Str := ["kinds", "prices", "told", "price", "part"]
theorem sc_ever_gain : FnScope N_ever_gain ["kinds", "prices"] (defScope st_ever_gain) := ⟨rfl, rfl, rfl, by decide +kernel, rfl, by decide +kernel, by decide +kernel⟩
abbrev st_q_draw : Stmt := topS 38
abbrev N_q_draw : List Str := ["_law_feed_here", "_law_size", "_law_turn", "_law_digit", "_law_at", "_law_cell", "_law_mixed"]
theorem sc_q_draw : FnScope N_q_draw ["_law_feed_here", "_law_size"] (defScope st_q_draw) := ⟨rfl, rfl, rfl, by decide +kernel, rfl, by decide +kernel, by decide +kernel⟩
abbrev st_q_lowest : Stmt := topS 39
abbrev N_q_lowest : List Str := ["_law_top", "_law_bottom", "_law_one", "_law_other"]
theorem sc_q_lowest : FnScope N_q_lowest ["_law_top", "_law_bottom"] (defScope st_q_lowest) := ⟨rfl, rfl, rfl, by decide +kernel, rfl, by decide +kernel, by decide +kernel⟩
abbrev st_q_by : Stmt := topS 41
abbrev N_q_by : List Str := ["_law_one", "_law_other"]
theorem sc_q_by : FnScope N_q_by ["_law_one", "_law_other"] (defScope st_q_by) := ⟨rfl, rfl, rfl, by decide +kernel, rfl, by decide +kernel, by decide +kernel⟩
abbrev st_q_add : Stmt := topS 40
abbrev N_q_add : List Str := ["_law_one", "_law_other"]
theorem sc_q_add : FnScope N_q_add ["_law_one", "_law_other"] (defScope st_q_add) := ⟨rfl, rfl, rfl, by decide +kernel, rfl, by decide +kernel, by decide +kernel⟩
abbrev st_q_all : Stmt := topS 42
abbrev N_q_all : List Str := ["_law_numbers", "_law_found", "_law_number"]
theorem sc_q_all : FnScope N_q_all ["_law_numbers"] (defScope st_q_all) := ⟨rfl, rfl, rfl, by decide +kernel, rfl, by decide +kernel, by decide +kernel⟩
abbrev st_q_following : Stmt := topS 43
abbrev N_q_following : List Str := ["_law_feed_here", "_law_way", "_law_k", "_law_size"]
theorem sc_q_following : FnScope N_q_following ["_law_feed_here", "_law_way", "_law_k", "_law_size"] (defScope st_q_following) := ⟨rfl, rfl, rfl, by decide +kernel, rfl, by decide +kernel, by decide +kernel⟩
abbrev st_q_kinds : Stmt := topS 44
abbrev N_q_kinds : List Str := ["_law_feed_here", "_law_size", "_law_is_full", "_law_way", "_law_kinds_here", "_law_k", "_law_marks", "_law_lack", "_law_turn", "_law_pair", "_law_total"]
theorem sc_q_kinds : FnScope N_q_kinds ["_law_feed_here", "_law_size", "_law_is_full"] (defScope st_q_kinds) := ⟨rfl, rfl, rfl, by decide +kernel, rfl, by decide +kernel, by decide +kernel⟩
abbrev st_q_rows : Stmt := topS 45
abbrev N_q_rows : List Str := ["_law_kinds_here", "_law_rows_here", "_law_triples", "_law_k", "_law_one"]
theorem sc_q_rows : FnScope N_q_rows ["_law_kinds_here"] (defScope st_q_rows) := ⟨rfl, rfl, rfl, by decide +kernel, rfl, by decide +kernel, by decide +kernel⟩
abbrev st_q_trees : Stmt := topS 46
abbrev N_q_trees : List Str := ["_law_rows_here", "_law_home", "_law_size", "_law_others", "_law_total", "_law_number", "_law_sent", "_law_left", "_law_chance", "_law_kind", "_law_here", "_law_turn"]
theorem sc_q_trees : FnScope N_q_trees ["_law_rows_here", "_law_home"] (defScope st_q_trees) := ⟨rfl, rfl, rfl, by decide +kernel, rfl, by decide +kernel, by decide +kernel⟩
abbrev st_q_weights : Stmt := topS 47
abbrev N_q_weights : List Str := ["_law_rows_here", "_law_trees_here", "_law_top", "_law_bottom", "_law_kind", "_law_one"]
theorem sc_q_weights : FnScope N_q_weights ["_law_rows_here"] (defScope st_q_weights) := ⟨rfl, rfl, rfl, by decide +kernel, rfl, by decide +kernel, by decide +kernel⟩
abbrev st_q_group_kinds : Stmt := topS 48
abbrev N_q_group_kinds : List Str := ["_law_feed_here", "_law_size", "_law_cut", "_law_end", "_law_kinds_here", "_law_k", "_law_low", "_law_high", "_law_marks", "_law_turn", "_law_total", "_law_pair"]
theorem sc_q_group_kinds : FnScope N_q_group_kinds ["_law_feed_here"] (defScope st_q_group_kinds) := ⟨rfl, rfl, rfl, by decide +kernel, rfl, by decide +kernel, by decide +kernel⟩
abbrev st_q_mean : Stmt := topS 49
abbrev N_q_mean : List Str := ["_law_triples", "_law_stretch", "_law_following_here", "_law_own"]
theorem sc_q_mean : FnScope N_q_mean ["_law_triples"] (defScope st_q_mean) := ⟨rfl, rfl, rfl, by decide +kernel, rfl, by decide +kernel, by decide +kernel⟩
abbrev st_law : Stmt := topS 50
abbrev N_law : List Str := ["_law_script", "_law_feed_here", "_law_k", "_law_kinds_here", "_law_prices", "_law_kind", "_law_weights_here", "_law_due", "_law_gain", "_law_parts", "_law_top", "_law_bottom", "_law_turn", "_law_weight", "_law_triples", "_law_one", "_law_price"]
theorem sc_law : FnScope N_law ["_law_script"] (defScope st_law) := ⟨rfl, rfl, rfl, by decide +kernel, rfl, by decide +kernel, by decide +kernel⟩
/-- what the top has written: the facts -/
structure Txt (K : PySem.W.Frag) (mg : Str → Option Value) : Prop where
  n_abs : mg "abs" = none
  n_all : mg "all" = none
  n_enumerate : mg "enumerate" = none
  n_int : mg "int" = none
  n_len : mg "len" = none
  n_list : mg "list" = none
  n_min : mg "min" = none
  n_range : mg "range" = none
  n_repr : mg "repr" = none
  n_sorted : mg "sorted" = none
  n_sum : mg "sum" = none
  n_tuple : mg "tuple" = none
  n_zip : mg "zip" = none
  s_q_feed : Src K mg "_law_feed" "_law_feed" st_q_feed ["_law_script"]
  s_common : Src K mg "common" "common" st_common ["one", "other"]
  s_ratio : Src K mg "ratio" "ratio" st_ratio ["top", "bottom"]
  s_times : Src K mg "times" "times" st_times ["one", "other"]
  s_plus : Src K mg "plus" "plus" st_plus ["one", "other"]
  s_short : Src K mg "short" "short" st_short ["life"]
  s_kind_life : Src K mg "kind_life" "kind_life" st_kind_life ["kinds", "kind"]
  s_summed : Src K mg "summed" "summed" st_summed ["some"]
  s_minus : Src K mg "minus" "minus" st_minus ["one", "other"]
  s_over : Src K mg "over" "over" st_over ["one", "other"]
  s_chances_added : Src K mg "chances_added" "chances_added" st_chances_added ["life"]
  s_miss : Src K mg "miss" "miss" st_miss ["life"]
  s_behind_row : Src K mg "behind_row" "behind_row" st_behind_row ["life", "power"]
  s_mean : Src K mg "mean" "mean" st_mean ["life"]
  s_whole_of : Src K mg "whole_of" "whole_of" st_whole_of ["numbers"]
  s_by_whole : Src K mg "by_whole" "by_whole" st_by_whole ["numbers"]
  s_chain : Src K mg "chain" "chain" st_chain ["kinds"]
  s_reached : Src K mg "reached" "reached" st_reached ["rows", "kind"]
  s_weights_of : Src K mg "weights_of" "weights_of" st_weights_of ["rows", "some"]
  s_ways_home : Src K mg "ways_home" "ways_home" st_ways_home ["rows", "home"]
  s_share_told : Src K mg "share_told" "share_told" st_share_told ["kinds"]
  s_shares : Src K mg "shares" "shares" st_shares ["kinds"]
  s_ever_gain : Src K mg "ever_gain" "ever_gain" st_ever_gain ["kinds", "prices"]
  s_q_draw : Src K mg "_law_draw" "_law_draw" st_q_draw ["_law_feed_here", "_law_size"]
  s_q_lowest : Src K mg "_law_lowest" "_law_lowest" st_q_lowest ["_law_top", "_law_bottom"]
  s_q_by : Src K mg "_law_by" "_law_by" st_q_by ["_law_one", "_law_other"]
  s_q_add : Src K mg "_law_add" "_law_add" st_q_add ["_law_one", "_law_other"]
  s_q_all : Src K mg "_law_all" "_law_all" st_q_all ["_law_numbers"]
  s_q_following : Src K mg "_law_following" "_law_following" st_q_following ["_law_feed_here", "_law_way", "_law_k", "_law_size"]
  s_q_kinds : Src K mg "_law_kinds" "_law_kinds" st_q_kinds ["_law_feed_here", "_law_size", "_law_is_full"]
  s_q_rows : Src K mg "_law_rows" "_law_rows" st_q_rows ["_law_kinds_here"]
  s_q_trees : Src K mg "_law_trees" "_law_trees" st_q_trees ["_law_rows_here", "_law_home"]
  s_q_weights : Src K mg "_law_weights" "_law_weights" st_q_weights ["_law_rows_here"]
  s_q_group_kinds : Src K mg "_law_group_kinds" "_law_group_kinds" st_q_group_kinds ["_law_feed_here"]
  s_q_mean : Src K mg "_law_mean" "_law_mean" st_q_mean ["_law_triples"]
  s_law : Src K mg "law" "law" st_law ["_law_script"]
  k_NOUGHT_ratios : ∃ a, mg "NOUGHT_ratios" = some (.ref a) ∧ ∀ HF, DR K HF (.ref a) d_NOUGHT
  k_ONE_ratios : ∃ a, mg "ONE_ratios" = some (.ref a) ∧ ∀ HF, DR K HF (.ref a) d_ONE
  k_LONGEST : ∃ t, mg "LONGEST" = some (.int 6 t)
  k_NOUGHT_kinds : ∃ a, mg "NOUGHT_kinds" = some (.ref a) ∧ ∀ HF, DR K HF (.ref a) d_NOUGHT
  k_NOUGHT_sharing : ∃ a, mg "NOUGHT_sharing" = some (.ref a) ∧ ∀ HF, DR K HF (.ref a) d_NOUGHT
  k_ONE_sharing : ∃ a, mg "ONE_sharing" = some (.ref a) ∧ ∀ HF, DR K HF (.ref a) d_ONE
theorem c_NOUGHT_ratios {K : PySem.W.Frag} {mg : Str → Option Value} (T : Txt K mg) {X : Cx} {W : Wish} {p : Pos} (hK : X.K = K) (hm : X.mg = mg) (hg : Gl X "NOUGHT_ratios") : DE X W (.Name "NOUGHT_ratios" p) (cC d_NOUGHT) := by
  subst hK
  subst hm
  obtain ⟨a, h1, h2⟩ := T.k_NOUGHT_ratios
  exact de_glob hg h1 (v := .ref a) rfl h2 (by decide)
theorem c_ONE_ratios {K : PySem.W.Frag} {mg : Str → Option Value} (T : Txt K mg) {X : Cx} {W : Wish} {p : Pos} (hK : X.K = K) (hm : X.mg = mg) (hg : Gl X "ONE_ratios") : DE X W (.Name "ONE_ratios" p) (cC d_ONE) := by
  subst hK
  subst hm
  obtain ⟨a, h1, h2⟩ := T.k_ONE_ratios
  exact de_glob hg h1 (v := .ref a) rfl h2 (by decide)
theorem c_LONGEST {K : PySem.W.Frag} {mg : Str → Option Value} (T : Txt K mg) {X : Cx} {W : Wish} {p : Pos} (hK : X.K = K) (hm : X.mg = mg) (hg : Gl X "LONGEST") : DE X W (.Name "LONGEST" p) (cC d_LONGEST) := by
  subst hK
  subst hm
  obtain ⟨t, h1⟩ := T.k_LONGEST
  exact de_glob hg h1 (v := .int 6) ⟨t, rfl⟩ (fun _ => .int _) (by decide)
theorem c_NOUGHT_kinds {K : PySem.W.Frag} {mg : Str → Option Value} (T : Txt K mg) {X : Cx} {W : Wish} {p : Pos} (hK : X.K = K) (hm : X.mg = mg) (hg : Gl X "NOUGHT_kinds") : DE X W (.Name "NOUGHT_kinds" p) (cC d_NOUGHT) := by
  subst hK
  subst hm
  obtain ⟨a, h1, h2⟩ := T.k_NOUGHT_kinds
  exact de_glob hg h1 (v := .ref a) rfl h2 (by decide)
theorem c_NOUGHT_sharing {K : PySem.W.Frag} {mg : Str → Option Value} (T : Txt K mg) {X : Cx} {W : Wish} {p : Pos} (hK : X.K = K) (hm : X.mg = mg) (hg : Gl X "NOUGHT_sharing") : DE X W (.Name "NOUGHT_sharing" p) (cC d_NOUGHT) := by
  subst hK
  subst hm
  obtain ⟨a, h1, h2⟩ := T.k_NOUGHT_sharing
  exact de_glob hg h1 (v := .ref a) rfl h2 (by decide)
theorem c_ONE_sharing {K : PySem.W.Frag} {mg : Str → Option Value} (T : Txt K mg) {X : Cx} {W : Wish} {p : Pos} (hK : X.K = K) (hm : X.mg = mg) (hg : Gl X "ONE_sharing") : DE X W (.Name "ONE_sharing" p) (cC d_ONE) := by
  subst hK
  subst hm
  obtain ⟨a, h1, h2⟩ := T.k_ONE_sharing
  exact de_glob hg h1 (v := .ref a) rfl h2 (by decide)
section
variable {P : Program} {w : World} {K : PySem.W.Frag} {mg : Str → Option Value} {base : Heap}
theorem h_common (T : Txt K mg)  : Has P w K mg base 1 "common" ["one", "other"] F_common :=
  has_mk (k := 0) T.s_common sc_common fun ff cdv A outer s0 H E gd hr => by
    have hu := hr.units
    exact (dss_cons (ds_while PassesOwn.never (dt_ne hu (de_var (pv 1)) de_int) (dss_one (ds_par (i := 0) (j := 1) rfl sc_common.nd rfl rfl (by decide) rfl rfl (da_cons (de_var (pv 1)) (da_cons (de_mod (de_var (pv 0)) (de_var (pv 1))) da_nil)) (by rfl)))) (dss_one (ds_ret (de_var (pv 0)))))
theorem h_ratio (T : Txt K mg) (H_common : Has P w K mg base 1 "common" ["one", "other"] F_common) : Has P w K mg base 2 "ratio" ["top", "bottom"] F_ratio :=
  has_mk (k := 1) T.s_ratio sc_ratio fun ff cdv A outer s0 H E gd hr => by
    have hu := hr.units
    exact (dss_cons (ds_if (dt_eq hu (de_var (pv 1)) de_int) (dss_one ds_no) dss_nil) (dss_cons (ds_set (i := 2) sc_ratio.nd rfl (.inl rfl) (de_if (dt_lt (de_var (pv 1)) de_int) (de_neg de_int) de_int)) (dss_cons (ds_set (i := 3) sc_ratio.nd rfl (.inl rfl) (de_has H_common gd (hr.mono (by decide)) (by rfl) (da_cons (de_abs (by rfl) T.n_abs (de_var (pv 0))) (da_cons (de_abs (by rfl) T.n_abs (de_var (pv 1))) da_nil)))) (dss_one (ds_ret (de_tup (da_cons (de_fdiv (de_mul (de_var (pv 2)) (de_var (pv 0))) (de_var (pv 3))) (da_cons (de_fdiv (de_mul (de_var (pv 2)) (de_var (pv 1))) (de_var (pv 3))) da_nil))))))))
theorem h_times (T : Txt K mg) (H_ratio : Has P w K mg base 2 "ratio" ["top", "bottom"] F_ratio) : Has P w K mg base 3 "times" ["one", "other"] F_times :=
  has_mk (k := 2) T.s_times sc_times fun ff cdv A outer s0 H E gd hr => by
    have hu := hr.units
    exact (dss_one (ds_ret (de_has H_ratio gd (hr.mono (by decide)) (by rfl) (da_cons (de_mul (de_ix (de_var (pv 0)) de_int (fun _ _ => rfl)) (de_ix (de_var (pv 1)) de_int (fun _ _ => rfl))) (da_cons (de_mul (de_ix (de_var (pv 0)) de_int (fun _ _ => rfl)) (de_ix (de_var (pv 1)) de_int (fun _ _ => rfl))) da_nil)))))
theorem h_plus (T : Txt K mg) (H_ratio : Has P w K mg base 2 "ratio" ["top", "bottom"] F_ratio) : Has P w K mg base 3 "plus" ["one", "other"] F_plus :=
  has_mk (k := 2) T.s_plus sc_plus fun ff cdv A outer s0 H E gd hr => by
    have hu := hr.units
    exact (dss_one (ds_ret (de_has H_ratio gd (hr.mono (by decide)) (by rfl) (da_cons (de_add (de_mul (de_ix (de_var (pv 0)) de_int (fun _ _ => rfl)) (de_ix (de_var (pv 1)) de_int (fun _ _ => rfl))) (de_mul (de_ix (de_var (pv 1)) de_int (fun _ _ => rfl)) (de_ix (de_var (pv 0)) de_int (fun _ _ => rfl)))) (da_cons (de_mul (de_ix (de_var (pv 0)) de_int (fun _ _ => rfl)) (de_ix (de_var (pv 1)) de_int (fun _ _ => rfl))) da_nil)))))
theorem h_short (T : Txt K mg) (H_times : Has P w K mg base 3 "times" ["one", "other"] F_times) : Has P w K mg base 4 "short" ["life"] F_short :=
  has_mk (k := 3) T.s_short sc_short fun ff cdv A outer s0 H E gd hr => by
    have hu := hr.units
    exact (dss_cons (ds_asg (T := (.many [1, 2])) (de_var (pv 0)) (dg_many rfl (dga_cons (pg_name (i := 1) sc_short.nd rfl (.inl rfl)) (dga_cons (pg_name (i := 2) sc_short.nd rfl (.inl rfl)) dga_nil)))) (dss_cons (ds_while PassesOwn.never (dt_w (dw_and (dt_gt (de_len (by rfl) T.n_len (de_var (pv 1))) de_int) (dw_and1 (dt_eq hu (de_ix (de_var (pv 1)) (de_neg de_int) (fun _ _ => rfl)) (c_NOUGHT_ratios T rfl rfl (by rfl)))))) (dss_one (ds_par (i := 1) (j := 2) rfl sc_short.nd rfl rfl (by decide) rfl rfl (da_cons (de_slice (de_var (pv 1)) do_none (do_some (de_neg de_int))) (da_cons (c_NOUGHT_ratios T rfl rfl (by rfl)) da_nil)) (by rfl)))) (dss_cons (ds_if (dt_eq hu (de_var (pv 2)) (c_NOUGHT_ratios T rfl rfl (by rfl))) (dss_one (ds_ret (de_tup (da_cons (de_var (pv 1)) (da_cons (de_var (pv 2)) da_nil))))) dss_nil) (dss_cons (ds_while PassesOwn.never (dt_w (dw_and (dt_gt (de_len (by rfl) T.n_len (de_var (pv 1))) de_int) (dw_and1 (dt_eq hu (de_has H_times gd (hr.mono (by decide)) (by rfl) (da_cons (de_ix (de_var (pv 1)) (de_neg de_int) (fun _ _ => rfl)) (da_cons (de_var (pv 2)) da_nil))) (de_ix (de_var (pv 1)) (de_neg de_int) (fun _ _ => rfl)))))) (dss_one (ds_set (i := 1) sc_short.nd rfl (.inl rfl) (de_slice (de_var (pv 1)) do_none (do_some (de_neg de_int)))))) (dss_one (ds_ret (de_tup (da_cons (de_var (pv 1)) (da_cons (de_var (pv 2)) da_nil)))))))))
theorem h_kind_life (T : Txt K mg) (H_plus : Has P w K mg base 3 "plus" ["one", "other"] F_plus) (H_short : Has P w K mg base 4 "short" ["life"] F_short) : Has P w K mg base 5 "kind_life" ["kinds", "kind"] F_kind_life :=
  has_mk (k := 4) T.s_kind_life sc_kind_life fun ff cdv A outer s0 H E gd hr => by
    have hu := hr.units
    exact (dss_cons (ds_setLc (i := 2) (own := [("k", 6)]) (T := (.one 6)) rfl sc_kind_life.nd rfl rfl (sw_true rfl rfl rfl (by decide +kernel)) (di_range1 (by rfl) T.n_range (c_LONGEST T rfl rfl (by rfl))) (blkOk_by (own := [("k", 6)]) (N := N_kind_life) (sc := defScope st_kind_life) (by decide +kernel)) (by decide) (fun _ _ _ _ _ => (dg_one sc_kind_life.nd rfl (.inl rfl))) (fun _ _ _ _ _ => ts_nil) (fun _ _ _ _ _ => (c_NOUGHT_kinds T rfl rfl (by rfl)))) (dss_cons (ds_for (T := (.many [3, 4, 5])) PassesOwn.never rfl (di_seq (de_ix (de_var (pv 0)) (de_var (pv 1)) (fun _ _ => rfl))) (dg_many rfl (dga_cons (pg_name (i := 3) sc_kind_life.nd rfl (.inl rfl)) (dga_cons (pg_name (i := 4) sc_kind_life.nd rfl (.inl rfl)) (dga_cons (pg_name (i := 5) sc_kind_life.nd rfl (.inl rfl)) dga_nil)))) (dss_one (ds_put (i := 2) (pv 2) (de_sub (de_var (pv 3)) de_int) (de_has H_plus gd (hr.mono (by decide)) (by rfl) (da_cons (de_ix (de_var (pv 2)) (de_sub (de_var (pv 3)) de_int) (fun _ _ => rfl)) (da_cons (de_var (pv 5)) da_nil)))))) (dss_frz 2 (dss_one (ds_ret (de_has H_short gd (hr.mono (by decide)) (by rfl) (da_cons (de_tup (da_cons (de_tuple (by rfl) T.n_tuple (de_var (pv 2))) (da_cons (c_NOUGHT_kinds T rfl rfl (by rfl)) da_nil))) da_nil)))))))
theorem h_summed (T : Txt K mg) (H_plus : Has P w K mg base 3 "plus" ["one", "other"] F_plus) : Has P w K mg base 4 "summed" ["some"] F_summed :=
  has_mk (k := 3) T.s_summed sc_summed fun ff cdv A outer s0 H E gd hr => by
    have hu := hr.units
    exact (dss_cons (ds_set (i := 1) sc_summed.nd rfl (.inl rfl) (c_NOUGHT_ratios T rfl rfl (by rfl))) (dss_cons (ds_for (T := (.one 2)) PassesOwn.never rfl (di_seq (de_var (pv 0))) (dg_one sc_summed.nd rfl (.inl rfl)) (dss_one (ds_set (i := 1) sc_summed.nd rfl (.inl rfl) (de_has H_plus gd (hr.mono (by decide)) (by rfl) (da_cons (de_var (pv 1)) (da_cons (de_var (pv 2)) da_nil)))))) (dss_one (ds_ret (de_var (pv 1))))))
theorem h_minus (T : Txt K mg) (H_ratio : Has P w K mg base 2 "ratio" ["top", "bottom"] F_ratio) : Has P w K mg base 3 "minus" ["one", "other"] F_minus :=
  has_mk (k := 2) T.s_minus sc_minus fun ff cdv A outer s0 H E gd hr => by
    have hu := hr.units
    exact (dss_one (ds_ret (de_has H_ratio gd (hr.mono (by decide)) (by rfl) (da_cons (de_sub (de_mul (de_ix (de_var (pv 0)) de_int (fun _ _ => rfl)) (de_ix (de_var (pv 1)) de_int (fun _ _ => rfl))) (de_mul (de_ix (de_var (pv 1)) de_int (fun _ _ => rfl)) (de_ix (de_var (pv 0)) de_int (fun _ _ => rfl)))) (da_cons (de_mul (de_ix (de_var (pv 0)) de_int (fun _ _ => rfl)) (de_ix (de_var (pv 1)) de_int (fun _ _ => rfl))) da_nil)))))
theorem h_over (T : Txt K mg) (H_ratio : Has P w K mg base 2 "ratio" ["top", "bottom"] F_ratio) : Has P w K mg base 3 "over" ["one", "other"] F_over :=
  has_mk (k := 2) T.s_over sc_over fun ff cdv A outer s0 H E gd hr => by
    have hu := hr.units
    exact (dss_one (ds_ret (de_has H_ratio gd (hr.mono (by decide)) (by rfl) (da_cons (de_mul (de_ix (de_var (pv 0)) de_int (fun _ _ => rfl)) (de_ix (de_var (pv 1)) de_int (fun _ _ => rfl))) (da_cons (de_mul (de_ix (de_var (pv 0)) de_int (fun _ _ => rfl)) (de_ix (de_var (pv 1)) de_int (fun _ _ => rfl))) da_nil)))))
theorem h_chances_added (T : Txt K mg) (H_plus : Has P w K mg base 3 "plus" ["one", "other"] F_plus) (H_minus : Has P w K mg base 3 "minus" ["one", "other"] F_minus) (H_times : Has P w K mg base 3 "times" ["one", "other"] F_times) (H_over : Has P w K mg base 3 "over" ["one", "other"] F_over) (H_summed : Has P w K mg base 4 "summed" ["some"] F_summed) : Has P w K mg base 5 "chances_added" ["life"] F_chances_added :=
  has_mk (k := 4) T.s_chances_added sc_chances_added fun ff cdv A outer s0 H E gd hr => by
    have hu := hr.units
    exact (dss_cons (ds_asg (T := (.many [1, 2])) (de_var (pv 0)) (dg_many rfl (dga_cons (pg_name (i := 1) sc_chances_added.nd rfl (.inl rfl)) (dga_cons (pg_name (i := 2) sc_chances_added.nd rfl (.inl rfl)) dga_nil)))) (dss_cons (ds_set (i := 3) sc_chances_added.nd rfl (.inl rfl) (de_has H_summed gd (hr.mono (by decide)) (by rfl) (da_cons (de_var (pv 1)) da_nil))) (dss_cons (ds_if (dt_eq hu (de_var (pv 2)) (c_NOUGHT_ratios T rfl rfl (by rfl))) (dss_one (ds_ret (de_var (pv 3)))) dss_nil) (dss_one (ds_ret (de_has H_plus gd (hr.mono (by decide)) (by rfl) (da_cons (de_var (pv 3)) (da_cons (de_has H_over gd (hr.mono (by decide)) (by rfl) (da_cons (de_has H_times gd (hr.mono (by decide)) (by rfl) (da_cons (de_ix (de_var (pv 1)) (de_neg de_int) (fun _ _ => rfl)) (da_cons (de_var (pv 2)) da_nil))) (da_cons (de_has H_minus gd (hr.mono (by decide)) (by rfl) (da_cons (c_ONE_ratios T rfl rfl (by rfl)) (da_cons (de_var (pv 2)) da_nil))) da_nil))) da_nil))))))))
theorem h_miss (T : Txt K mg) (H_minus : Has P w K mg base 3 "minus" ["one", "other"] F_minus) (H_chances_added : Has P w K mg base 5 "chances_added" ["life"] F_chances_added) : Has P w K mg base 6 "miss" ["life"] F_miss :=
  has_mk (k := 5) T.s_miss sc_miss fun ff cdv A outer s0 H E gd hr => by
    have hu := hr.units
    exact (dss_one (ds_ret (de_has H_minus gd (hr.mono (by decide)) (by rfl) (da_cons (c_ONE_ratios T rfl rfl (by rfl)) (da_cons (de_has H_chances_added gd (hr.mono (by decide)) (by rfl) (da_cons (de_var (pv 0)) da_nil)) da_nil)))))
theorem h_behind_row (T : Txt K mg) (H_plus : Has P w K mg base 3 "plus" ["one", "other"] F_plus) (H_minus : Has P w K mg base 3 "minus" ["one", "other"] F_minus) (H_times : Has P w K mg base 3 "times" ["one", "other"] F_times) (H_over : Has P w K mg base 3 "over" ["one", "other"] F_over) : Has P w K mg base 4 "behind_row" ["life", "power"] F_behind_row :=
  has_mk (k := 3) T.s_behind_row sc_behind_row fun ff cdv A outer s0 H E gd hr => by
    have hu := hr.units
    exact (dss_cons (ds_asg (T := (.many [2, 3])) (de_var (pv 0)) (dg_many rfl (dga_cons (pg_name (i := 2) sc_behind_row.nd rfl (.inl rfl)) (dga_cons (pg_name (i := 3) sc_behind_row.nd rfl (.inl rfl)) dga_nil)))) (dss_cons (ds_if (dt_eq hu (de_var (pv 3)) (c_NOUGHT_ratios T rfl rfl (by rfl))) (dss_one (ds_ret (c_NOUGHT_ratios T rfl rfl (by rfl)))) dss_nil) (dss_cons (ds_set (i := 4) sc_behind_row.nd rfl (.inl rfl) (de_tup (da_cons (de_len (by rfl) T.n_len (de_var (pv 2))) (da_cons de_int da_nil)))) (dss_cons (ds_set (i := 5) sc_behind_row.nd rfl (.inl rfl) (de_has H_minus gd (hr.mono (by decide)) (by rfl) (da_cons (c_ONE_ratios T rfl rfl (by rfl)) (da_cons (de_var (pv 3)) da_nil)))) (dss_cons (ds_set (i := 6) sc_behind_row.nd rfl (.inl rfl) (de_has H_over gd (hr.mono (by decide)) (by rfl) (da_cons (de_var (pv 3)) (da_cons (de_var (pv 5)) da_nil)))) (dss_cons (ds_set (i := 7) sc_behind_row.nd rfl (.inl rfl) (de_has H_over gd (hr.mono (by decide)) (by rfl) (da_cons (de_var (pv 6)) (da_cons (de_var (pv 5)) da_nil)))) (dss_cons (ds_if (dt_eq hu (de_var (pv 1)) de_int) (dss_one (ds_ret (de_has H_times gd (hr.mono (by decide)) (by rfl) (da_cons (de_ix (de_var (pv 2)) (de_neg de_int) (fun _ _ => rfl)) (da_cons (de_has H_plus gd (hr.mono (by decide)) (by rfl) (da_cons (de_has H_times gd (hr.mono (by decide)) (by rfl) (da_cons (de_var (pv 4)) (da_cons (de_var (pv 6)) da_nil))) (da_cons (de_var (pv 7)) da_nil))) da_nil))))) dss_nil) (dss_cons (ds_set (i := 8) sc_behind_row.nd rfl (.inl rfl) (de_has H_over gd (hr.mono (by decide)) (by rfl) (da_cons (de_has H_times gd (hr.mono (by decide)) (by rfl) (da_cons (de_has H_plus gd (hr.mono (by decide)) (by rfl) (da_cons (c_ONE_ratios T rfl rfl (by rfl)) (da_cons (de_var (pv 3)) da_nil))) (da_cons (de_var (pv 7)) da_nil))) (da_cons (de_var (pv 5)) da_nil)))) (dss_cons (ds_set (i := 9) sc_behind_row.nd rfl (.inl rfl) (de_has H_plus gd (hr.mono (by decide)) (by rfl) (da_cons (de_has H_times gd (hr.mono (by decide)) (by rfl) (da_cons (de_has H_times gd (hr.mono (by decide)) (by rfl) (da_cons (de_var (pv 4)) (da_cons (de_var (pv 4)) da_nil))) (da_cons (de_var (pv 6)) da_nil))) (da_cons (de_has H_times gd (hr.mono (by decide)) (by rfl) (da_cons (de_has H_times gd (hr.mono (by decide)) (by rfl) (da_cons (de_tup (da_cons de_int (da_cons de_int da_nil))) (da_cons (de_var (pv 4)) da_nil))) (da_cons (de_var (pv 7)) da_nil))) da_nil)))) (dss_one (ds_ret (de_has H_times gd (hr.mono (by decide)) (by rfl) (da_cons (de_ix (de_var (pv 2)) (de_neg de_int) (fun _ _ => rfl)) (da_cons (de_has H_plus gd (hr.mono (by decide)) (by rfl) (da_cons (de_var (pv 9)) (da_cons (de_var (pv 8)) da_nil))) da_nil))))))))))))))
theorem h_mean (T : Txt K mg) (H_plus : Has P w K mg base 3 "plus" ["one", "other"] F_plus) (H_times : Has P w K mg base 3 "times" ["one", "other"] F_times) (H_summed : Has P w K mg base 4 "summed" ["some"] F_summed) (H_miss : Has P w K mg base 6 "miss" ["life"] F_miss) (H_behind_row : Has P w K mg base 4 "behind_row" ["life", "power"] F_behind_row) : Has P w K mg base 7 "mean" ["life"] F_mean :=
  has_mk (k := 6) T.s_mean sc_mean fun ff cdv A outer s0 H E gd hr => by
    have hu := hr.units
    exact (dss_cons (ds_if (dt_ne hu (de_has H_miss gd (hr.mono (by decide)) (by rfl) (da_cons (de_var (pv 0)) da_nil)) (c_NOUGHT_ratios T rfl rfl (by rfl))) (dss_one (ds_ret de_non)) dss_nil) (dss_cons (ds_set (i := 1) sc_mean.nd rfl (.inl rfl) (de_has H_summed gd (hr.mono (by decide)) (by rfl) (da_cons (de_lc (own := [("k", 2), ("chance", 3)]) (T := (.many [2, 3])) rfl sc_mean.nd (di_enum (by rfl) T.n_enumerate (de_ix (de_var (pv 0)) de_int (fun _ _ => rfl))) (blkOk_by (own := [("k", 2), ("chance", 3)]) (N := N_mean) (sc := defScope st_mean) (by decide +kernel)) (by decide) (fun _ _ _ _ _ => (dg_many rfl (dga_cons (pg_name (i := 2) sc_mean.nd rfl (.inl rfl)) (dga_cons (pg_name (i := 3) sc_mean.nd rfl (.inl rfl)) dga_nil)))) (fun _ _ _ _ _ => ts_nil) (fun _ _ _ _ _ => (de_has H_times gd (hr.mono (by decide)) (by rfl) (da_cons (de_tup (da_cons (de_add (de_var (pv 2)) de_int) (da_cons de_int da_nil))) (da_cons (de_var (pv 3)) da_nil))))) da_nil))) (dss_one (ds_ret (de_has H_plus gd (hr.mono (by decide)) (by rfl) (da_cons (de_var (pv 1)) (da_cons (de_has H_behind_row gd (hr.mono (by decide)) (by rfl) (da_cons (de_var (pv 0)) (da_cons de_int da_nil))) da_nil)))))))
theorem h_whole_of (T : Txt K mg) (H_plus : Has P w K mg base 3 "plus" ["one", "other"] F_plus) : Has P w K mg base 4 "whole_of" ["numbers"] F_whole_of :=
  has_mk (k := 3) T.s_whole_of sc_whole_of fun ff cdv A outer s0 H E gd hr => by
    have hu := hr.units
    exact (dss_cons (ds_set (i := 1) sc_whole_of.nd rfl (.inl rfl) (c_NOUGHT_sharing T rfl rfl (by rfl))) (dss_cons (ds_for (T := (.one 2)) PassesOwn.never rfl (di_seq (de_var (pv 0))) (dg_one sc_whole_of.nd rfl (.inl rfl)) (dss_one (ds_set (i := 1) sc_whole_of.nd rfl (.inl rfl) (de_has H_plus gd (hr.mono (by decide)) (by rfl) (da_cons (de_var (pv 1)) (da_cons (de_var (pv 2)) da_nil)))))) (dss_one (ds_ret (de_var (pv 1))))))
theorem h_by_whole (T : Txt K mg) (H_over : Has P w K mg base 3 "over" ["one", "other"] F_over) (H_whole_of : Has P w K mg base 4 "whole_of" ["numbers"] F_whole_of) : Has P w K mg base 5 "by_whole" ["numbers"] F_by_whole :=
  has_mk (k := 4) T.s_by_whole sc_by_whole fun ff cdv A outer s0 H E gd hr => by
    have hu := hr.units
    exact (dss_cons (ds_set (i := 1) sc_by_whole.nd rfl (.inr rfl) (de_has H_whole_of gd (hr.mono (by decide)) (by rfl) (da_cons (de_var (pv 0)) da_nil))) (dss_one (ds_ret (de_tuple (by rfl) T.n_tuple (de_lc (own := [("number", 2)]) (T := (.one 2)) rfl sc_by_whole.nd (di_seq (de_var (pv 0))) (blkOk_by (own := [("number", 2)]) (N := N_by_whole) (sc := defScope st_by_whole) (by decide +kernel)) (by decide) (fun _ _ _ _ _ => (dg_one sc_by_whole.nd rfl (.inl rfl))) (fun _ _ _ _ _ => ts_nil) (fun _ _ _ _ _ => (de_has H_over gd (hr.mono (by decide)) (by rfl) (da_cons (de_var (pv 2)) (da_cons (de_var (pv 1)) da_nil)))))))))
theorem h_chain (T : Txt K mg) (H_plus : Has P w K mg base 3 "plus" ["one", "other"] F_plus) : Has P w K mg base 4 "chain" ["kinds"] F_chain :=
  has_mk (k := 3) T.s_chain sc_chain fun ff cdv A outer s0 H E gd hr => by
    have hu := hr.units
    exact (dss_cons (ds_set (i := 1) sc_chain.nd rfl (.inl rfl) (de_lst da_nil)) (dss_cons (ds_for (T := (.one 2)) PassesOwn.never rfl (di_seq (de_var (pv 0))) (dg_one sc_chain.nd rfl (.inl rfl)) (dss_cons (ds_setLc (i := 3) (own := [("triple", 7)]) (T := (.one 7)) rfl sc_chain.nd rfl rfl (sw_true rfl rfl rfl (by decide +kernel)) (di_seq (de_var (pv 0))) (blkOk_by (own := [("triple", 7)]) (N := N_chain) (sc := defScope st_chain) (by decide +kernel)) (by decide) (fun _ _ _ _ _ => (dg_one sc_chain.nd rfl (.inl rfl))) (fun _ _ _ _ _ => ts_nil) (fun _ _ _ _ _ => (c_NOUGHT_kinds T rfl rfl (by rfl)))) (dss_cons (ds_for (T := (.many [4, 5, 6])) PassesOwn.never rfl (di_seq (de_var (pv 2))) (dg_many rfl (dga_cons (pg_name (i := 4) sc_chain.nd rfl (.inl rfl)) (dga_cons (pg_name (i := 5) sc_chain.nd rfl (.inl rfl)) (dga_cons (pg_name (i := 6) sc_chain.nd rfl (.inl rfl)) dga_nil)))) (dss_one (ds_put (i := 3) (pv 3) (de_var (pv 5)) (de_has H_plus gd (hr.mono (by decide)) (by rfl) (da_cons (de_ix (de_var (pv 3)) (de_var (pv 5)) (fun _ _ => rfl)) (da_cons (de_var (pv 6)) da_nil)))))) (dss_frz 3 (dss_one (ds_app (pv 1) (de_tuple (by rfl) T.n_tuple (de_var (pv 3))))))))) (dss_frz 1 (dss_one (ds_ret (de_tuple (by rfl) T.n_tuple (de_var (pv 1))))))))
theorem h_reached (T : Txt K mg)  : Has P w K mg base 1 "reached" ["rows", "kind"] F_reached :=
  has_mk (k := 0) T.s_reached sc_reached fun ff cdv A outer s0 H E gd hr => by
    have hu := hr.units
    exact (dss_cons (ds_set (i := 2) sc_reached.nd rfl (.inl rfl) (de_lst (da_cons (de_var (pv 1)) da_nil))) (dss_cons (ds_set (i := 3) sc_reached.nd rfl (.inl rfl) de_int) (dss_cons (ds_while PassesOwn.never (dt_lt (de_var (pv 3)) (de_len (by rfl) T.n_len (de_var (pv 2)))) (dss_cons (ds_for (T := (.many [4, 5])) PassesOwn.never rfl (di_enum (by rfl) T.n_enumerate (de_ix (de_var (pv 0)) (de_ix (de_var (pv 2)) (de_var (pv 3)) (fun _ _ => rfl)) (fun _ _ => rfl))) (dg_many rfl (dga_cons (pg_name (i := 4) sc_reached.nd rfl (.inl rfl)) (dga_cons (pg_name (i := 5) sc_reached.nd rfl (.inl rfl)) dga_nil))) (dss_one (ds_if (dt_w (dw_and (dt_ne hu (de_var (pv 5)) (c_NOUGHT_sharing T rfl rfl (by rfl))) (dw_and1 (dt_nin (de_var (pv 4)) (de_var (pv 2)))))) (dss_one (ds_app (pv 2) (de_var (pv 4)))) dss_nil))) (dss_one (ds_set (i := 3) sc_reached.nd rfl (.inl rfl) (de_add (de_var (pv 3)) de_int))))) (dss_one (ds_ret (de_var (pv 2)))))))
theorem h_weights_of (T : Txt K mg) (H_plus : Has P w K mg base 3 "plus" ["one", "other"] F_plus) (H_times : Has P w K mg base 3 "times" ["one", "other"] F_times) (H_over : Has P w K mg base 3 "over" ["one", "other"] F_over) (H_whole_of : Has P w K mg base 4 "whole_of" ["numbers"] F_whole_of) : Has P w K mg base 5 "weights_of" ["rows", "some"] F_weights_of :=
  has_mk (k := 4) T.s_weights_of sc_weights_of fun ff cdv A outer s0 H E gd hr => by
    have hu := hr.units
    exact (dss_cons (ds_brd (i := 2) sc_weights_of.nd rfl (.inr rfl) (db_lc (own := [("kind", 8)]) (T := (.one 8)) rfl sc_weights_of.nd (di_seq (de_var (pv 1))) (blkOk_by (own := [("kind", 8)]) (N := N_weights_of) (sc := defScope st_weights_of) (by decide +kernel)) (by decide) (fun _ _ _ _ _ => (dg_one sc_weights_of.nd rfl (.inr rfl))) (fun _ _ _ _ _ => ts_nil) (fun _ _ _ _ _ => (de_lc (own := [("following", 9)]) (T := (.one 9)) rfl sc_weights_of.nd (di_seq (de_var (pv 1))) (blkOk_by (own := [("following", 9)]) (by rfl)) (by decide) (fun _ _ _ _ _ => (dg_one sc_weights_of.nd rfl (.inl rfl))) (fun _ _ _ _ _ => ts_nil) (fun _ _ _ _ _ => (de_ix (de_ix (de_var (pv 0)) (de_var (pv 8)) (fun _ _ => rfl)) (de_var (pv 9)) (fun _ _ => rfl))))))) (dss_cons (ds_for (T := (.one 3)) PassesOwn.never rfl (di_down (by rfl) T.n_range (de_sub (de_len (by rfl) T.n_len (de_var (pv 1))) de_int) de_int (de_neg de_int)) (dg_one sc_weights_of.nd rfl (.inr rfl)) (dss_cons (ds_set (i := 4) sc_weights_of.nd rfl (.inl rfl) (de_has H_whole_of gd (hr.mono (by decide)) (by rfl) (da_cons (de_slice (de_row (i := 2) (pv 2) (de_var (pv 3)) (fun _ _ => rfl)) do_none (do_some (de_var (pv 3)))) da_nil))) (dss_one (ds_for (T := (.one 5)) PassesOwn.never rfl (di_range1 (by rfl) T.n_range (de_var (pv 3))) (dg_one sc_weights_of.nd rfl (.inl rfl)) (dss_cons (ds_bput (i := 2) (pv 2) (de_var (pv 5)) (fun _ _ => rfl) (de_var (pv 3)) (de_has H_over gd (hr.mono (by decide)) (by rfl) (da_cons (de_ix (de_row (i := 2) (pv 2) (de_var (pv 5)) (fun _ _ => rfl)) (de_var (pv 3)) (fun _ _ => rfl)) (da_cons (de_var (pv 4)) da_nil)))) (dss_one (ds_for (T := (.one 6)) PassesOwn.never rfl (di_range1 (by rfl) T.n_range (de_var (pv 3))) (dg_one sc_weights_of.nd rfl (.inl rfl)) (dss_one (ds_bput (i := 2) (pv 2) (de_var (pv 5)) (fun _ _ => rfl) (de_var (pv 6)) (de_has H_plus gd (hr.mono (by decide)) (by rfl) (da_cons (de_ix (de_row (i := 2) (pv 2) (de_var (pv 5)) (fun _ _ => rfl)) (de_var (pv 6)) (fun _ _ => rfl)) (da_cons (de_has H_times gd (hr.mono (by decide)) (by rfl) (da_cons (de_ix (de_row (i := 2) (pv 2) (de_var (pv 5)) (fun _ _ => rfl)) (de_var (pv 3)) (fun _ _ => rfl)) (da_cons (de_ix (de_row (i := 2) (pv 2) (de_var (pv 3)) (fun _ _ => rfl)) (de_var (pv 6)) (fun _ _ => rfl)) da_nil))) da_nil)))))))))))) (dss_cons (ds_set (i := 7) sc_weights_of.nd rfl (.inr rfl) (de_lst (da_cons (c_ONE_sharing T rfl rfl (by rfl)) da_nil))) (dss_cons (ds_for (T := (.one 3)) PassesOwn.never rfl (di_range2 (by rfl) T.n_range de_int (de_len (by rfl) T.n_len (de_var (pv 1)))) (dg_one sc_weights_of.nd rfl (.inr rfl)) (dss_one (ds_app (pv 7) (de_has H_whole_of gd (hr.mono (by decide)) (by rfl) (da_cons (de_lc (own := [("i", 5)]) (T := (.one 5)) rfl sc_weights_of.nd (di_range1 (by rfl) T.n_range (de_var (pv 3))) (blkOk_by (own := [("i", 5)]) (N := N_weights_of) (sc := defScope st_weights_of) (by decide +kernel)) (by decide) (fun _ _ _ _ _ => (dg_one sc_weights_of.nd rfl (.inl rfl))) (fun _ _ _ _ _ => ts_nil) (fun _ _ _ _ _ => (de_has H_times gd (hr.mono (by decide)) (by rfl) (da_cons (de_ix (de_var (pv 7)) (de_var (pv 5)) (fun _ _ => rfl)) (da_cons (de_ix (de_row (i := 2) (pv 2) (de_var (pv 5)) (fun _ _ => rfl)) (de_var (pv 3)) (fun _ _ => rfl)) da_nil))))) da_nil))))) (dss_one (ds_ret (de_var (pv 7))))))))
theorem h_ways_home (T : Txt K mg)  : Has P w K mg base 1 "ways_home" ["rows", "home"] F_ways_home :=
  has_mk (k := 0) T.s_ways_home sc_ways_home fun ff cdv A outer s0 H E gd hr => by
    have hu := hr.units
    exact (dss_cons (ds_set (i := 2) sc_ways_home.nd rfl (.inl rfl) (de_lst (da_cons (de_var (pv 1)) da_nil))) (dss_cons (ds_set (i := 3) sc_ways_home.nd rfl (.inl rfl) (de_lst da_nil)) (dss_cons (ds_set (i := 4) sc_ways_home.nd rfl (.inl rfl) de_int) (dss_cons (ds_while PassesOwn.never (dt_lt (de_var (pv 4)) (de_len (by rfl) T.n_len (de_var (pv 2)))) (dss_cons (ds_for (T := (.one 5)) PassesOwn.never rfl (di_range1 (by rfl) T.n_range (de_len (by rfl) T.n_len (de_var (pv 0)))) (dg_one sc_ways_home.nd rfl (.inl rfl)) (dss_one (ds_if (dt_w (dw_and (dt_nin (de_var (pv 5)) (de_var (pv 2))) (dw_and1 (dt_ne hu (de_ix (de_ix (de_var (pv 0)) (de_var (pv 5)) (fun _ _ => rfl)) (de_ix (de_var (pv 2)) (de_var (pv 4)) (fun _ _ => rfl)) (fun _ _ => rfl)) (c_NOUGHT_sharing T rfl rfl (by rfl)))))) (dss_cons (ds_app (pv 3) (de_tup (da_cons (de_var (pv 5)) (da_cons (de_ix (de_var (pv 2)) (de_var (pv 4)) (fun _ _ => rfl)) da_nil)))) (dss_one (ds_app (pv 2) (de_var (pv 5))))) dss_nil))) (dss_one (ds_set (i := 4) sc_ways_home.nd rfl (.inl rfl) (de_add (de_var (pv 4)) de_int))))) (dss_frz 3 (dss_one (ds_ret (de_tuple (by rfl) T.n_tuple (de_var (pv 3))))))))))
theorem h_share_told (T : Txt K mg) (H_chain : Has P w K mg base 4 "chain" ["kinds"] F_chain) (H_reached : Has P w K mg base 1 "reached" ["rows", "kind"] F_reached) (H_by_whole : Has P w K mg base 5 "by_whole" ["numbers"] F_by_whole) (H_weights_of : Has P w K mg base 5 "weights_of" ["rows", "some"] F_weights_of) (H_ways_home : Has P w K mg base 1 "ways_home" ["rows", "home"] F_ways_home) : Has P w K mg base 6 "share_told" ["kinds"] F_share_told :=
  has_mk (k := 5) T.s_share_told sc_share_told fun ff cdv A outer s0 H E gd hr => by
    have hu := hr.units
    exact (dss_cons (ds_set (i := 1) sc_share_told.nd rfl (.inr rfl) (de_has H_chain gd (hr.mono (by decide)) (by rfl) (da_cons (de_var (pv 0)) da_nil))) (dss_cons (ds_set (i := 2) sc_share_told.nd rfl (.inr rfl) (de_lc (own := [("kind", 6)]) (T := (.one 6)) rfl sc_share_told.nd (di_range1 (by rfl) T.n_range (de_len (by rfl) T.n_len (de_var (pv 1)))) (blkOk_by (own := [("kind", 6)]) (N := N_share_told) (sc := defScope st_share_told) (by decide +kernel)) (by decide) (fun _ _ _ _ _ => (dg_one sc_share_told.nd rfl (.inl rfl))) (fun _ _ _ _ _ => ts_nil) (fun _ _ _ _ _ => (de_has H_reached gd (hr.mono (by decide)) (by rfl) (da_cons (de_var (pv 1)) (da_cons (de_var (pv 6)) da_nil)))))) (dss_frz 2 (dss_cons (ds_setLc (i := 3) (own := [("kind", 6)]) (T := (.one 6)) rfl sc_share_told.nd rfl rfl (sw_true rfl rfl rfl (by decide +kernel)) (di_range1 (by rfl) T.n_range (de_len (by rfl) T.n_len (de_var (pv 1)))) (blkOk_by (own := [("kind", 6)]) (N := N_share_told) (sc := defScope st_share_told) (by decide +kernel)) (by decide) (fun _ _ _ _ _ => (dg_one sc_share_told.nd rfl (.inr rfl))) (fun _ _ _ _ _ => (ts_one (dt_val (de_all rfl (by rfl) T.n_all (de_lc (own := [("some", 11)]) (T := (.one 11)) rfl sc_share_told.nd (di_seq (de_var (pv 2))) (blkOk_by (own := [("some", 11)]) (by rfl)) (by decide) (fun _ _ _ _ _ => (dg_one sc_share_told.nd rfl (.inl rfl))) (fun _ _ _ _ _ => ts_nil) (fun _ _ _ _ _ => (de_in (de_var (pv 6)) (de_var (pv 11))))))))) (fun _ _ _ _ _ => (de_var (pv 6)))) (dss_frz 3 (dss_cons (ds_if (dt_ne hu (de_var (pv 3)) (de_lst da_nil)) (dss_cons (ds_set (i := 4) sc_share_told.nd rfl (.inl rfl) (de_ix (de_var (pv 3)) de_int (fun _ _ => rfl))) (dss_cons (ds_setLc (i := 5) (own := [("row", 10)]) (T := (.one 10)) rfl sc_share_told.nd rfl rfl (sw_true rfl rfl rfl (by decide +kernel)) (di_seq (de_var (pv 1))) (blkOk_by (own := [("row", 10)]) (N := N_share_told) (sc := defScope st_share_told) (by decide +kernel)) (by decide) (fun _ _ _ _ _ => (dg_one sc_share_told.nd rfl (.inl rfl))) (fun _ _ _ _ _ => ts_nil) (fun _ _ _ _ _ => (c_NOUGHT_sharing T rfl rfl (by rfl)))) (dss_cons (ds_for (T := (.many [6, 7])) PassesOwn.never rfl (di_zip (by rfl) T.n_zip (de_ix (de_var (pv 2)) (de_var (pv 4)) (fun _ _ => rfl)) (de_has H_weights_of gd (hr.mono (by decide)) (by rfl) (da_cons (de_var (pv 1)) (da_cons (de_ix (de_var (pv 2)) (de_var (pv 4)) (fun _ _ => rfl)) da_nil)))) (dg_many rfl (dga_cons (pg_name (i := 6) sc_share_told.nd rfl (.inl rfl)) (dga_cons (pg_name (i := 7) sc_share_told.nd rfl (.inl rfl)) dga_nil))) (dss_one (ds_put (i := 5) (pv 5) (de_var (pv 6)) (de_var (pv 7))))) (dss_frz 5 (dss_one (ds_ret (de_tup (da_cons de_str (da_cons (de_var (pv 4)) (da_cons (de_has H_by_whole gd (hr.mono (by decide)) (by rfl) (da_cons (de_var (pv 5)) da_nil)) (da_cons (de_has H_ways_home gd (hr.mono (by decide)) (by rfl) (da_cons (de_var (pv 1)) (da_cons (de_var (pv 4)) da_nil))) da_nil))))))))))) dss_nil) (dss_cons (ds_for (T := (.one 8)) PassesOwn.never rfl (di_range1 (by rfl) T.n_range (de_len (by rfl) T.n_len (de_var (pv 1)))) (dg_one sc_share_told.nd rfl (.inr rfl)) (dss_one (ds_for (T := (.one 9)) PassesOwn.never rfl (di_range1 (by rfl) T.n_range (de_var (pv 8))) (dg_one sc_share_told.nd rfl (.inl rfl)) (dss_one (ds_if (dt_val (de_all rfl (by rfl) T.n_all (de_lc (own := [("kind", 6)]) (T := (.one 6)) rfl sc_share_told.nd (di_seq (de_ix (de_var (pv 2)) (de_var (pv 9)) (fun _ _ => rfl))) (blkOk_by (own := [("kind", 6)]) (N := N_share_told) (sc := defScope st_share_told) (by decide +kernel)) (by decide) (fun _ _ _ _ _ => (dg_one sc_share_told.nd rfl (.inl rfl))) (fun _ _ _ _ _ => ts_nil) (fun _ _ _ _ _ => (de_nin (de_var (pv 6)) (de_ix (de_var (pv 2)) (de_var (pv 8)) (fun _ _ => rfl))))))) (dss_one (ds_ret (de_tup (da_cons de_str (da_cons (de_tuple (by rfl) T.n_tuple (de_sortI (by rfl) T.n_sorted (de_ix (de_var (pv 2)) (de_var (pv 9)) (fun _ _ => rfl)))) (da_cons (de_tuple (by rfl) T.n_tuple (de_sortI (by rfl) T.n_sorted (de_ix (de_var (pv 2)) (de_var (pv 8)) (fun _ _ => rfl)))) da_nil)))))) dss_nil))))) (dss_one (ds_ret de_non)))))))))
theorem h_shares (T : Txt K mg) (H_times : Has P w K mg base 3 "times" ["one", "other"] F_times) (H_kind_life : Has P w K mg base 5 "kind_life" ["kinds", "kind"] F_kind_life) (H_mean : Has P w K mg base 7 "mean" ["life"] F_mean) (H_by_whole : Has P w K mg base 5 "by_whole" ["numbers"] F_by_whole) (H_share_told : Has P w K mg base 6 "share_told" ["kinds"] F_share_told) : Has P w K mg base 8 "shares" ["kinds"] F_shares :=
  has_mk (k := 7) T.s_shares sc_shares fun ff cdv A outer s0 H E gd hr => by
    have hu := hr.units
    exact (dss_cons (ds_set (i := 1) sc_shares.nd rfl (.inl rfl) (de_has H_share_told gd (hr.mono (by decide)) (by rfl) (da_cons (de_var (pv 0)) da_nil))) (dss_cons (ds_if (dt_eq hu (de_ix (de_var (pv 1)) de_int (fun _ _ => rfl)) de_str) (dss_one (ds_ret de_non)) dss_nil) (dss_one (ds_ret (de_has H_by_whole gd (hr.mono (by decide)) (by rfl) (da_cons (de_lc (own := [("kind", 2), ("weight", 3)]) (T := (.many [2, 3])) rfl sc_shares.nd (di_enum (by rfl) T.n_enumerate (de_ix (de_var (pv 1)) de_int (fun _ _ => rfl))) (blkOk_by (own := [("kind", 2), ("weight", 3)]) (N := N_shares) (sc := defScope st_shares) (by decide +kernel)) (by decide) (fun _ _ _ _ _ => (dg_many rfl (dga_cons (pg_name (i := 2) sc_shares.nd rfl (.inl rfl)) (dga_cons (pg_name (i := 3) sc_shares.nd rfl (.inl rfl)) dga_nil)))) (fun _ _ _ _ _ => ts_nil) (fun _ _ _ _ _ => (de_has H_times gd (hr.mono (by decide)) (by rfl) (da_cons (de_var (pv 3)) (da_cons (de_has H_mean gd (hr.mono (by decide)) (by rfl) (da_cons (de_has H_kind_life gd (hr.mono (by decide)) (by rfl) (da_cons (de_var (pv 0)) (da_cons (de_var (pv 2)) da_nil))) da_nil)) da_nil))))) da_nil))))))
theorem h_ever_gain (T : Txt K mg) (H_times : Has P w K mg base 3 "times" ["one", "other"] F_times) (H_whole_of : Has P w K mg base 4 "whole_of" ["numbers"] F_whole_of) (H_shares : Has P w K mg base 8 "shares" ["kinds"] F_shares) : Has P w K mg base 9 "ever_gain" ["kinds", "prices"] F_ever_gain :=
  has_mk (k := 8) T.s_ever_gain sc_ever_gain fun ff cdv A outer s0 H E gd hr => by
    have hu := hr.units
    exact (dss_cons (ds_set (i := 2) sc_ever_gain.nd rfl (.inl rfl) (de_has H_shares gd (hr.mono (by decide)) (by rfl) (da_cons (de_var (pv 0)) da_nil))) (dss_cons (ds_if (dt_isN (de_var (pv 2))) (dss_one (ds_ret de_non)) dss_nil) (dss_one (ds_ret (de_has H_whole_of gd (hr.mono (by decide)) (by rfl) (da_cons (de_lc (own := [("price", 3), ("part", 4)]) (T := (.many [3, 4])) rfl sc_ever_gain.nd (di_zip (by rfl) T.n_zip (de_var (pv 1)) (de_var (pv 2))) (blkOk_by (own := [("price", 3), ("part", 4)]) (N := N_ever_gain) (sc := defScope st_ever_gain) (by decide +kernel)) (by decide) (fun _ _ _ _ _ => (dg_many rfl (dga_cons (pg_name (i := 3) sc_ever_gain.nd rfl (.inl rfl)) (dga_cons (pg_name (i := 4) sc_ever_gain.nd rfl (.inl rfl)) dga_nil)))) (fun _ _ _ _ _ => ts_nil) (fun _ _ _ _ _ => (de_has H_times gd (hr.mono (by decide)) (by rfl) (da_cons (de_var (pv 3)) (da_cons (de_var (pv 4)) da_nil))))) da_nil))))))
theorem h_q_draw (T : Txt K mg)  : Has P w K mg base 1 "_law_draw" ["_law_feed_here", "_law_size"] F_q_draw_v3 :=
  has_mk (k := 0) T.s_q_draw sc_q_draw fun ff cdv A outer s0 H E gd hr => by
    have hu := hr.units
    exact (dss_cons (ds_set (i := 2) sc_q_draw.nd rfl (.inl rfl) (de_add (de_feed (hu1 hu) (de_var (pv 0)) (fun _ _ => rfl)) de_int)) (dss_cons (ds_feed (hu1 hu) (de_var (pv 0)) (de_var (pv 2))) (dss_cons (ds_if (dt_gt (de_feed (hu1 hu) (de_var (pv 0)) (fun _ _ => rfl)) de_int) (dss_cons (ds_set (i := 3) sc_q_draw.nd rfl (.inl rfl) (de_mod (de_feed (hu1 hu) (de_var (pv 0)) (fun _ _ => rfl)) (de_var (pv 1)))) (dss_cons (ds_feed (hu1 hu) (de_var (pv 0)) (de_fdiv (de_feed (hu1 hu) (de_var (pv 0)) (fun _ _ => rfl)) (de_var (pv 1)))) (dss_one (ds_ret (de_var (pv 3)))))) dss_nil) (dss_cons (ds_set (i := 4) sc_q_draw.nd rfl (.inl rfl) (de_feed (hu1 hu) (de_var (pv 0)) (fun _ _ => rfl))) (dss_cons (ds_feed (hu1 hu) (de_var (pv 0)) (de_add (de_var (pv 4)) de_int)) (dss_cons (ds_set (i := 5) sc_q_draw.nd rfl (.inl rfl) (de_if (dt_ne hu (de_feed (hu1 hu) (de_var (pv 0)) (fun _ _ => rfl)) (de_lst da_nil)) (de_ix (de_feed (hu1 hu) (de_var (pv 0)) (fun _ _ => rfl)) (de_mod (de_var (pv 4)) (de_len (by rfl) T.n_len (de_feed (hu1 hu) (de_var (pv 0)) (fun _ _ => rfl)))) (fun _ _ => rfl)) de_int)) (dss_cons (ds_if (dt_w (dw_and (dt_ge (de_var (pv 5)) (de_pow de_int de_int)) (dw_and1 (dt_lt (de_var (pv 4)) (de_len (by rfl) T.n_len (de_feed (hu1 hu) (de_var (pv 0)) (fun _ _ => rfl))))))) (dss_cons (ds_feed (hu1 hu) (de_var (pv 0)) (de_fdiv (de_var (pv 5)) (de_var (pv 1)))) (dss_one (ds_ret (de_mod (de_var (pv 5)) (de_var (pv 1)))))) dss_nil) (dss_cons (ds_set (i := 6) sc_q_draw.nd rfl (.inl rfl) (de_mod (de_pow (de_add (de_add (de_mod (de_var (pv 5)) de_int) (de_mul de_int (de_var (pv 2)))) de_int) de_int) de_int)) (dss_cons (ds_set (i := 6) sc_q_draw.nd rfl (.inl rfl) (de_mod (de_pow (de_add (de_var (pv 6)) (de_mul de_int (de_var (pv 2)))) de_int) de_int)) (dss_one (ds_ret (de_mod (de_fdiv (de_var (pv 6)) de_int) (de_var (pv 1))))))))))))))
theorem h_q_lowest (T : Txt K mg)  : Has P w K mg base 1 "_law_lowest" ["_law_top", "_law_bottom"] F_q_lowest :=
  has_mk (k := 0) T.s_q_lowest sc_q_lowest fun ff cdv A outer s0 H E gd hr => by
    have hu := hr.units
    exact (dss_cons (ds_par (i := 2) (j := 3) rfl sc_q_lowest.nd rfl rfl (by decide) rfl rfl (da_cons (de_abs (by rfl) T.n_abs (de_var (pv 0))) (da_cons (de_var (pv 1)) da_nil)) (by rfl)) (dss_cons (ds_while PassesOwn.never (dt_gt (de_var (pv 3)) de_int) (dss_one (ds_par (i := 2) (j := 3) rfl sc_q_lowest.nd rfl rfl (by decide) rfl rfl (da_cons (de_var (pv 3)) (da_cons (de_mod (de_var (pv 2)) (de_var (pv 3))) da_nil)) (by rfl)))) (dss_one (ds_ret (de_tup (da_cons (de_fdiv (de_var (pv 0)) (de_var (pv 2))) (da_cons (de_fdiv (de_var (pv 1)) (de_var (pv 2))) da_nil)))))))
theorem h_q_by (T : Txt K mg) (H_q_lowest : Has P w K mg base 1 "_law_lowest" ["_law_top", "_law_bottom"] F_q_lowest) : Has P w K mg base 2 "_law_by" ["_law_one", "_law_other"] F_q_by :=
  has_mk (k := 1) T.s_q_by sc_q_by fun ff cdv A outer s0 H E gd hr => by
    have hu := hr.units
    exact (dss_one (ds_ret (de_has H_q_lowest gd (hr.mono (by decide)) (by rfl) (da_cons (de_mul (de_ix (de_var (pv 0)) de_int (fun _ _ => rfl)) (de_ix (de_var (pv 1)) de_int (fun _ _ => rfl))) (da_cons (de_mul (de_ix (de_var (pv 0)) de_int (fun _ _ => rfl)) (de_ix (de_var (pv 1)) de_int (fun _ _ => rfl))) da_nil)))))
theorem h_q_add (T : Txt K mg) (H_q_lowest : Has P w K mg base 1 "_law_lowest" ["_law_top", "_law_bottom"] F_q_lowest) : Has P w K mg base 2 "_law_add" ["_law_one", "_law_other"] F_q_add :=
  has_mk (k := 1) T.s_q_add sc_q_add fun ff cdv A outer s0 H E gd hr => by
    have hu := hr.units
    exact (dss_one (ds_ret (de_has H_q_lowest gd (hr.mono (by decide)) (by rfl) (da_cons (de_add (de_mul (de_ix (de_var (pv 0)) de_int (fun _ _ => rfl)) (de_ix (de_var (pv 1)) de_int (fun _ _ => rfl))) (de_mul (de_ix (de_var (pv 1)) de_int (fun _ _ => rfl)) (de_ix (de_var (pv 0)) de_int (fun _ _ => rfl)))) (da_cons (de_mul (de_ix (de_var (pv 0)) de_int (fun _ _ => rfl)) (de_ix (de_var (pv 1)) de_int (fun _ _ => rfl))) da_nil)))))
theorem h_q_all (T : Txt K mg) (H_q_add : Has P w K mg base 2 "_law_add" ["_law_one", "_law_other"] F_q_add) : Has P w K mg base 3 "_law_all" ["_law_numbers"] F_q_all :=
  has_mk (k := 2) T.s_q_all sc_q_all fun ff cdv A outer s0 H E gd hr => by
    have hu := hr.units
    exact (dss_cons (ds_set (i := 1) sc_q_all.nd rfl (.inl rfl) (de_tup (da_cons de_int (da_cons de_int da_nil)))) (dss_cons (ds_for (T := (.one 2)) PassesOwn.never rfl (di_seq (de_var (pv 0))) (dg_one sc_q_all.nd rfl (.inl rfl)) (dss_one (ds_set (i := 1) sc_q_all.nd rfl (.inl rfl) (de_has H_q_add gd (hr.mono (by decide)) (by rfl) (da_cons (de_var (pv 1)) (da_cons (de_var (pv 2)) da_nil)))))) (dss_one (ds_ret (de_var (pv 1))))))
theorem h_q_following (T : Txt K mg) (H_q_draw : Has P w K mg base 1 "_law_draw" ["_law_feed_here", "_law_size"] F_q_draw_v3) : Has P w K mg base 2 "_law_following" ["_law_feed_here", "_law_way", "_law_k", "_law_size"] F_q_following :=
  has_mk (k := 1) T.s_q_following sc_q_following fun ff cdv A outer s0 H E gd hr => by
    have hu := hr.units
    exact (dss_cons (ds_if (dt_eq hu (de_var (pv 1)) de_int) (dss_one (ds_ret (de_mod (de_add (de_var (pv 2)) de_int) (de_var (pv 3))))) dss_nil) (dss_cons (ds_if (dt_eq hu (de_var (pv 1)) de_int) (dss_one (ds_ret (de_var (pv 2)))) dss_nil) (dss_cons (ds_if (dt_eq hu (de_var (pv 1)) de_int) (dss_one (ds_ret (de_min2 rfl (by rfl) T.n_min (de_sub (de_var (pv 3)) de_int) (de_add (de_mul (de_fdiv (de_var (pv 2)) de_int) de_int) (de_has H_q_draw gd (hr.mono (by decide)) (by rfl) (da_cons (de_var (pv 0)) (da_cons de_int da_nil))))))) dss_nil) (dss_one (ds_ret (de_if (dt_eq hu (de_var (pv 1)) de_int) (de_has H_q_draw gd (hr.mono (by decide)) (by rfl) (da_cons (de_var (pv 0)) (da_cons (de_add (de_var (pv 2)) de_int) da_nil))) (de_has H_q_draw gd (hr.mono (by decide)) (by rfl) (da_cons (de_var (pv 0)) (da_cons (de_var (pv 3)) da_nil)))))))))
theorem h_q_kinds (T : Txt K mg) (H_q_draw : Has P w K mg base 1 "_law_draw" ["_law_feed_here", "_law_size"] F_q_draw_v3) (H_q_lowest : Has P w K mg base 1 "_law_lowest" ["_law_top", "_law_bottom"] F_q_lowest) (H_q_following : Has P w K mg base 2 "_law_following" ["_law_feed_here", "_law_way", "_law_k", "_law_size"] F_q_following) : Has P w K mg base 3 "_law_kinds" ["_law_feed_here", "_law_size", "_law_is_full"] F_q_kinds :=
  has_mk (k := 2) T.s_q_kinds sc_q_kinds fun ff cdv A outer s0 H E gd hr => by
    have hu := hr.units
    exact (dss_cons (ds_set (i := 3) sc_q_kinds.nd rfl (.inl rfl) (de_has H_q_draw gd (hr.mono (by decide)) (by rfl) (da_cons (de_var (pv 0)) (da_cons de_int da_nil)))) (dss_cons (ds_set (i := 4) sc_q_kinds.nd rfl (.inl rfl) (de_lst da_nil)) (dss_cons (ds_for (T := (.one 5)) PassesOwn.never rfl (di_range1 (by rfl) T.n_range (de_var (pv 1))) (dg_one sc_q_kinds.nd rfl (.inl rfl)) (dss_cons (ds_dctT (i := 6) sc_q_kinds.nd rfl (.inr rfl)) (dss_cons (ds_set (i := 7) sc_q_kinds.nd rfl (.inl rfl) (de_mul (de_ix (de_lst (da_cons de_int (da_cons de_int (da_cons de_int (da_cons de_int (da_cons de_int da_nil)))))) (de_has H_q_draw gd (hr.mono (by decide)) (by rfl) (da_cons (de_var (pv 0)) (da_cons de_int da_nil))) (fun _ _ => rfl)) (de_int1 (by rfl) T.n_int (de_not (de_var (pv 2)))))) (dss_cons (ds_for (T := (.one 8)) PassesOwn.never rfl (di_range1 (by rfl) T.n_range (de_add de_int (de_has H_q_draw gd (hr.mono (by decide)) (by rfl) (da_cons (de_var (pv 0)) (da_cons de_int da_nil))))) (dg_one sc_q_kinds.nd rfl (.inl rfl)) (dss_cons (ds_key (i := 9) sc_q_kinds.nd rfl (.inl rfl) (dk_tup (da_cons (de_add de_int (de_has H_q_draw gd (hr.mono (by decide)) (by rfl) (da_cons (de_var (pv 0)) (da_cons de_int da_nil)))) (da_cons (de_has H_q_following gd (hr.mono (by decide)) (by rfl) (da_cons (de_var (pv 0)) (da_cons (de_var (pv 3)) (da_cons (de_var (pv 5)) (da_cons (de_var (pv 1)) da_nil))))) da_nil)))) (dss_one (ds_dputT hu (pv 6) (dk_var (pv 9)) (de_add de_int (de_has H_q_draw gd (hr.mono (by decide)) (by rfl) (da_cons (de_var (pv 0)) (da_cons de_int da_nil)))))))) (dss_cons (ds_if (dt_w (dw_and (dt_eq hu (de_var (pv 7)) de_int) (dw_and1 (dt_eq hu (de_has H_q_draw gd (hr.mono (by decide)) (by rfl) (da_cons (de_var (pv 0)) (da_cons de_int da_nil))) de_int)))) (dss_one (ds_dctT (i := 6) sc_q_kinds.nd rfl (.inr rfl))) dss_nil) (dss_cons (ds_set (i := 10) sc_q_kinds.nd rfl (.inr rfl) (de_add (de_sum rfl (by rfl) T.n_sum (de_dvals rfl (by rfl) T.n_list (pv 6))) (de_var (pv 7)))) (dss_one (ds_app (pv 4) (de_tuple (by rfl) T.n_tuple (de_lc (own := [("_law_pair", 9)]) (T := (.one 9)) rfl sc_q_kinds.nd (di_seq (de_dsort rfl hu (by rfl) T.n_sorted (pv 6))) (blkOk_by (own := [("_law_pair", 9)]) (N := N_q_kinds) (sc := defScope st_q_kinds) (by decide +kernel)) (by decide) (fun _ _ _ _ _ => (dg_one sc_q_kinds.nd rfl (.inl rfl))) (fun _ _ _ _ _ => ts_nil) (fun _ _ _ _ _ => (de_tup (da_cons (de_ix (de_var (pv 9)) de_int (fun _ _ => rfl)) (da_cons (de_ix (de_var (pv 9)) de_int (fun _ _ => rfl)) (da_cons (de_has H_q_lowest gd (hr.mono (by decide)) (by rfl) (da_cons (de_dget hu (pv 6) (de_var (pv 9)) (fun _ _ => rfl)) (da_cons (de_var (pv 10)) da_nil))) da_nil))))))))))))))) (dss_frz 4 (dss_one (ds_ret (de_tuple (by rfl) T.n_tuple (de_var (pv 4)))))))))
theorem h_q_rows (T : Txt K mg) (H_q_all : Has P w K mg base 3 "_law_all" ["_law_numbers"] F_q_all) : Has P w K mg base 4 "_law_rows" ["_law_kinds_here"] F_q_rows_v2 :=
  has_mk (k := 3) T.s_q_rows sc_q_rows fun ff cdv A outer s0 H E gd hr => by
    have hu := hr.units
    exact (dss_cons (ds_set (i := 1) sc_q_rows.nd rfl (.inl rfl) (de_lst da_nil)) (dss_cons (ds_for (T := (.one 2)) PassesOwn.never rfl (di_seq (de_var (pv 0))) (dg_one sc_q_rows.nd rfl (.inr rfl)) (dss_one (ds_app (pv 1) (de_tuple (by rfl) T.n_tuple (de_lc (own := [("_law_k", 3)]) (T := (.one 3)) rfl sc_q_rows.nd (di_range1 (by rfl) T.n_range (de_len (by rfl) T.n_len (de_var (pv 0)))) (blkOk_by (own := [("_law_k", 3)]) (N := N_q_rows) (sc := defScope st_q_rows) (by decide +kernel)) (by decide) (fun _ _ _ _ _ => (dg_one sc_q_rows.nd rfl (.inr rfl))) (fun _ _ _ _ _ => ts_nil) (fun _ _ _ _ _ => (de_has H_q_all gd (hr.mono (by decide)) (by rfl) (da_cons (de_lc (own := [("_law_one", 4)]) (T := (.one 4)) rfl sc_q_rows.nd (di_seq (de_var (pv 2))) (blkOk_by (own := [("_law_one", 4)]) (by rfl)) (by decide) (fun _ _ _ _ _ => (dg_one sc_q_rows.nd rfl (.inl rfl))) (fun _ _ _ _ _ => (ts_one (dt_eq hu (de_ix (de_var (pv 4)) de_int (fun _ _ => rfl)) (de_var (pv 3))))) (fun _ _ _ _ _ => (de_ix (de_var (pv 4)) de_int (fun _ _ => rfl)))) da_nil)))))))) (dss_frz 1 (dss_one (ds_ret (de_tuple (by rfl) T.n_tuple (de_var (pv 1))))))))
theorem h_q_trees (T : Txt K mg) (H_q_add : Has P w K mg base 2 "_law_add" ["_law_one", "_law_other"] F_q_add) (H_q_by : Has P w K mg base 2 "_law_by" ["_law_one", "_law_other"] F_q_by) : Has P w K mg base 3 "_law_trees" ["_law_rows_here", "_law_home"] F_q_trees :=
  has_mk (k := 2) T.s_q_trees sc_q_trees fun ff cdv A outer s0 H E gd hr => by
    have hu := hr.units
    exact (dss_cons (ds_set (i := 2) sc_q_trees.nd rfl (.inl rfl) (de_len (by rfl) T.n_len (de_var (pv 0)))) (dss_cons (ds_setLc (i := 3) (own := [("_law_kind", 9)]) (T := (.one 9)) rfl sc_q_trees.nd rfl rfl (sw_true rfl rfl rfl (by decide +kernel)) (di_range1 (by rfl) T.n_range (de_var (pv 2))) (blkOk_by (own := [("_law_kind", 9)]) (N := N_q_trees) (sc := defScope st_q_trees) (by decide +kernel)) (by decide) (fun _ _ _ _ _ => (dg_one sc_q_trees.nd rfl (.inl rfl))) (fun _ _ _ _ _ => (ts_one (dt_ne hu (de_var (pv 9)) (de_var (pv 1))))) (fun _ _ _ _ _ => (de_var (pv 9)))) (dss_frz 3 (dss_cons (ds_set (i := 4) sc_q_trees.nd rfl (.inl rfl) (de_tup (da_cons de_int (da_cons de_int da_nil)))) (dss_cons (ds_for (T := (.one 5)) PassesOwn.never rfl (di_range1 (by rfl) T.n_range (de_ix (de_lst (da_cons de_int (da_cons de_int (da_cons de_int (da_cons de_int (da_cons de_int da_nil)))))) (de_var (pv 2)) (fun _ _ => rfl))) (dg_one sc_q_trees.nd rfl (.inl rfl)) (dss_cons (ds_dctI (i := 6) sc_q_trees.nd rfl (.inl rfl)) (dss_cons (ds_set (i := 7) sc_q_trees.nd rfl (.inl rfl) (de_var (pv 5))) (dss_cons (ds_set (i := 8) sc_q_trees.nd rfl (.inl rfl) (de_tup (da_cons de_int (da_cons de_int da_nil)))) (dss_cons (ds_for (T := (.one 9)) PassesOwn.never rfl (di_seq (de_var (pv 3))) (dg_one sc_q_trees.nd rfl (.inl rfl)) (dss_cons (ds_dputI hu (pv 6) (de_var (pv 9)) (de_mod (de_var (pv 7)) (de_var (pv 2)))) (dss_cons (ds_set (i := 7) sc_q_trees.nd rfl (.inl rfl) (de_fdiv (de_var (pv 7)) (de_var (pv 2)))) (dss_one (ds_set (i := 8) sc_q_trees.nd rfl (.inl rfl) (de_has H_q_by gd (hr.mono (by decide)) (by rfl) (da_cons (de_var (pv 8)) (da_cons (de_ix (de_ix (de_var (pv 0)) (de_var (pv 9)) (fun _ _ => rfl)) (de_dget hu (pv 6) (de_var (pv 9)) (fun _ _ => rfl)) (fun _ _ => rfl)) da_nil)))))))) (dss_cons (ds_for (T := (.one 9)) PassesOwn.never rfl (di_seq (de_mul (de_var (pv 3)) (de_int1 (by rfl) T.n_int (de_gt (de_ix (de_var (pv 8)) de_int (fun _ _ => rfl)) de_int)))) (dg_one sc_q_trees.nd rfl (.inl rfl)) (dss_cons (ds_set (i := 10) sc_q_trees.nd rfl (.inl rfl) (de_var (pv 9))) (dss_cons (ds_for (T := (.one 11)) PassesOwn.never rfl (di_range1 (by rfl) T.n_range (de_var (pv 2))) (dg_one sc_q_trees.nd rfl (.inl rfl)) (dss_one (ds_set (i := 10) sc_q_trees.nd rfl (.inl rfl) (de_dget2 hu (pv 6) (de_var (pv 10)) (de_var (pv 1)))))) (dss_one (ds_if (dt_ne hu (de_var (pv 10)) (de_var (pv 1))) (dss_one (ds_set (i := 8) sc_q_trees.nd rfl (.inl rfl) (de_tup (da_cons de_int (da_cons de_int da_nil))))) dss_nil))))) (dss_one (ds_set (i := 4) sc_q_trees.nd rfl (.inl rfl) (de_has H_q_add gd (hr.mono (by decide)) (by rfl) (da_cons (de_var (pv 4)) (da_cons (de_var (pv 8)) da_nil))))))))))) (dss_one (ds_ret (de_var (pv 4)))))))))
theorem h_q_weights (T : Txt K mg) (H_q_lowest : Has P w K mg base 1 "_law_lowest" ["_law_top", "_law_bottom"] F_q_lowest) (H_q_all : Has P w K mg base 3 "_law_all" ["_law_numbers"] F_q_all) (H_q_trees : Has P w K mg base 3 "_law_trees" ["_law_rows_here", "_law_home"] F_q_trees) : Has P w K mg base 4 "_law_weights" ["_law_rows_here"] F_q_weights_v2 :=
  has_mk (k := 3) T.s_q_weights sc_q_weights fun ff cdv A outer s0 H E gd hr => by
    have hu := hr.units
    exact (dss_cons (ds_setLc (i := 1) (own := [("_law_kind", 4)]) (T := (.one 4)) rfl sc_q_weights.nd rfl rfl (sw_true rfl rfl rfl (by decide +kernel)) (di_range1 (by rfl) T.n_range (de_len (by rfl) T.n_len (de_var (pv 0)))) (blkOk_by (own := [("_law_kind", 4)]) (N := N_q_weights) (sc := defScope st_q_weights) (by decide +kernel)) (by decide) (fun _ _ _ _ _ => (dg_one sc_q_weights.nd rfl (.inl rfl))) (fun _ _ _ _ _ => ts_nil) (fun _ _ _ _ _ => (de_has H_q_trees gd (hr.mono (by decide)) (by rfl) (da_cons (de_var (pv 0)) (da_cons (de_var (pv 4)) da_nil))))) (dss_frz 1 (dss_cons (ds_asg (T := (.many [2, 3])) (de_has H_q_all gd (hr.mono (by decide)) (by rfl) (da_cons (de_var (pv 1)) da_nil)) (dg_many rfl (dga_cons (pg_name (i := 2) sc_q_weights.nd rfl (.inr rfl)) (dga_cons (pg_name (i := 3) sc_q_weights.nd rfl (.inr rfl)) dga_nil)))) (dss_cons (ds_if (dt_eq hu (de_var (pv 2)) de_int) (dss_one (ds_ret de_non)) dss_nil) (dss_one (ds_ret (de_tuple (by rfl) T.n_tuple (de_lc (own := [("_law_one", 5)]) (T := (.one 5)) rfl sc_q_weights.nd (di_seq (de_var (pv 1))) (blkOk_by (own := [("_law_one", 5)]) (N := N_q_weights) (sc := defScope st_q_weights) (by decide +kernel)) (by decide) (fun _ _ _ _ _ => (dg_one sc_q_weights.nd rfl (.inl rfl))) (fun _ _ _ _ _ => ts_nil) (fun _ _ _ _ _ => (de_has H_q_lowest gd (hr.mono (by decide)) (by rfl) (da_cons (de_mul (de_ix (de_var (pv 5)) de_int (fun _ _ => rfl)) (de_var (pv 3))) (da_cons (de_mul (de_ix (de_var (pv 5)) de_int (fun _ _ => rfl)) (de_var (pv 2))) da_nil))))))))))))
theorem h_q_group_kinds (T : Txt K mg) (H_q_draw : Has P w K mg base 1 "_law_draw" ["_law_feed_here", "_law_size"] F_q_draw_v3) (H_q_lowest : Has P w K mg base 1 "_law_lowest" ["_law_top", "_law_bottom"] F_q_lowest) : Has P w K mg base 2 "_law_group_kinds" ["_law_feed_here"] F_q_group_kinds :=
  has_mk (k := 1) T.s_q_group_kinds sc_q_group_kinds fun ff cdv A outer s0 H E gd hr => by
    have hu := hr.units
    exact (dss_cons (ds_set (i := 1) sc_q_group_kinds.nd rfl (.inl rfl) (de_add de_int (de_has H_q_draw gd (hr.mono (by decide)) (by rfl) (da_cons (de_var (pv 0)) (da_cons de_int da_nil))))) (dss_cons (ds_set (i := 2) sc_q_group_kinds.nd rfl (.inl rfl) (de_add de_int (de_has H_q_draw gd (hr.mono (by decide)) (by rfl) (da_cons (de_var (pv 0)) (da_cons (de_sub (de_var (pv 1)) de_int) da_nil))))) (dss_cons (ds_set (i := 3) sc_q_group_kinds.nd rfl (.inl rfl) (de_min2 rfl (by rfl) T.n_min (de_var (pv 1)) (de_add (de_add (de_var (pv 2)) de_int) (de_has H_q_draw gd (hr.mono (by decide)) (by rfl) (da_cons (de_var (pv 0)) (da_cons de_int da_nil)))))) (dss_cons (ds_set (i := 4) sc_q_group_kinds.nd rfl (.inl rfl) (de_lst da_nil)) (dss_cons (ds_for (T := (.one 5)) PassesOwn.never rfl (di_range1 (by rfl) T.n_range (de_var (pv 1))) (dg_one sc_q_group_kinds.nd rfl (.inl rfl)) (dss_cons (ds_asg (T := (.many [6, 7])) (de_if (dt_lt (de_var (pv 5)) (de_var (pv 2))) (de_tup (da_cons de_int (da_cons (de_var (pv 2)) da_nil))) (de_tup (da_cons (de_var (pv 2)) (da_cons (de_var (pv 3)) da_nil)))) (dg_many rfl (dga_cons (pg_name (i := 6) sc_q_group_kinds.nd rfl (.inl rfl)) (dga_cons (pg_name (i := 7) sc_q_group_kinds.nd rfl (.inl rfl)) dga_nil)))) (dss_cons (ds_if (dt_ge (de_var (pv 5)) (de_var (pv 3))) (dss_one (ds_par (i := 6) (j := 7) rfl sc_q_group_kinds.nd rfl rfl (by decide) rfl rfl (da_cons de_int (da_cons (de_var (pv 1)) da_nil)) (by rfl))) dss_nil) (dss_cons (ds_dctT (i := 8) sc_q_group_kinds.nd rfl (.inr rfl)) (dss_cons (ds_for (T := (.one 9)) PassesOwn.never rfl (di_range1 (by rfl) T.n_range (de_add de_int (de_has H_q_draw gd (hr.mono (by decide)) (by rfl) (da_cons (de_var (pv 0)) (da_cons de_int da_nil))))) (dg_one sc_q_group_kinds.nd rfl (.inl rfl)) (dss_one (ds_dputT hu (pv 8) (dk_tup (da_cons (de_add de_int (de_has H_q_draw gd (hr.mono (by decide)) (by rfl) (da_cons (de_var (pv 0)) (da_cons de_int da_nil)))) (da_cons (de_add (de_var (pv 6)) (de_has H_q_draw gd (hr.mono (by decide)) (by rfl) (da_cons (de_var (pv 0)) (da_cons (de_sub (de_var (pv 7)) (de_var (pv 6))) da_nil)))) da_nil))) (de_add de_int (de_has H_q_draw gd (hr.mono (by decide)) (by rfl) (da_cons (de_var (pv 0)) (da_cons de_int da_nil))))))) (dss_cons (ds_set (i := 10) sc_q_group_kinds.nd rfl (.inr rfl) (de_sum rfl (by rfl) T.n_sum (de_dvals rfl (by rfl) T.n_list (pv 8)))) (dss_one (ds_app (pv 4) (de_tuple (by rfl) T.n_tuple (de_lc (own := [("_law_pair", 11)]) (T := (.one 11)) rfl sc_q_group_kinds.nd (di_seq (de_dsort rfl hu (by rfl) T.n_sorted (pv 8))) (blkOk_by (own := [("_law_pair", 11)]) (N := N_q_group_kinds) (sc := defScope st_q_group_kinds) (by decide +kernel)) (by decide) (fun _ _ _ _ _ => (dg_one sc_q_group_kinds.nd rfl (.inl rfl))) (fun _ _ _ _ _ => ts_nil) (fun _ _ _ _ _ => (de_tup (da_cons (de_ix (de_var (pv 11)) de_int (fun _ _ => rfl)) (da_cons (de_ix (de_var (pv 11)) de_int (fun _ _ => rfl)) (da_cons (de_has H_q_lowest gd (hr.mono (by decide)) (by rfl) (da_cons (de_dget hu (pv 8) (de_var (pv 11)) (fun _ _ => rfl)) (da_cons (de_var (pv 10)) da_nil))) da_nil))))))))))))))) (dss_frz 4 (dss_one (ds_ret (de_tuple (by rfl) T.n_tuple (de_var (pv 4)))))))))))
theorem h_q_mean (T : Txt K mg) (H_q_by : Has P w K mg base 2 "_law_by" ["_law_one", "_law_other"] F_q_by) (H_q_all : Has P w K mg base 3 "_law_all" ["_law_numbers"] F_q_all) : Has P w K mg base 4 "_law_mean" ["_law_triples"] F_q_mean :=
  has_mk (k := 3) T.s_q_mean sc_q_mean fun ff cdv A outer s0 H E gd hr => by
    have hu := hr.units
    exact (dss_one (ds_ret (de_has H_q_all gd (hr.mono (by decide)) (by rfl) (da_cons (de_lc (own := [("_law_stretch", 1), ("_law_following_here", 2), ("_law_own", 3)]) (T := (.many [1, 2, 3])) rfl sc_q_mean.nd (di_seq (de_var (pv 0))) (blkOk_by (own := [("_law_stretch", 1), ("_law_following_here", 2), ("_law_own", 3)]) (N := N_q_mean) (sc := defScope st_q_mean) (by decide +kernel)) (by decide) (fun _ _ _ _ _ => (dg_many rfl (dga_cons (pg_name (i := 1) sc_q_mean.nd rfl (.inl rfl)) (dga_cons (pg_name (i := 2) sc_q_mean.nd rfl (.inl rfl)) (dga_cons (pg_name (i := 3) sc_q_mean.nd rfl (.inl rfl)) dga_nil))))) (fun _ _ _ _ _ => ts_nil) (fun _ _ _ _ _ => (de_has H_q_by gd (hr.mono (by decide)) (by rfl) (da_cons (de_tup (da_cons (de_var (pv 1)) (da_cons de_int da_nil))) (da_cons (de_var (pv 3)) da_nil))))) da_nil))))
theorem feed_ok {f : Addr} {fd : FuncData} (F : Fun K "_law_feed" "_law_feed" st_q_feed f fd) (ml : mg "list" = none) : FnG P w K mg base CX0 1 f fd ["_law_script"] (spFeed K) :=
  fnG_ok F sc_q_feed (fun vs H Q E h => by obtain ⟨a, ns, rfl, _⟩ := h; rfl) fun cdv A outer s0 H vs Q E gd hr h =>
    ⟨_, pss_one (ps_ret (pe_disp (pps_cons pe_str (pe_callTy call_list_of (by rfl) ml (by decide +kernel) (pa_cons (pe_slice sl_list (pv 0) po_none (po_some pe_int)) pa_nil)) (pps_cons pe_str pe_int (pps_cons pe_str pe_int (pps_cons pe_str pe_int pps_nil)))) rfl rfl (by decide) (by decide))), feed_made h⟩
theorem ok_law (T : Txt K mg) (H_shares : Has P w K mg base 8 "shares" ["kinds"] F_shares) (H_ever_gain : Has P w K mg base 9 "ever_gain" ["kinds", "prices"] F_ever_gain) (H_q_draw : Has P w K mg base 1 "_law_draw" ["_law_feed_here", "_law_size"] F_q_draw_v3) (H_q_lowest : Has P w K mg base 1 "_law_lowest" ["_law_top", "_law_bottom"] F_q_lowest) (H_q_by : Has P w K mg base 2 "_law_by" ["_law_one", "_law_other"] F_q_by) (H_q_all : Has P w K mg base 3 "_law_all" ["_law_numbers"] F_q_all) (H_q_kinds : Has P w K mg base 3 "_law_kinds" ["_law_feed_here", "_law_size", "_law_is_full"] F_q_kinds) (H_q_rows : Has P w K mg base 4 "_law_rows" ["_law_kinds_here"] F_q_rows_v2) (H_q_weights : Has P w K mg base 4 "_law_weights" ["_law_rows_here"] F_q_weights_v2) (H_q_group_kinds : Has P w K mg base 2 "_law_group_kinds" ["_law_feed_here"] F_q_group_kinds) (H_q_mean : Has P w K mg base 4 "_law_mean" ["_law_triples"] F_q_mean) {f : Addr} {fd : FuncData} (F : Fun K "law" "law" st_law f fd) (fin : ∀ ns : List Int, ns.length ≤ 63 → ∃ f, S_law (.emp :: .feed :: List.replicate 15 .emp) (feed0 ns) = .ok (.rt (.dat (.bool true))) f) : FnG P w K mg base CX0 10 f fd ["_law_script"] (spLaw K) := by
  refine fnG_ok F sc_law (fun vs H Q E h => by obtain ⟨a, ns, rfl, _⟩ := h; rfl) fun cdv A outer s0 H vs Q E gd hr h => ?_
  obtain ⟨a, ns, rfl, hS, hl, qq⟩ := h
  obtain ⟨fF, fdF, mF, FF, bF⟩ := T.s_q_feed.src
  have GF : FnG P w K mg base CX0 1 fF fdF ["_law_script"] (spFeed K) := feed_ok FF T.n_list
  have hu := hr.units
  have rest : DSs (cxOf CX0 P w K mg base N_law "law" (defScope st_law) f cdv A outer s0 H E).nox (fun _ _ _ => False) (defBody st_law).tail S_law := (dss_cons (ds_for (T := (.one 2)) PassesOwn.never rfl (di_range1 (by rfl) T.n_range de_int) (dg_one sc_law.nd rfl (.inl rfl)) (dss_cons (ds_if (dt_eq hu (de_has H_q_draw gd (hr.mono (by decide)) (by rfl) (da_cons (de_var (pv 1)) (da_cons de_int da_nil))) de_int) (dss_one (ds_set (i := 3) sc_law.nd rfl (.inl rfl) (de_has H_q_group_kinds gd (hr.mono (by decide)) (by rfl) (da_cons (de_var (pv 1)) da_nil)))) (dss_one (ds_set (i := 3) sc_law.nd rfl (.inl rfl) (de_has H_q_kinds gd (hr.mono (by decide)) (by rfl) (da_cons (de_var (pv 1)) (da_cons (de_add de_int (de_has H_q_draw gd (hr.mono (by decide)) (by rfl) (da_cons (de_var (pv 1)) (da_cons de_int da_nil)))) (da_cons de_bl da_nil))))))) (dss_cons (ds_set (i := 4) sc_law.nd rfl (.inl rfl) (de_lst da_nil)) (dss_cons (ds_for (T := (.one 5)) PassesOwn.never rfl (di_seq (de_var (pv 3))) (dg_one sc_law.nd rfl (.inl rfl)) (dss_one (ds_app (pv 4) (de_has H_q_lowest gd (hr.mono (by decide)) (by rfl) (da_cons (de_sub (de_has H_q_draw gd (hr.mono (by decide)) (by rfl) (da_cons (de_var (pv 1)) (da_cons de_int da_nil))) de_int) (da_cons (de_ix (de_lst (da_cons de_int (da_cons de_int (da_cons de_int (da_cons de_int da_nil))))) (de_has H_q_draw gd (hr.mono (by decide)) (by rfl) (da_cons (de_var (pv 1)) (da_cons de_int da_nil))) (fun _ _ => rfl)) da_nil)))))) (dss_frz 4 (dss_cons (ds_set (i := 6) sc_law.nd rfl (.inl rfl) (de_has H_q_weights gd (hr.mono (by decide)) (by rfl) (da_cons (de_has H_q_rows gd (hr.mono (by decide)) (by rfl) (da_cons (de_var (pv 3)) da_nil)) da_nil))) (dss_cons (ds_set (i := 7) sc_law.nd rfl (.inl rfl) de_non) (dss_cons (ds_set (i := 8) sc_law.nd rfl (.inl rfl) de_non) (dss_cons (ds_if (dt_notN (de_var (pv 6))) (dss_cons (ds_setLc (i := 9) (own := [("_law_weight", 13), ("_law_triples", 14)]) (T := (.many [13, 14])) rfl sc_law.nd rfl rfl (sw_true rfl rfl rfl (by decide +kernel)) (di_zip (by rfl) T.n_zip (de_var (pv 6)) (de_var (pv 3))) (blkOk_by (own := [("_law_weight", 13), ("_law_triples", 14)]) (N := N_law) (sc := defScope st_law) (by decide +kernel)) (by decide) (fun _ _ _ _ _ => (dg_many rfl (dga_cons (pg_name (i := 13) sc_law.nd rfl (.inl rfl)) (dga_cons (pg_name (i := 14) sc_law.nd rfl (.inl rfl)) dga_nil)))) (fun _ _ _ _ _ => ts_nil) (fun _ _ _ _ _ => (de_has H_q_by gd (hr.mono (by decide)) (by rfl) (da_cons (de_var (pv 13)) (da_cons (de_has H_q_mean gd (hr.mono (by decide)) (by rfl) (da_cons (de_var (pv 14)) da_nil)) da_nil))))) (dss_frz 9 (dss_cons (ds_asg (T := (.many [10, 11])) (de_has H_q_all gd (hr.mono (by decide)) (by rfl) (da_cons (de_var (pv 9)) da_nil)) (dg_many rfl (dga_cons (pg_name (i := 10) sc_law.nd rfl (.inr rfl)) (dga_cons (pg_name (i := 11) sc_law.nd rfl (.inr rfl)) dga_nil)))) (dss_cons (ds_set (i := 7) sc_law.nd rfl (.inl rfl) (de_tuple (by rfl) T.n_tuple (de_lc (own := [("_law_one", 15)]) (T := (.one 15)) rfl sc_law.nd (di_seq (de_var (pv 9))) (blkOk_by (own := [("_law_one", 15)]) (N := N_law) (sc := defScope st_law) (by decide +kernel)) (by decide) (fun _ _ _ _ _ => (dg_one sc_law.nd rfl (.inl rfl))) (fun _ _ _ _ _ => ts_nil) (fun _ _ _ _ _ => (de_has H_q_by gd (hr.mono (by decide)) (by rfl) (da_cons (de_var (pv 15)) (da_cons (de_tup (da_cons (de_var (pv 11)) (da_cons (de_var (pv 10)) da_nil))) da_nil))))))) (dss_one (ds_set (i := 8) sc_law.nd rfl (.inl rfl) (de_has H_q_all gd (hr.mono (by decide)) (by rfl) (da_cons (de_lc (own := [("_law_price", 16), ("_law_one", 15)]) (T := (.many [16, 15])) rfl sc_law.nd (di_zip (by rfl) T.n_zip (de_var (pv 4)) (de_var (pv 7))) (blkOk_by (own := [("_law_price", 16), ("_law_one", 15)]) (N := N_law) (sc := defScope st_law) (by decide +kernel)) (by decide) (fun _ _ _ _ _ => (dg_many rfl (dga_cons (pg_name (i := 16) sc_law.nd rfl (.inl rfl)) (dga_cons (pg_name (i := 15) sc_law.nd rfl (.inl rfl)) dga_nil)))) (fun _ _ _ _ _ => ts_nil) (fun _ _ _ _ _ => (de_has H_q_by gd (hr.mono (by decide)) (by rfl) (da_cons (de_var (pv 16)) (da_cons (de_var (pv 15)) da_nil))))) da_nil)))))))) dss_nil) (dss_frz 9 (dss_one (ds_for (T := (.one 12)) PassesOwn.never rfl (di_range1 (by rfl) T.n_range de_int) (dg_one sc_law.nd rfl (.inl rfl)) (dss_one (ds_if (dt_ne hu (de_repr gd hu (by rfl) T.n_repr (de_lst (da_cons (de_has H_shares gd (hr.mono (by decide)) (by rfl) (da_cons (de_var (pv 3)) da_nil)) (da_cons (de_has H_ever_gain gd (hr.mono (by decide)) (by rfl) (da_cons (de_var (pv 3)) (da_cons (de_tuple (by rfl) T.n_tuple (de_var (pv 4))) da_nil))) da_nil)))) (de_repr gd hu (by rfl) T.n_repr (de_lst (da_cons (de_var (pv 7)) (da_cons (de_var (pv 8)) da_nil))))) (dss_one (ds_ret de_bl)) dss_nil)))))))))))))) (dss_one (ds_ret de_bl)))
  exact ⟨_, pss_cons (ps_set (i := 1) sc_law.nd rfl (.inl rfl) (callG GF gd (hr.mono (by decide)) (by rfl) mF FF.kp bF pass0 (pa_cons (pv 0) pa_nil))) rest, .ref a, rfl, a, ns, rfl, hS, hl, fun fa ca G hle hne e1 e2 => law_rest N_law rfl hne e1 e2 (fin ns hl) qq⟩
theorem all_ok (T : Txt K mg) {f : Addr} {fd : FuncData} (F : Fun K "law" "law" st_law f fd) (fn : ∀ ns : List Int, ns.length ≤ 63 → ∃ f, S_law (.emp :: .feed :: List.replicate 15 .emp) (feed0 ns) = .ok (.rt (.dat (.bool true))) f) : FnG P w K mg base CX0 10 f fd ["_law_script"] (spLaw K) := by
  have H_common := h_common (P := P) (w := w) (base := base) T
  have H_ratio := h_ratio (P := P) (w := w) (base := base) T H_common
  have H_times := h_times (P := P) (w := w) (base := base) T H_ratio
  have H_plus := h_plus (P := P) (w := w) (base := base) T H_ratio
  have H_short := h_short (P := P) (w := w) (base := base) T H_times
  have H_kind_life := h_kind_life (P := P) (w := w) (base := base) T H_plus H_short
  have H_summed := h_summed (P := P) (w := w) (base := base) T H_plus
  have H_minus := h_minus (P := P) (w := w) (base := base) T H_ratio
  have H_over := h_over (P := P) (w := w) (base := base) T H_ratio
  have H_chances_added := h_chances_added (P := P) (w := w) (base := base) T H_plus H_minus H_times H_over H_summed
  have H_miss := h_miss (P := P) (w := w) (base := base) T H_minus H_chances_added
  have H_behind_row := h_behind_row (P := P) (w := w) (base := base) T H_plus H_minus H_times H_over
  have H_mean := h_mean (P := P) (w := w) (base := base) T H_plus H_times H_summed H_miss H_behind_row
  have H_whole_of := h_whole_of (P := P) (w := w) (base := base) T H_plus
  have H_by_whole := h_by_whole (P := P) (w := w) (base := base) T H_over H_whole_of
  have H_chain := h_chain (P := P) (w := w) (base := base) T H_plus
  have H_reached := h_reached (P := P) (w := w) (base := base) T
  have H_weights_of := h_weights_of (P := P) (w := w) (base := base) T H_plus H_times H_over H_whole_of
  have H_ways_home := h_ways_home (P := P) (w := w) (base := base) T
  have H_share_told := h_share_told (P := P) (w := w) (base := base) T H_chain H_reached H_by_whole H_weights_of H_ways_home
  have H_shares := h_shares (P := P) (w := w) (base := base) T H_times H_kind_life H_mean H_by_whole H_share_told
  have H_ever_gain := h_ever_gain (P := P) (w := w) (base := base) T H_times H_whole_of H_shares
  have H_q_draw := h_q_draw (P := P) (w := w) (base := base) T
  have H_q_lowest := h_q_lowest (P := P) (w := w) (base := base) T
  have H_q_by := h_q_by (P := P) (w := w) (base := base) T H_q_lowest
  have H_q_add := h_q_add (P := P) (w := w) (base := base) T H_q_lowest
  have H_q_all := h_q_all (P := P) (w := w) (base := base) T H_q_add
  have H_q_following := h_q_following (P := P) (w := w) (base := base) T H_q_draw
  have H_q_kinds := h_q_kinds (P := P) (w := w) (base := base) T H_q_draw H_q_lowest H_q_following
  have H_q_rows := h_q_rows (P := P) (w := w) (base := base) T H_q_all
  have H_q_trees := h_q_trees (P := P) (w := w) (base := base) T H_q_add H_q_by
  have H_q_weights := h_q_weights (P := P) (w := w) (base := base) T H_q_lowest H_q_all H_q_trees
  have H_q_group_kinds := h_q_group_kinds (P := P) (w := w) (base := base) T H_q_draw H_q_lowest
  have H_q_mean := h_q_mean (P := P) (w := w) (base := base) T H_q_by H_q_all
  exact ok_law T H_shares H_ever_gain H_q_draw H_q_lowest H_q_by H_q_all H_q_kinds H_q_rows H_q_weights H_q_group_kinds H_q_mean F fn
theorem all_mk {l : PySem.W.OpenLaw} {w : World} {K : PySem.W.Frag} {h : Heap} {mg : Str → Option Value} {fa : Addr} (KX : K.In h) (G : h.Ns mainGlobals mg) (hmg : mg "law" = some (.ref fa)) (T : Txt K mg) :
    ∃ fd : FuncData, (∀ (s : Shared) (u : Value), BindsTo s fd ⟨[u], []⟩ [("_law_script", u)]) ∧ ∀ base : Heap, K.In base → base.Ns mainGlobals mg → FnG l.prog w K mg base CX0 10 fa fd ["_law_script"] (spLaw K) := by
  obtain ⟨f, fd, hm, F, _⟩ := T.s_law.src
  cases hmg.symm.trans hm
  have F0 := F
  obtain ⟨oc, od, kV, dc, pm, an, cd, ct, sl, e, _, _⟩ := F0.ex
  exact ⟨fd, fun s v => e ▸ .of_eq rfl, fun base _ _ => all_ok T F fin⟩
end
end
end Lfreshparts_k64_shares_and_gains_of_kinds
open PySem PySem.W PyProof.Rows
set_option maxHeartbeats 0 in
theorem PySem.Challenge.cw_freshparts_k64_shares_and_gains_of_kinds_holds : PySem.Challenge.rw_freshparts_k64_shares_and_gains_of_kinds.Holds := by
  w_on; o_law; k_head; (case hw => w_witness2)
  k_fill
  refine Dn.walkG (l := PySem.Challenge.rw_freshparts_k64_shares_and_gains_of_kinds) (k := 10) (x := "_law_script") rfl rfl ⟨rfl, by decide, by decide⟩ (fun w h Y => PySem.W.kIn_of Y) ?F
  case F =>
    intro w mg fa h KX G hmg
    refine' Lfreshparts_k64_shares_and_gains_of_kinds.all_mk (l := PySem.Challenge.rw_freshparts_k64_shares_and_gains_of_kinds) KX G hmg ?T
    case T =>
      refine' ⟨?n_abs, ?n_all, ?n_enumerate, ?n_int, ?n_len, ?n_list, ?n_min, ?n_range, ?n_repr, ?n_sorted, ?n_sum, ?n_tuple, ?n_zip, ?s_q_feed, ?s_common, ?s_ratio, ?s_times, ?s_plus, ?s_short, ?s_kind_life, ?s_summed, ?s_minus, ?s_over, ?s_chances_added, ?s_miss, ?s_behind_row, ?s_mean, ?s_whole_of, ?s_by_whole, ?s_chain, ?s_reached, ?s_weights_of, ?s_ways_home, ?s_share_told, ?s_shares, ?s_ever_gain, ?s_q_draw, ?s_q_lowest, ?s_q_by, ?s_q_add, ?s_q_all, ?s_q_following, ?s_q_kinds, ?s_q_rows, ?s_q_trees, ?s_q_weights, ?s_q_group_kinds, ?s_q_mean, ?s_law, ?k_NOUGHT_ratios, ?k_ONE_ratios, ?k_LONGEST, ?k_NOUGHT_kinds, ?k_NOUGHT_sharing, ?k_ONE_sharing⟩
      (case n_abs => refine' PySem.W.mg_none_of KX G ?a0; (case a0 => k_is))
      (case n_all => refine' PySem.W.mg_none_of KX G ?a1; (case a1 => k_is))
      (case n_enumerate => refine' PySem.W.mg_none_of KX G ?a2; (case a2 => k_is))
      (case n_int => refine' PySem.W.mg_none_of KX G ?a3; (case a3 => k_is))
      (case n_len => refine' PySem.W.mg_none_of KX G ?a4; (case a4 => k_is))
      (case n_list => refine' PySem.W.mg_none_of KX G ?a5; (case a5 => k_is))
      (case n_min => refine' PySem.W.mg_none_of KX G ?a6; (case a6 => k_is))
      (case n_range => refine' PySem.W.mg_none_of KX G ?a7; (case a7 => k_is))
      (case n_repr => refine' PySem.W.mg_none_of KX G ?a8; (case a8 => k_is))
      (case n_sorted => refine' PySem.W.mg_none_of KX G ?a9; (case a9 => k_is))
      (case n_sum => refine' PySem.W.mg_none_of KX G ?a10; (case a10 => k_is))
      (case n_tuple => refine' PySem.W.mg_none_of KX G ?a11; (case a11 => k_is))
      (case n_zip => refine' PySem.W.mg_none_of KX G ?a12; (case a12 => k_is))
      (case s_q_feed => refine' Dn.src_mk KX G ?a13 ?l13 ?c13 ?k13 (fun _ _ _ _ _ _ us hl => match us, hl with | [_], _ => rfl); (case a13 => k_is); (case l13 => k_is); (case c13 => k_is); (case k13 => k_is))
      (case s_common => refine' Dn.src_mk KX G ?a14 ?l14 ?c14 ?k14 (fun _ _ _ _ _ _ us hl => match us, hl with | [_, _], _ => rfl); (case a14 => k_is); (case l14 => k_is); (case c14 => k_is); (case k14 => k_is))
      (case s_ratio => refine' Dn.src_mk KX G ?a15 ?l15 ?c15 ?k15 (fun _ _ _ _ _ _ us hl => match us, hl with | [_, _], _ => rfl); (case a15 => k_is); (case l15 => k_is); (case c15 => k_is); (case k15 => k_is))
      (case s_times => refine' Dn.src_mk KX G ?a16 ?l16 ?c16 ?k16 (fun _ _ _ _ _ _ us hl => match us, hl with | [_, _], _ => rfl); (case a16 => k_is); (case l16 => k_is); (case c16 => k_is); (case k16 => k_is))
      (case s_plus => refine' Dn.src_mk KX G ?a17 ?l17 ?c17 ?k17 (fun _ _ _ _ _ _ us hl => match us, hl with | [_, _], _ => rfl); (case a17 => k_is); (case l17 => k_is); (case c17 => k_is); (case k17 => k_is))
      (case s_short => refine' Dn.src_mk KX G ?a18 ?l18 ?c18 ?k18 (fun _ _ _ _ _ _ us hl => match us, hl with | [_], _ => rfl); (case a18 => k_is); (case l18 => k_is); (case c18 => k_is); (case k18 => k_is))
      (case s_kind_life => refine' Dn.src_mk KX G ?a19 ?l19 ?c19 ?k19 (fun _ _ _ _ _ _ us hl => match us, hl with | [_, _], _ => rfl); (case a19 => k_is); (case l19 => k_is); (case c19 => k_is); (case k19 => k_is))
      (case s_summed => refine' Dn.src_mk KX G ?a20 ?l20 ?c20 ?k20 (fun _ _ _ _ _ _ us hl => match us, hl with | [_], _ => rfl); (case a20 => k_is); (case l20 => k_is); (case c20 => k_is); (case k20 => k_is))
      (case s_minus => refine' Dn.src_mk KX G ?a21 ?l21 ?c21 ?k21 (fun _ _ _ _ _ _ us hl => match us, hl with | [_, _], _ => rfl); (case a21 => k_is); (case l21 => k_is); (case c21 => k_is); (case k21 => k_is))
      (case s_over => refine' Dn.src_mk KX G ?a22 ?l22 ?c22 ?k22 (fun _ _ _ _ _ _ us hl => match us, hl with | [_, _], _ => rfl); (case a22 => k_is); (case l22 => k_is); (case c22 => k_is); (case k22 => k_is))
      (case s_chances_added => refine' Dn.src_mk KX G ?a23 ?l23 ?c23 ?k23 (fun _ _ _ _ _ _ us hl => match us, hl with | [_], _ => rfl); (case a23 => k_is); (case l23 => k_is); (case c23 => k_is); (case k23 => k_is))
      (case s_miss => refine' Dn.src_mk KX G ?a24 ?l24 ?c24 ?k24 (fun _ _ _ _ _ _ us hl => match us, hl with | [_], _ => rfl); (case a24 => k_is); (case l24 => k_is); (case c24 => k_is); (case k24 => k_is))
      (case s_behind_row => refine' Dn.src_mk KX G ?a25 ?l25 ?c25 ?k25 (fun _ _ _ _ _ _ us hl => match us, hl with | [_, _], _ => rfl); (case a25 => k_is); (case l25 => k_is); (case c25 => k_is); (case k25 => k_is))
      (case s_mean => refine' Dn.src_mk KX G ?a26 ?l26 ?c26 ?k26 (fun _ _ _ _ _ _ us hl => match us, hl with | [_], _ => rfl); (case a26 => k_is); (case l26 => k_is); (case c26 => k_is); (case k26 => k_is))
      (case s_whole_of => refine' Dn.src_mk KX G ?a27 ?l27 ?c27 ?k27 (fun _ _ _ _ _ _ us hl => match us, hl with | [_], _ => rfl); (case a27 => k_is); (case l27 => k_is); (case c27 => k_is); (case k27 => k_is))
      (case s_by_whole => refine' Dn.src_mk KX G ?a28 ?l28 ?c28 ?k28 (fun _ _ _ _ _ _ us hl => match us, hl with | [_], _ => rfl); (case a28 => k_is); (case l28 => k_is); (case c28 => k_is); (case k28 => k_is))
      (case s_chain => refine' Dn.src_mk KX G ?a29 ?l29 ?c29 ?k29 (fun _ _ _ _ _ _ us hl => match us, hl with | [_], _ => rfl); (case a29 => k_is); (case l29 => k_is); (case c29 => k_is); (case k29 => k_is))
      (case s_reached => refine' Dn.src_mk KX G ?a30 ?l30 ?c30 ?k30 (fun _ _ _ _ _ _ us hl => match us, hl with | [_, _], _ => rfl); (case a30 => k_is); (case l30 => k_is); (case c30 => k_is); (case k30 => k_is))
      (case s_weights_of => refine' Dn.src_mk KX G ?a31 ?l31 ?c31 ?k31 (fun _ _ _ _ _ _ us hl => match us, hl with | [_, _], _ => rfl); (case a31 => k_is); (case l31 => k_is); (case c31 => k_is); (case k31 => k_is))
      (case s_ways_home => refine' Dn.src_mk KX G ?a32 ?l32 ?c32 ?k32 (fun _ _ _ _ _ _ us hl => match us, hl with | [_, _], _ => rfl); (case a32 => k_is); (case l32 => k_is); (case c32 => k_is); (case k32 => k_is))
      (case s_share_told => refine' Dn.src_mk KX G ?a33 ?l33 ?c33 ?k33 (fun _ _ _ _ _ _ us hl => match us, hl with | [_], _ => rfl); (case a33 => k_is); (case l33 => k_is); (case c33 => k_is); (case k33 => k_is))
      (case s_shares => refine' Dn.src_mk KX G ?a34 ?l34 ?c34 ?k34 (fun _ _ _ _ _ _ us hl => match us, hl with | [_], _ => rfl); (case a34 => k_is); (case l34 => k_is); (case c34 => k_is); (case k34 => k_is))
      (case s_ever_gain => refine' Dn.src_mk KX G ?a35 ?l35 ?c35 ?k35 (fun _ _ _ _ _ _ us hl => match us, hl with | [_, _], _ => rfl); (case a35 => k_is); (case l35 => k_is); (case c35 => k_is); (case k35 => k_is))
      (case s_q_draw => refine' Dn.src_mk KX G ?a36 ?l36 ?c36 ?k36 (fun _ _ _ _ _ _ us hl => match us, hl with | [_, _], _ => rfl); (case a36 => k_is); (case l36 => k_is); (case c36 => k_is); (case k36 => k_is))
      (case s_q_lowest => refine' Dn.src_mk KX G ?a37 ?l37 ?c37 ?k37 (fun _ _ _ _ _ _ us hl => match us, hl with | [_, _], _ => rfl); (case a37 => k_is); (case l37 => k_is); (case c37 => k_is); (case k37 => k_is))
      (case s_q_by => refine' Dn.src_mk KX G ?a38 ?l38 ?c38 ?k38 (fun _ _ _ _ _ _ us hl => match us, hl with | [_, _], _ => rfl); (case a38 => k_is); (case l38 => k_is); (case c38 => k_is); (case k38 => k_is))
      (case s_q_add => refine' Dn.src_mk KX G ?a39 ?l39 ?c39 ?k39 (fun _ _ _ _ _ _ us hl => match us, hl with | [_, _], _ => rfl); (case a39 => k_is); (case l39 => k_is); (case c39 => k_is); (case k39 => k_is))
      (case s_q_all => refine' Dn.src_mk KX G ?a40 ?l40 ?c40 ?k40 (fun _ _ _ _ _ _ us hl => match us, hl with | [_], _ => rfl); (case a40 => k_is); (case l40 => k_is); (case c40 => k_is); (case k40 => k_is))
      (case s_q_following => refine' Dn.src_mk KX G ?a41 ?l41 ?c41 ?k41 (fun _ _ _ _ _ _ us hl => match us, hl with | [_, _, _, _], _ => rfl); (case a41 => k_is); (case l41 => k_is); (case c41 => k_is); (case k41 => k_is))
      (case s_q_kinds => refine' Dn.src_mk KX G ?a42 ?l42 ?c42 ?k42 (fun _ _ _ _ _ _ us hl => match us, hl with | [_, _, _], _ => rfl); (case a42 => k_is); (case l42 => k_is); (case c42 => k_is); (case k42 => k_is))
      (case s_q_rows => refine' Dn.src_mk KX G ?a43 ?l43 ?c43 ?k43 (fun _ _ _ _ _ _ us hl => match us, hl with | [_], _ => rfl); (case a43 => k_is); (case l43 => k_is); (case c43 => k_is); (case k43 => k_is))
      (case s_q_trees => refine' Dn.src_mk KX G ?a44 ?l44 ?c44 ?k44 (fun _ _ _ _ _ _ us hl => match us, hl with | [_, _], _ => rfl); (case a44 => k_is); (case l44 => k_is); (case c44 => k_is); (case k44 => k_is))
      (case s_q_weights => refine' Dn.src_mk KX G ?a45 ?l45 ?c45 ?k45 (fun _ _ _ _ _ _ us hl => match us, hl with | [_], _ => rfl); (case a45 => k_is); (case l45 => k_is); (case c45 => k_is); (case k45 => k_is))
      (case s_q_group_kinds => refine' Dn.src_mk KX G ?a46 ?l46 ?c46 ?k46 (fun _ _ _ _ _ _ us hl => match us, hl with | [_], _ => rfl); (case a46 => k_is); (case l46 => k_is); (case c46 => k_is); (case k46 => k_is))
      (case s_q_mean => refine' Dn.src_mk KX G ?a47 ?l47 ?c47 ?k47 (fun _ _ _ _ _ _ us hl => match us, hl with | [_], _ => rfl); (case a47 => k_is); (case l47 => k_is); (case c47 => k_is); (case k47 => k_is))
      (case s_law => refine' Dn.src_mk KX G ?a48 ?l48 ?c48 ?k48 (fun _ _ _ _ _ _ us hl => match us, hl with | [_], _ => rfl); (case a48 => k_is); (case l48 => k_is); (case c48 => k_is); (case k48 => k_is))
      (case k_NOUGHT_ratios => refine' Dn.rat_mk KX G ?a49 ?l49; (case a49 => k_is); (case l49 => k_is))
      (case k_ONE_ratios => refine' Dn.rat_mk KX G ?a50 ?l50; (case a50 => k_is); (case l50 => k_is))
      (case k_LONGEST => refine' Dn.int_mk KX G ?a51; (case a51 => k_is))
      (case k_NOUGHT_kinds => refine' Dn.rat_mk KX G ?a52 ?l52; (case a52 => k_is); (case l52 => k_is))
      (case k_NOUGHT_sharing => refine' Dn.rat_mk KX G ?a53 ?l53; (case a53 => k_is); (case l53 => k_is))
      (case k_ONE_sharing => refine' Dn.rat_mk KX G ?a54 ?l54; (case a54 => k_is); (case l54 => k_is))
