import PyProof.Rows.All
import Wide.All
import OpenK.AllK
import Wide.FinOn
import HandS.ForMost
import HandS.Wide
import HandS.Zip
import HandS.TupAny
import HandS.TupMul
import HandS.Exc
import PyProof.ListMulRoad
import PyProof.FactsAll.tuple_2
import HandS.TupLe
import HandS.Deep
import HandS.Style
import PyProof.Draws
import KE.GoesMore
import KE.GoesZip
import PyProof.EnumMake
import HandS.IsInst
import HandS.FltList
import HandS.WideBits
import HandS.ExcInit
import HandS.TryOnly
import HandS.ExcField
import KE.KExcIs
import HandS.NoneIn
import HandS.Conv
import HandS.NamedTupSort
import KE.KTupSum
import HandS.TupSets
import HandS.SetFor
import KE.KDictCopyH
import KE.KDictSum
import PyProof.Rows.ReprOcc
import PyProof.ReprText
import PySem.Challenge.RW_freshparts_k58_papers_of_kinds_let_by
set_option Elab.async false
set_option linter.all false
set_option maxRecDepth 100000
set_option exponentiation.threshold 10000
section
set_option maxHeartbeats 4000000
namespace Dn
open PySem PySem.Spec L2
/-- the state of the one drawing feed -/
structure Feed where
  cells : List Int
  spot : Int
  left : Int
  turn : Int
inductive R (α : Type) where
  | no : R α
  | ok (a : α) (f : Feed) : R α
  | ex (c : Str) (vs : List (Str × PyData)) (f : Feed) : R α
def R.bind {α β : Type} (r : R α) (k : α → Feed → R β) : R β := match r with
  | .no => .no
  | .ok a f => k a f
  | .ex c vs f => .ex c vs f
/-- a dict that grows: its keys are whole numbers, or tuples of these -/
inductive Dk where
  | I (kvs : List (Int × PyData))
  | T (kvs : List (List Int × PyData))
inductive Slot where
  | emp
  | dat (d : PyData)
  | own (ds : List PyData)
  | feed
  | scr (ns : List Int)
  | dct (k : Dk)
  | key (ks : List Int)
  | brd (dss : List (List PyData))
inductive RV where
  | dat (d : PyData)
  | own (ds : List PyData)
  | lent (i : Nat) (ds : List PyData)
  | feed
def RV.peek : RV → Option PyData
  | .dat d => some d
  | .own ds => some (.list ds)
  | .lent _ ds => some (.list ds)
  | .feed => none
def RV.data : RV → Option PyData
  | .dat d => some d
  | .own ds => some (.list ds)
  | _ => none
abbrev Rho := List Slot
abbrev Ex := Rho → Feed → R RV
inductive Ctl where
  | nx (p : Rho)
  | rt (v : RV)
  | bk (p : Rho)
  | ct (p : Rho)
abbrev Sm := Rho → Feed → R Ctl
def ExH (a C : Addr) (od : Option Addr) : HO := .ext fun h => ∃ oe vs, h.get? a = some oe ∧ Zc (.ref C) od oe ∧ oe.data = .fields vs
def errNm (K : PySem.W.Frag) (C : Addr) : Option Str := (PySem.W.clsIn K C).map (·.name)
def XdH (H : Hp) (od : Option Addr) (xs : List (Str × V)) : Prop := (od = none ∧ xs = []) ∨ ∃ d, od = some d ∧ H d = some (.xd xs)
def fldD (xs : List (Str × V)) (ds : List PyData) : List (PyData × PyData) := List.zipWith (fun x d => (.str x.1, d)) xs ds
def keyD : Key → PyData
  | .inl i => .int i
  | .inr x => .str x
mutual
inductive DR (K : PySem.W.Frag) (H : Hp) : V → PyData → Prop
  | non : DR K H .non .none
  | bl (b : Bool) : DR K H (.bl b) (.bool b)
  | int (i : Int) : DR K H (.int i) (.int i)
  | str (x : Str) : DR K H (.str x) (.str x)
  | lst {a : Addr} {xs : List V} {ds : List PyData} : H a = some (.lst xs) → DRs K H xs ds → DR K H (.ref a) (.list ds)
  | tup {a : Addr} {xs : List V} {ds : List PyData} : SqT K H a xs → DRs K H xs ds → DR K H (.ref a) (.tuple ds)
  | dic {a : Addr} {xs : List (Key × V)} {ks : List (PyData × PyData)} : H a = some (.dK xs) → ks.map (·.1) = xs.map (fun x => keyD x.1) → DRs K H (xs.map (·.2)) (ks.map (·.2)) → DR K H (.ref a) (.dict ks)
  | exc {a C : Addr} {od : Option Addr} {c : Str} {xs : List (Str × V)} {ds : List PyData} : H a = some (ExH a C od) → errNm K C = some c → XdH H od xs → DRs K H (xs.map (·.2)) ds → DR K H (.ref a) (.dict ((.none, .str c) :: fldD xs ds))
  | dit {a : Addr} {xs : List (List Key × V)} {kvs : List (List Int × PyData)} : H a = some (.dT xs) → xs.map (·.1) = kvs.map (fun q => q.1.map Sum.inl) → DRs K H (xs.map (·.2)) (kvs.map (·.2)) → DR K H (.ref a) (.dict ((.bool true, .none) :: kvs.map fun q => (.tuple (q.1.map .int), q.2)))
inductive DRs (K : PySem.W.Frag) (H : Hp) : List V → List PyData → Prop
  | nil : DRs K H [] []
  | cons {v : V} {vs : List V} {d : PyData} {ds : List PyData} : DR K H v d → DRs K H vs ds → DRs K H (v :: vs) (d :: ds)
end
def Le (H G : Hp) : Prop := ∀ a o, H a = some o → G a = some o
theorem Le.refl (H : Hp) : Le H H := fun _ _ h => h
theorem Le.trans {H G F : Hp} (a : Le H G) (b : Le G F) : Le H F := fun x o h => b x o (a x o h)
theorem XdH.mono {H G : Hp} (l : Le H G) {od : Option Addr} {xs : List (Str × V)} (h : XdH H od xs) : XdH G od xs := by
  rcases h with ⟨e1, e2⟩ | ⟨d, e1, e2⟩
  · exact .inl ⟨e1, e2⟩
  · exact .inr ⟨d, e1, l _ _ e2⟩
theorem Le.sqL {K : PySem.W.Frag} {H G : Hp} {a : Addr} {xs : List V} (l : Le H G) (h : SqL K H a xs) : SqL K G a xs := by
  rcases h with (h | ⟨o, h⟩) | h
  · exact .inl (.inl (l _ _ h))
  · exact .inl (.inr ⟨o, l _ _ h⟩)
  · exact .inr h
theorem Le.sqT {K : PySem.W.Frag} {H G : Hp} {a : Addr} {xs : List V} (l : Le H G) (h : SqT K H a xs) : SqT K G a xs := by
  rcases h with (h | ⟨o, h⟩) | h
  · exact .inl (.inl (l _ _ h))
  · exact .inl (.inr ⟨o, l _ _ h⟩)
  · exact .inr h
mutual
theorem DR.mono {K : PySem.W.Frag} {H G : Hp} (l : Le H G) : ∀ {v : V} {d : PyData}, DR K H v d → DR K G v d
  | _, _, .non => .non
  | _, _, .bl b => .bl b
  | _, _, .int i => .int i
  | _, _, .str x => .str x
  | _, _, .lst h r => .lst (l _ _ h) (DRs.mono l r)
  | _, _, .tup h r => .tup (l.sqT h) (DRs.mono l r)
  | _, _, .dic h e r => .dic (l _ _ h) e (DRs.mono l r)
  | _, _, .exc h1 h2 h3 h4 => .exc (l _ _ h1) h2 (h3.mono l) (DRs.mono l h4)
  | _, _, .dit h e r => .dit (l _ _ h) e (DRs.mono l r)
theorem DRs.mono {K : PySem.W.Frag} {H G : Hp} (l : Le H G) : ∀ {vs : List V} {ds : List PyData}, DRs K H vs ds → DRs K G vs ds
  | _, _, .nil => .nil
  | _, _, .cons h r => .cons (DR.mono l h) (DRs.mono l r)
end
section
variable {K : PySem.W.Frag} {H : Hp}
theorem DRs.length : ∀ {vs : List V} {ds : List PyData}, DRs K H vs ds → vs.length = ds.length
  | _, _, .nil => rfl
  | _, _, .cons _ r => congrArg (· + 1) r.length
theorem DRs.get : ∀ {vs : List V} {ds : List PyData} {i : Nat} {d : PyData}, DRs K H vs ds → ds[i]? = some d → ∃ v, vs[i]? = some v ∧ DR K H v d
  | _, _, _, _, .nil, e => by simp at e
  | _, _, 0, d, .cons h _, e => by
    simp at e
    subst e
    exact ⟨_, rfl, h⟩
  | _, _, i + 1, d, .cons _ r, e => by
    obtain ⟨v, h1, h2⟩ := DRs.get (i := i) (d := d) r (by simpa using e)
    exact ⟨v, by simpa using h1, h2⟩
theorem DRs.append : ∀ {vs ws : List V} {ds es : List PyData}, DRs K H vs ds → DRs K H ws es → DRs K H (vs ++ ws) (ds ++ es)
  | _, _, _, _, .nil, s => s
  | _, _, _, _, .cons h r, s => .cons h (DRs.append r s)
theorem DRs.snoc {vs : List V} {v : V} {ds : List PyData} {d : PyData} (r : DRs K H vs ds) (h : DR K H v d) : DRs K H (vs ++ [v]) (ds ++ [d]) := r.append (.cons h .nil)
theorem DRs.drop : ∀ {vs : List V} {ds : List PyData} (n : Nat), DRs K H vs ds → DRs K H (vs.drop n) (ds.drop n)
  | _, _, 0, r => r
  | _, _, _ + 1, .nil => .nil
  | _, _, n + 1, .cons _ r => DRs.drop n r
theorem DRs.take : ∀ {vs : List V} {ds : List PyData} (n : Nat), DRs K H vs ds → DRs K H (vs.take n) (ds.take n)
  | _, _, 0, _ => .nil
  | _, _, _ + 1, .nil => .nil
  | _, _, n + 1, .cons h r => .cons h (DRs.take n r)
theorem DRs.set : ∀ {vs : List V} {ds : List PyData} {v : V} {d : PyData} (n : Nat), DRs K H vs ds → DR K H v d → DRs K H (vs.set n v) (ds.set n d)
  | _, _, _, _, _, .nil, _ => .nil
  | _, _, _, _, 0, .cons _ r, h => .cons h r
  | _, _, _, _, n + 1, .cons g r, h => .cons g (DRs.set n r h)
theorem DRs.rep {vs : List V} {ds : List PyData} (r : DRs K H vs ds) : ∀ n : Nat, DRs K H (List.replicate n vs).flatten (List.replicate n ds).flatten
  | 0 => .nil
  | n + 1 => by
    rw [List.replicate_succ, List.replicate_succ, List.flatten_cons, List.flatten_cons]
    exact r.append (r.rep n)
theorem DRs.ints : ∀ ns : List Int, DRs K H (ns.map V.int) (ns.map PyData.int)
  | [] => .nil
  | n :: r => .cons (.int n) (DRs.ints r)
theorem DRs.rev : ∀ {vs : List V} {ds : List PyData}, DRs K H vs ds → DRs K H vs.reverse ds.reverse
  | _, _, .nil => .nil
  | _, _, .cons h r => by
    rw [List.reverse_cons, List.reverse_cons]
    exact (DRs.rev r).snoc h
end
structure Gh where
  fa : Addr
  ca : Addr
  H0 : Hp
  HF0 : Hp
def feedO (g : Gh) (f : Feed) : HO := .dK [(Sum.inr "cells", .ref g.ca), (Sum.inr "at", .int f.spot), (Sum.inr "left", .int f.left), (Sum.inr "turn", .int f.turn)]
structure FeedAt (g : Gh) (H HF : Hp) (f : Feed) : Prop where
  d : H g.fa = some (feedO g f)
  nf : HF g.fa = none
  c : HF g.ca = some (.lst (f.cells.map V.int))
/-- no tuple -/
def ntu : HO → Bool
  | .tup _ => false
  | _ => true
/-- something that is there and no tuple -/
def Mo (H : Hp) (a : Addr) : Prop := ∃ o, H a = some o ∧ ntu o = true
theorem mo {H : Hp} {a : Addr} {o : HO} (e : H a = some o) (h : ntu o = true := by rfl) : Mo H a := ⟨o, e, h⟩
theorem Mo.some {H : Hp} {a : Addr} (h : Mo H a) : H a ≠ none := by
  obtain ⟨o, e, _⟩ := h
  rw [e]
  exact Option.some_ne_none _
structure Step (g : Gh) (H HF G GF : Hp) : Prop where
  ext : ∀ a o, a ≠ g.fa → H a = some o → G a = some o
  le : Le HF GF
  new : ∀ a, Mo H a → HF a = none → GF a = none
  sub : Le GF G
theorem Step.refl {g : Gh} {H HF : Hp} (s : Le HF H) : Step g H HF H HF := ⟨fun _ _ _ h => h, Le.refl _, fun _ _ h => h, s⟩
theorem FeedAt.ne {g : Gh} {H HF : Hp} {f : Feed} (h : FeedAt g H HF f) : H g.fa ≠ none := by
  rw [h.d]
  exact Option.some_ne_none _
theorem Step.live {g : Gh} {H HF G GF : Hp} {f : Feed} (s : Step g H HF G GF) (h : FeedAt g G GF f) {a : Addr} (e : H a ≠ none) : G a ≠ none := by
  by_cases q : a = g.fa
  · rw [q]
    exact h.ne
  · cases r : H a with
    | none => exact absurd r e
    | some o =>
      rw [s.ext a o q r]
      exact Option.some_ne_none _
theorem Step.liveM {g : Gh} {H HF G GF : Hp} {f : Feed} (s : Step g H HF G GF) (h : FeedAt g G GF f) {a : Addr} (e : Mo H a) : Mo G a := by
  by_cases q : a = g.fa
  · rw [q]
    exact mo h.d
  · obtain ⟨o, e1, e2⟩ := e
    exact ⟨o, s.ext a o q e1, e2⟩
theorem Step.dead {g : Gh} {H HF G GF : Hp} {f : Feed} (s : Step g H HF G GF) (h : FeedAt g G GF f) {a : Addr} (e : G a = none) : H a = none := by
  cases r : H a with
  | none => rfl
  | some o => exact absurd e (s.live h (by rw [r]; exact Option.some_ne_none _))
theorem Step.trans {g : Gh} {H HF G GF I IF : Hp} {f : Feed} (a : Step g H HF G GF) (h : FeedAt g G GF f) (b : Step g G GF I IF) : Step g H HF I IF :=
  ⟨fun x o q e => b.ext x o q (a.ext x o q e), a.le.trans b.le, fun x e q => b.new x (a.liveM h e) (a.new x e q), b.sub⟩
/-- a sequence or a datum that may be read now -/
def Top (K : PySem.W.Frag) (g : Gh) (H HF : Hp) (v : V) (d : PyData) : Prop :=
  DR K HF v d ∨ ∃ p vs ds, v = .ref p ∧ d = .list ds ∧ p ≠ g.fa ∧ H p = some (.lst vs) ∧ DRs K HF vs ds
theorem Top.step {K : PySem.W.Frag} {g : Gh} {H HF G GF : Hp} {v : V} {d : PyData} (t : Top K g H HF v d) (s : Step g H HF G GF) : Top K g G GF v d := by
  rcases t with h | ⟨p, vs, ds, e1, e2, e3, e4, e5⟩
  · exact .inl (h.mono s.le)
  · exact .inr ⟨p, vs, ds, e1, e2, e3, s.ext _ _ e3 e4, e5.mono s.le⟩
/-- a growing dict at an address -/
def DkAt (K : PySem.W.Frag) (H HF : Hp) (p : Addr) : Dk → Prop
  | .I kvs => ∃ xs : List (Key × V), H p = some (.dK xs) ∧ Paired (fun x q => x.1 = Sum.inl q.1 ∧ DR K HF x.2 q.2) xs kvs
  | .T kvs => ∃ xs : List (List Key × V), H p = some (.dT xs) ∧ Paired (fun x q => x.1 = q.1.map Sum.inl ∧ DR K HF x.2 q.2) xs kvs
theorem paired_imp {α β : Type} {F G : α → β → Prop} (h : ∀ a b, F a b → G a b) : ∀ {as : List α} {bs : List β}, Paired F as bs → Paired G as bs
  | _, _, .nil => .nil
  | _, _, .cons x r => .cons (h _ _ x) (paired_imp h r)
theorem DkAt.mono {K : PySem.W.Frag} {H HF G GF : Hp} {p : Addr} {k : Dk} (h : DkAt K H HF p k) (e : ∀ o, H p = some o → G p = some o) (l : Le HF GF) : DkAt K G GF p k := by
  cases k with
  | I kvs =>
    obtain ⟨xs, h1, h2⟩ := h
    exact ⟨xs, e _ h1, paired_imp (fun _ _ z => ⟨z.1, z.2.mono l⟩) h2⟩
  | T kvs =>
    obtain ⟨xs, h1, h2⟩ := h
    exact ⟨xs, e _ h1, paired_imp (fun _ _ z => ⟨z.1, z.2.mono l⟩) h2⟩
theorem DkAt.ne {K : PySem.W.Frag} {g : Gh} {H HF HF2 : Hp} {f : Feed} {p : Addr} {k : Dk} (h : DkAt K H HF p k) (r : FeedAt g H HF2 f) : p ≠ g.fa := fun q => by
  subst q
  cases k with
  | I kvs =>
    obtain ⟨xs, h1, h2⟩ := h
    have z := r.d.symm.trans h1
    unfold feedO at z
    injection z with z
    injection z with z
    subst z
    cases h2 with
    | cons a b => cases a.1
  | T kvs =>
    obtain ⟨xs, h1, h2⟩ := h
    have z := r.d.symm.trans h1
    unfold feedO at z
    cases z
theorem DkAt.nl {K : PySem.W.Frag} {H HF : Hp} {p : Addr} {k : Dk} (h : DkAt K H HF p k) {vs : List V} : H p ≠ some (.lst vs) := fun e => by
  cases k with
  | I kvs =>
    obtain ⟨xs, h1, h2⟩ := h
    rw [e] at h1
    cases h1
  | T kvs =>
    obtain ⟨xs, h1, h2⟩ := h
    rw [e] at h1
    cases h1
theorem DkAt.mo {K : PySem.W.Frag} {H HF : Hp} {p : Addr} {k : Dk} (h : DkAt K H HF p k) : Mo H p := by
  cases k with
  | I kvs =>
    obtain ⟨xs, h1, h2⟩ := h
    exact Dn.mo h1
  | T kvs =>
    obtain ⟨xs, h1, h2⟩ := h
    exact Dn.mo h1
theorem DkAt.some {K : PySem.W.Frag} {H HF : Hp} {p : Addr} {k : Dk} (h : DkAt K H HF p k) : H p ≠ none := fun e => by
  cases k with
  | I kvs =>
    obtain ⟨xs, h1, h2⟩ := h
    rw [e] at h1
    cases h1
  | T kvs =>
    obtain ⟨xs, h1, h2⟩ := h
    rw [e] at h1
    cases h1
/-- a board: a list of lists that one name alone holds -/
def BdAt (K : PySem.W.Frag) (g : Gh) (H HF : Hp) (p : Addr) (qs : List Addr) (dss : List (List PyData)) : Prop :=
  H p = some (.lst (qs.map V.ref)) ∧ (p :: qs).Nodup ∧ (∀ q ∈ p :: qs, g.H0 q = none ∧ HF q = none) ∧ Paired (fun q ds => ∃ vs, H q = some (.lst vs) ∧ DRs K HF vs ds) qs dss
theorem refs_inj : ∀ {ps qs : List Addr}, ps.map V.ref = qs.map V.ref → ps = qs
  | [], [], _ => rfl
  | [], _ :: _, h => by cases h
  | _ :: _, [], h => by cases h
  | p :: ps, q :: qs, h => by
    rw [List.map_cons, List.map_cons] at h
    injection h with h1 h2
    injection h1 with h1
    rw [h1, refs_inj h2]
theorem paired_left {α β : Type} {F : α → β → Prop} {a : α} : ∀ {as : List α} {bs : List β}, Paired F as bs → a ∈ as → ∃ b, F a b
  | _, _, .cons x _, .head _ => ⟨_, x⟩
  | _, _, .cons _ r, .tail _ m => paired_left r m
theorem paired_impM {α β : Type} {F G : α → β → Prop} : ∀ {as : List α} {bs : List β}, (∀ a ∈ as, ∀ b, F a b → G a b) → Paired F as bs → Paired G as bs
  | _, _, _, .nil => .nil
  | _, _, h, .cons x r => .cons (h _ List.mem_cons_self _ x) (paired_impM (fun a m b z => h a (List.mem_cons_of_mem _ m) b z) r)
theorem BdAt.live {K : PySem.W.Frag} {g : Gh} {H HF : Hp} {p : Addr} {qs : List Addr} {dss : List (List PyData)} (h : BdAt K g H HF p qs dss) {q : Addr} (m : q ∈ p :: qs) : ∃ vs, H q = some (.lst vs) := by
  obtain ⟨h1, h2, h3, h4⟩ := h
  rcases List.mem_cons.mp m with rfl | m
  · exact ⟨_, h1⟩
  · obtain ⟨b, vs, z, _⟩ := paired_left h4 m
    exact ⟨vs, z⟩
theorem BdAt.keep {K : PySem.W.Frag} {g : Gh} {H HF G GF : Hp} {p : Addr} {qs : List Addr} {dss : List (List PyData)} (h : BdAt K g H HF p qs dss) (e : ∀ q ∈ p :: qs, G q = H q) (n : ∀ q ∈ p :: qs, GF q = none) (l : Le HF GF) : BdAt K g G GF p qs dss := by
  obtain ⟨h1, h2, h3, h4⟩ := h
  refine ⟨by rw [e p List.mem_cons_self]; exact h1, h2, fun q m => ⟨(h3 q m).1, n q m⟩, paired_impM (fun q m ds z => ?_) h4⟩
  obtain ⟨vs, z1, z2⟩ := z
  exact ⟨vs, by rw [e q (List.mem_cons_of_mem _ m)]; exact z1, z2.mono l⟩
theorem BdAt.rows {K : PySem.W.Frag} {g : Gh} {H HF : Hp} {p : Addr} {qs ps : List Addr} {dss : List (List PyData)} (h : BdAt K g H HF p qs dss) (e : H p = some (.lst (ps.map V.ref))) : ps = qs := by
  have := h.1
  rw [e] at this
  injection this with this
  injection this with this
  exact refs_inj this
theorem BdAt.step {K : PySem.W.Frag} {g : Gh} {H HF HF2 G GF : Hp} {f : Feed} {p : Addr} {qs : List Addr} {dss : List (List PyData)} (h : BdAt K g H HF p qs dss) (r : FeedAt g H HF2 f) (s : Step g H HF G GF) : BdAt K g G GF p qs dss := by
  have k : ∀ q ∈ p :: qs, G q = H q ∧ GF q = none := fun q m => by
    obtain ⟨vs, z⟩ := h.live m
    refine ⟨?_, s.new q (mo z) (h.2.2.1 q m).2⟩
    rw [z]
    refine s.ext q _ (fun w => ?_) z
    rw [w, r.d] at z
    cases z
  exact h.keep (fun q m => (k q m).1) (fun q m => (k q m).2) s.le
theorem BdAt.upd {K : PySem.W.Frag} {g : Gh} {H HF : Hp} {p a : Addr} {o : HO} {qs : List Addr} {dss : List (List PyData)} (h : BdAt K g H HF p qs dss) (n : a ∉ p :: qs) : BdAt K g (upd H a o) HF p qs dss :=
  h.keep (fun q m => upd_ne (fun z => n (by rw [← z]; exact m))) (fun q m => (h.2.2.1 q m).2) (Le.refl _)
/-- at most one board, and no other name holds a row of it -/
def BdSep (σ : St) (H : Hp) (ρ : Rho) : Prop :=
  (∀ (i j : Nat) (a b : List (List PyData)), ρ[i]? = some (.brd a) → ρ[j]? = some (.brd b) → i = j) ∧
  ∀ (i j : Nat) (dss : List (List PyData)) (ds : List PyData) (p a : Addr) (qs : List Addr), ρ[i]? = some (.brd dss) → ρ[j]? = some (.own ds) → σ[i]? = some (some (.ref p)) → σ[j]? = some (some (.ref a)) → H p = some (.lst (qs.map V.ref)) → a ∉ p :: qs
theorem BdSep.to {σ τ : St} {H G : Hp} {ρ ϱ : Rho} (b : BdSep σ H ρ) (h1 : ∀ (i : Nat) dss, ϱ[i]? = some (.brd dss) → (∃ d2, ρ[i]? = some (.brd d2)) ∧ τ[i]? = σ[i]?) (h2 : ∀ (j : Nat) ds, ϱ[j]? = some (.own ds) → (∃ d2, ρ[j]? = some (.own d2)) ∧ τ[j]? = σ[j]?)
    (h3 : ∀ (i : Nat) dss (p : Addr) (qs : List Addr), ρ[i]? = some (.brd dss) → σ[i]? = some (some (.ref p)) → G p = some (.lst (qs.map V.ref)) → H p = some (.lst (qs.map V.ref))) : BdSep τ G ϱ := by
  refine ⟨fun i j x y e1 e2 => ?_, fun i j dss ds p a qs e1 e2 e3 e4 e5 => ?_⟩
  · obtain ⟨⟨x2, z1⟩, _⟩ := h1 i x e1
    obtain ⟨⟨y2, z2⟩, _⟩ := h1 j y e2
    exact b.1 i j x2 y2 z1 z2
  · obtain ⟨⟨x2, z1⟩, w1⟩ := h1 i dss e1
    obtain ⟨⟨y2, z2⟩, w2⟩ := h2 j ds e2
    rw [w1] at e3
    rw [w2] at e4
    exact b.2 i j x2 y2 p a qs z1 z2 e3 e4 (h3 i x2 p qs z1 e3 e5)
theorem BdSep.noBd {σ : St} {H : Hp} {ρ : Rho} (h : ∀ (i : Nat) dss, ρ[i]? ≠ some (.brd dss)) : BdSep σ H ρ := ⟨fun i _ a _ e _ => absurd e (h i a), fun i _ dss _ _ _ _ e _ _ _ _ => absurd e (h i dss)⟩
def SlotOk (K : PySem.W.Frag) (g : Gh) (H HF : Hp) (x : Option (Option V)) : Slot → Prop
  | .emp => True
  | .dat d => ∃ v, x = some (some v) ∧ DR K HF v d
  | .own ds => ∃ p vs, x = some (some (.ref p)) ∧ g.H0 p = none ∧ HF p = none ∧ H p = some (.lst vs) ∧ DRs K HF vs ds
  | .feed => x = some (some (.ref g.fa))
  | .scr ns => ∃ a, x = some (some (.ref a)) ∧ SqL K HF a (ns.map V.int)
  | .dct k => ∃ p, x = some (some (.ref p)) ∧ g.H0 p = none ∧ HF p = none ∧ DkAt K H HF p k
  | .key ks => ∃ a, x = some (some (.ref a)) ∧ HF a = some (.tup (ks.map V.int))
  | .brd dss => ∃ p qs, x = some (some (.ref p)) ∧ BdAt K g H HF p qs dss
structure Rel (K : PySem.W.Frag) (g : Gh) (σ : St) (H HF : Hp) (ρ : Rho) (f : Feed) : Prop where
  sub : Le HF H
  feed : FeedAt g H HF f
  ext : ∀ a o, a ≠ g.fa → g.H0 a = some o → H a = some o
  le : Le g.HF0 HF
  new : ∀ a, Mo g.H0 a → g.HF0 a = none → HF a = none
  len : σ.length = ρ.length
  slot : ∀ (i : Nat) (s : Slot), ρ[i]? = some s → SlotOk K g H HF σ[i]? s
  sep : ∀ (i j : Nat) (ds es : List PyData), ρ[i]? = some (.own ds) → ρ[j]? = some (.own es) → σ[i]? = σ[j]? → i = j
  sepD : ∀ (i j : Nat) (k l : Dk), ρ[i]? = some (.dct k) → ρ[j]? = some (.dct l) → σ[i]? = σ[j]? → i = j
  bd : BdSep σ H ρ
/-- a board's rows are as they were -/
theorem Rel.bdWas {K : PySem.W.Frag} {g : Gh} {σ : St} {H HF G GF : Hp} {ρ : Rho} {f : Feed} (r : Rel K g σ H HF ρ f) (s : Step g H HF G GF) {i : Nat} {dss : List (List PyData)} {p : Addr} {qs : List Addr} (e : ρ[i]? = some (.brd dss)) (e1 : σ[i]? = some (some (.ref p))) (e2 : G p = some (.lst (qs.map V.ref))) : BdAt K g H HF p qs dss := by
  obtain ⟨p2, q2, z1, z2⟩ := r.slot i _ e
  rw [e1] at z1
  cases z1
  have := (z2.step r.feed s).rows e2
  subst this
  exact z2
theorem ne_fa {g : Gh} {H HF : Hp} {f : Feed} {p : Addr} {vs : List V} (h : FeedAt g H HF f) (e : H p = some (.lst vs)) : p ≠ g.fa := fun q => by
  rw [q, h.d] at e
  cases e
theorem Rel.step {K : PySem.W.Frag} {g : Gh} {σ : St} {H HF G GF : Hp} {ρ : Rho} {f f1 : Feed} (r : Rel K g σ H HF ρ f) (s : Step g H HF G GF) (h : FeedAt g G GF f1) : Rel K g σ G GF ρ f1 where
  sub := s.sub
  feed := h
  ext := fun a o q e => s.ext a o q (r.ext a o q e)
  le := r.le.trans s.le
  new := fun a e q => s.new a (by
    by_cases z : a = g.fa
    · rw [z]
      exact mo r.feed.d
    · obtain ⟨o, e1, e2⟩ := e
      exact ⟨o, r.ext a o z e1, e2⟩) (r.new a e q)
  len := r.len
  slot := fun i x e => by
    have z := r.slot i x e
    cases x with
    | emp => trivial
    | dat d =>
      obtain ⟨v, z1, z2⟩ := z
      exact ⟨v, z1, z2.mono s.le⟩
    | own ds =>
      obtain ⟨p, vs, z1, z2, z3, z4, z5⟩ := z
      exact ⟨p, vs, z1, z2, s.new p (mo z4) z3, s.ext p _ (ne_fa r.feed z4) z4, z5.mono s.le⟩
    | feed => exact z
    | scr ns =>
      obtain ⟨a, z1, z2⟩ := z
      exact ⟨a, z1, s.le.sqL z2⟩
    | dct k =>
      obtain ⟨p, z1, z2, z3, z4⟩ := z
      exact ⟨p, z1, z2, s.new p z4.mo z3, z4.mono (fun o => s.ext p o (z4.ne r.feed)) s.le⟩
    | key ks =>
      obtain ⟨a, z1, z2⟩ := z
      exact ⟨a, z1, s.le _ _ z2⟩
    | brd dss =>
      obtain ⟨p, qs, z1, z2⟩ := z
      exact ⟨p, qs, z1, z2.step r.feed s⟩
  sep := r.sep
  sepD := r.sepD
  bd := r.bd.to (fun i dss e => ⟨⟨dss, e⟩, rfl⟩) (fun j ds e => ⟨⟨ds, e⟩, rfl⟩) fun i dss p qs e1 e2 e3 => (r.bdWas s e1 e2 e3).1
/-- a value that an expression gave: σ, H the state ahead of it -/
def RR (K : PySem.W.Frag) (g : Gh) (σ : St) (H G GF : Hp) (v : V) : RV → Prop
  | .dat d => DR K GF v d
  | .own ds => ∃ p vs, v = .ref p ∧ H p = none ∧ GF p = none ∧ G p = some (.lst vs) ∧ DRs K GF vs ds
  | .lent i ds => ∃ p vs, v = .ref p ∧ g.H0 p = none ∧ GF p = none ∧ G p = some (.lst vs) ∧ DRs K GF vs ds
  | .feed => v = .ref g.fa
section
variable {K : PySem.W.Frag} {g : Gh} {σ : St} {H HF G GF I IF : Hp} {v : V} {rv : RV} {f : Feed} {d : PyData}
theorem RR.step (r : RR K g σ H G GF v rv) (h : FeedAt g G GF f) (s : Step g G GF I IF) : RR K g σ H I IF v rv := by
  cases rv with
  | dat d => exact DR.mono s.le r
  | own ds =>
    obtain ⟨p, vs, e1, e2, e3, e4, e5⟩ := r
    exact ⟨p, vs, e1, e2, s.new p (mo e4) e3, s.ext p _ (ne_fa h e4) e4, e5.mono s.le⟩
  | lent i ds =>
    obtain ⟨p, vs, e1, e0, e3, e4, e5⟩ := r
    exact ⟨p, vs, e1, e0, s.new p (mo e4) e3, s.ext p _ (ne_fa h e4) e4, e5.mono s.le⟩
  | feed => exact r
theorem RR.back (r : RR K g σ G I IF v rv) (h : FeedAt g G GF f) (s : Step g H HF G GF) : RR K g σ H I IF v rv := by
  cases rv with
  | dat d => exact r
  | own ds =>
    obtain ⟨p, vs, e1, e2, e3⟩ := r
    exact ⟨p, vs, e1, s.dead h e2, e3⟩
  | lent i ds => exact r
  | feed => exact r
theorem RR.top (r : RR K g σ H G GF v rv) (h : FeedAt g G GF f) (e : rv.peek = some d) : Top K g G GF v d := by
  cases rv with
  | dat c =>
    cases e
    exact .inl r
  | own ds =>
    cases e
    obtain ⟨p, vs, e1, e2, e3, e4, e5⟩ := r
    exact .inr ⟨p, vs, ds, e1, rfl, ne_fa h e4, e4, e5⟩
  | lent i ds =>
    cases e
    obtain ⟨p, vs, e1, e0, e3, e4, e5⟩ := r
    exact .inr ⟨p, vs, ds, e1, rfl, ne_fa h e4, e4, e5⟩
  | feed => cases e
/-- a new list may be told as a datum from here on -/
theorem RR.frz (r : RR K g σ H G GF v rv) (h : FeedAt g G GF f) (s : Step g H HF G GF) (e : rv.data = some d) : ∃ IF, Step g H HF G IF ∧ FeedAt g G IF f ∧ DR K IF v d := by
  cases rv with
  | dat c =>
    cases e
    exact ⟨GF, s, h, r⟩
  | own ds =>
    cases e
    obtain ⟨p, vs, e1, e2, e3, e4, e5⟩ := r
    subst e1
    have np : g.fa ≠ p := fun q => ne_fa h e4 q.symm
    have l1 : Le GF (upd GF p (.lst vs)) := fun a o q => by
      rw [upd_ne (ne_of_none q e3)]
      exact q
    refine ⟨upd GF p (.lst vs), ⟨s.ext, s.le.trans l1, fun a x y => ?_, fun a o q => ?_⟩, ⟨h.d, ?_, ?_⟩, .lst upd_same (e5.mono l1)⟩
    · rw [upd_ne (fun z => x.some (by rw [z]; exact e2))]
      exact s.new a x y
    · by_cases z : a = p
      · subst z
        rw [upd_same] at q
        rw [e4]
        exact q
      · rw [upd_ne z] at q
        exact s.sub a o q
    · rw [upd_ne np]
      exact h.nf
    · rw [upd_ne (ne_of_none h.c e3)]
      exact h.c
  | lent i ds => cases e
  | feed => cases e
end
def Xd (K : PySem.W.Frag) (H HF : Hp) (od : Option Addr) (vs : List (Str × PyData)) : Prop := ∃ xs, XdH HF od xs ∧ xs.map (·.1) = vs.map (·.1) ∧ DRs K HF (xs.map (·.2)) (vs.map (·.2))
/-- what is wanted of an outcome -/
def ROk {α : Type} (K : PySem.W.Frag) (mg : Str → Option Value) (g : Gh) (H HF : Hp) (E : XK) (r : R α) (P : α → Feed → Prop) : Prop := match r with
  | .no => False
  | .ok a f => P a f
  | .ex c vs f => ∀ (C : Addr) (od : Option Addr) (G GF : Hp), mg c = some (.ref C) → Step g H HF G GF → FeedAt g G GF f → Xd K G GF od vs → E (.ref C) od G
def Fin (K : PySem.W.Frag) (g : Gh) (σ : St) (H HF : Hp) (Q : VK) (rv : RV) (f : Feed) : Prop := ∀ v G GF, Step g H HF G GF → FeedAt g G GF f → RR K g σ H G GF v rv → Q v G
abbrev Wish := St → XK
def tD (K : PySem.W.Frag) (mg : Str → Option Value) (W : Wish) (e : Ex) : TE := fun σ H Q => ∃ g HF ρ f, Rel K g σ H HF ρ f ∧ ROk K mg g H HF (W σ) (e ρ f) (Fin K g σ H HF Q)
section
variable {K : PySem.W.Frag} {mg : Str → Option Value} {W : Wish} {g : Gh} {σ : St} {H HF G GF : Hp} {ρ : Rho} {f f1 : Feed} {e e2 : Ex} {Q : VK} {E : XK}
theorem ROk.mono {α : Type} {r : R α} {P P2 : α → Feed → Prop} (h : ROk K mg g H HF E r P) (i : ∀ a f, P a f → P2 a f) : ROk K mg g H HF E r P2 := by
  cases r with
  | no => exact h
  | ok a f => exact i a f h
  | ex c vs f => exact h
theorem ROk.later {α : Type} {r : R α} {P : α → Feed → Prop} (h : ROk K mg g H HF E r P) (hf : FeedAt g G GF f) (s : Step g H HF G GF) : ROk K mg g G GF E r P := by
  cases r with
  | no => exact h
  | ok a f => exact h
  | ex c vs f => exact fun C od I IF q s2 h2 x => h C od I IF q (s.trans hf s2) h2 x
theorem ROk.of_bind {α β : Type} {r : R α} {k : α → Feed → R β} {P : β → Feed → Prop} (h : ROk K mg g H HF E (r.bind k) P) : ROk K mg g H HF E r fun a f => ROk K mg g H HF E (k a f) P := by
  cases r with
  | no => exact h
  | ok a f => exact h
  | ex c vs f => exact h
/-- an expression, then the rest -/
theorem tD_bind {β : Type} {k : RV → Feed → R β} {P : β → Feed → Prop} (r : Rel K g σ H HF ρ f) (h : ROk K mg g H HF (W σ) ((e ρ f).bind k) P)
    (c : ∀ rv f1 v G GF, Rel K g σ G GF ρ f1 → Step g H HF G GF → RR K g σ H G GF v rv → ROk K mg g G GF (W σ) (k rv f1) P → Q v G) : tD K mg W e σ H Q :=
  ⟨g, HF, ρ, f, r, h.of_bind.mono fun rv f1 q v G GF s hf rr => c rv f1 v G GF (r.step s hf) s rr (q.later hf s)⟩
def pk {β : Type} (r : R RV) (k : PyData → Feed → R β) : R β := r.bind fun rv f => match rv.peek with
  | some d => k d f
  | none => .no
def dt {β : Type} (r : R RV) (k : PyData → Feed → R β) : R β := r.bind fun rv f => match rv.data with
  | some d => k d f
  | none => .no
/-- .. read -/
theorem tD_pk {β : Type} {k : PyData → Feed → R β} {P : β → Feed → Prop} (r : Rel K g σ H HF ρ f) (h : ROk K mg g H HF (W σ) (pk (e ρ f) k) P)
    (c : ∀ d f1 v G GF, Rel K g σ G GF ρ f1 → Step g H HF G GF → Top K g G GF v d → ROk K mg g G GF (W σ) (k d f1) P → Q v G) : tD K mg W e σ H Q :=
  tD_bind r h fun rv f1 v G GF r1 s rr q => by
    cases z : rv.peek with
    | none =>
      simp only [z] at q
      exact q.elim
    | some d =>
      simp only [z] at q
      exact c d f1 v G GF r1 s (rr.top r1.feed z) q
/-- .. told as a datum -/
theorem tD_dt {β : Type} {k : PyData → Feed → R β} {P : β → Feed → Prop} (r : Rel K g σ H HF ρ f) (h : ROk K mg g H HF (W σ) (dt (e ρ f) k) P)
    (c : ∀ d f1 v G GF, Rel K g σ G GF ρ f1 → Step g H HF G GF → DR K GF v d → ROk K mg g G GF (W σ) (k d f1) P → Q v G) : tD K mg W e σ H Q :=
  ⟨g, HF, ρ, f, r, (ROk.of_bind h).mono fun rv f1 q v G GF s hf rr => by
    cases z : rv.data with
    | none =>
      simp only [z] at q
      exact (show False from q).elim
    | some d =>
      simp only [z] at q
      obtain ⟨IF, s2, h2, dr⟩ := rr.frz hf s z
      exact c d f1 v G IF (r.step s2 h2) s2 dr (q.later h2 s2)⟩
theorem pe_mono {X : Cx} {e : Expr} {t t2 : TE} (h : PE X e t) (i : ∀ σ H Q, t2 σ H Q → t σ H Q) : PE X e t2 := ⟨fun pins s σ H Q I q => h.run pins s σ H Q I (i σ H Q q)⟩
end
abbrev DE (X : Cx) (W : Wish) (e : Expr) (x : Ex) : Prop := PE X e (tD X.K X.mg W x)
def cC (d : PyData) : Ex := fun _ f => .ok (.dat d) f
def cVar (i : Nat) : Ex := fun ρ f => match ρ[i]? with
  | some (.dat d) => .ok (.dat d) f
  | some (.own ds) => .ok (.lent i ds) f
  | some .feed => .ok .feed f
  | some (.key ks) => .ok (.dat (.tuple (ks.map .int))) f
  | _ => .no
section
variable {X : Cx} {W : Wish}
theorem de_const {e : Expr} {v : V} {d : PyData} (h : PE X e (tC v)) (r : ∀ HF, DR X.K HF v d) : DE X W e (cC d) := pe_mono h fun σ H Q ⟨g, HF, ρ, f, rel, q⟩ =>
  (show Fin X.K g σ H HF Q (.dat d) f from q) v H HF (Step.refl rel.sub) rel.feed (r HF)
theorem de_int {i j pos} : DE X W (.Constant (.int i) j pos) (cC (.int i)) := de_const pe_int fun _ => .int i
theorem de_bl {b j pos} : DE X W (.Constant (.bool b) j pos) (cC (.bool b)) := de_const pe_bl fun _ => .bl b
theorem de_non {j pos} : DE X W (.Constant .none j pos) (cC .none) := de_const pe_non fun _ => .non
theorem de_str {x j pos} : DE X W (.Constant (.str x) j pos) (cC (.str x)) := de_const pe_str fun _ => .str x
theorem de_var {e : Expr} {i : Nat} (h : PE X e (tVar i)) : DE X W e (cVar i) := pe_mono h fun σ H Q ⟨g, HF, ρ, f, rel, q⟩ => by
  unfold cVar at q
  cases z : ρ[i]? with
  | none =>
    simp only [z] at q
    exact (show False from q).elim
  | some s =>
    have k := rel.slot i s z
    cases s with
    | emp =>
      simp only [z] at q
      exact (show False from q).elim
    | dat d =>
      simp only [z] at q
      obtain ⟨v, k1, k2⟩ := k
      exact ⟨v, k1, (show Fin X.K g σ H HF Q (.dat d) f from q) v H HF (Step.refl rel.sub) rel.feed k2⟩
    | own ds =>
      simp only [z] at q
      obtain ⟨p, vs, k1, k2, k3, k4, k5⟩ := k
      exact ⟨.ref p, k1, (show Fin X.K g σ H HF Q (.lent i ds) f from q) (.ref p) H HF (Step.refl rel.sub) rel.feed ⟨p, vs, rfl, k2, k3, k4, k5⟩⟩
    | feed =>
      simp only [z] at q
      exact ⟨.ref g.fa, k, (show Fin X.K g σ H HF Q .feed f from q) (.ref g.fa) H HF (Step.refl rel.sub) rel.feed rfl⟩
    | scr ns =>
      simp only [z] at q
      exact (show False from q).elim
    | dct k =>
      simp only [z] at q
      exact (show False from q).elim
    | brd k =>
      simp only [z] at q
      exact (show False from q).elim
    | key ks =>
      simp only [z] at q
      obtain ⟨a, k1, k2⟩ := k
      exact ⟨.ref a, k1, (show Fin X.K g σ H HF Q (.dat (.tuple (ks.map .int))) f from q) (.ref a) H HF (Step.refl rel.sub) rel.feed (.tup (.inl (.inl k2)) (DRs.ints ks))⟩
end
end Dn
end
section
set_option maxHeartbeats 4000000
namespace Dn
open PySem PySem.Spec L2
open PySem.AutoSeq1 (wpAny_loadPart')
open PyProof.Rows (IsTup)
theorem tup_mul_one (l : Addr) (its : Array Value) (n : Nat) (dd : Option Addr) (sl : Array (Option Value)) (x : Int) (u : Tok)
    (c0 : (decide (x < -(2 ^ 63)) || decide (x ≥ 2 ^ 63)) = false) (c1 : (its.isEmpty || x == 1) = true) :
    Meets (Builtin.«tuple.__mul__» ⟨[.ref l, .int x u], []⟩) (fun _ R s =>
      s.heap.get? l = some { cls := .type "tuple", dict := dd, data := .seq its n, slots := sl } ∧ R (.ok (.ret (.ref l))) s) :=
  .of_wp fun prog w A R s h => by
    obtain ⟨hp, g, d, tk, os⟩ := s
    obtain ⟨hl, h⟩ := h
    have f1 := AutoSeq1.idx_int
    wp_walk using wpAny_loadPart' hl
    repeat (first
      | (refine wpAny_ite_false (decide_eq_false (by rw [c0]; exact Bool.false_ne_true)) ?_; wp_walk using wpAny_loadPart' hl)
      | (refine wpAny_ite_true (decide_eq_true (by rw [c1])) ?_; wp_walk using wpAny_loadPart' hl))
    exact ⟨_, rfl, h⟩
theorem tup_mul_none (l : Addr) (its : Array Value) (n : Nat) (dd : Option Addr) (sl : Array (Option Value)) (x : Int) (u : Tok)
    (c0 : (decide (x < -(2 ^ 63)) || decide (x ≥ 2 ^ 63)) = false) (c1 : (its.isEmpty || x == 1) = false) (c2 : (decide (x ≤ 0) || its.isEmpty) = true) :
    Meets (Builtin.«tuple.__mul__» ⟨[.ref l, .int x u], []⟩) (fun _ R s =>
      s.heap.get? l = some { cls := .type "tuple", dict := dd, data := .seq its n, slots := sl } ∧
        R (.ok (.ret (.ref s.heap.objs.size))) { s with heap := s.heap.push { cls := .type "tuple", data := .seq #[] }, toks := s.toks }) :=
  .of_wp fun prog w A R s h => by
    obtain ⟨hp, g, d, tk, os⟩ := s
    obtain ⟨hl, h⟩ := h
    have f1 := AutoSeq1.idx_int
    wp_walk using wpAny_loadPart' hl
    repeat (first
      | (refine wpAny_ite_false (decide_eq_false (by rw [c0]; exact Bool.false_ne_true)) ?_; wp_walk using wpAny_loadPart' hl)
      | (refine wpAny_ite_false (decide_eq_false (by rw [c1]; exact Bool.false_ne_true)) ?_; wp_walk using wpAny_loadPart' hl)
      | (refine wpAny_ite_true (decide_eq_true (by rw [c2])) ?_; wp_walk using wpAny_loadPart' hl))
    exact ⟨_, rfl, h⟩
def rRep1 (K : PySem.W.Frag) : R2 := fun x y H Q => ∃ l k xs, x = .ref l ∧ y = .int k ∧ SqT K H l xs ∧ -(2 ^ 60) ≤ k ∧ k ≤ 2 ^ 60 ∧ (xs = [] ∨ k ≤ 1) ∧
  ((xs = [] ∨ k = 1) → Q (.ref l) H) ∧ (xs ≠ [] → k ≤ 0 → ∀ p, H p = none → Q (.ref p) (upd H p (.tup [])))
theorem op_rep1 {X : Cx} : OpR X (binaryOp .Mult) (rRep1 X.K) := by
  intro pins s σ H x y v u Q I rx ry h
  obtain ⟨l, k, xs, rfl, rfl, hT, h1, h2, h3, q1, q2⟩ := h
  cases rx
  obtain ⟨t, rfl⟩ := ry
  obtain ⟨its, r, ⟨⟨cls, dd, data, sl⟩, ho, hc, n, hd⟩, hs⟩ := I.tuple hT
  simp only at hc hd
  subst hc hd
  have c0 : (decide (k < -(2 ^ 63)) || decide (k ≥ 2 ^ 63)) = false := by
    rw [decide_eq_false (by omega), decide_eq_false (by omega)] <;> rfl
  have emp : its.toArray.isEmpty = true ↔ xs = [] := by
    constructor
    · intro e
      cases its with
      | nil => cases r; rfl
      | cons a b => simp at e
    · intro e
      subst e
      cases r
      rfl
  by_cases c : xs = [] ∨ k = 1
  · have c1 : (its.toArray.isEmpty || k == 1) = true := by
      rcases c with c | c
      · rw [emp.mpr c]; rfl
      · rw [c]; simp
    refine wpAny_binaryOp_repeat_ref (T := "tuple") (U := "int") (by decide) ⟨_, ho, rfl⟩ (fun s' => typeIs_int s' k t) noFill_tuple_mul F.fills_int_mul F.slot_int_rmul repeat_tuple F.slot_int_index.lookup
      (call_meets F.slot_int_rmul (typeIs_int s k t) F.entry_int_rmul (F.args_int_rmul_2 _ _) (int_rmul_tuple k t l its.toArray n dd sl)
        ⟨ho, rfl, ⟨_, ho, rfl⟩, call_meets F.slot_tuple_mul ⟨_, ho, rfl⟩ F.entry_tuple_mul (F.args_tuple_mul_2 _ _) (tup_mul_one l its.toArray n dd sl k t c0 c1) ⟨ho, ?_⟩⟩)
    exact ⟨.ref l, H, I, rfl, q1 c⟩
  · have nx : xs ≠ [] := fun e => c (.inl e)
    have nk : k ≠ 1 := fun e => c (.inr e)
    have ie : its.toArray.isEmpty = false := by
      cases z : its.toArray.isEmpty with
      | false => rfl
      | true => exact absurd (emp.mp z) nx
    have c1 : (its.toArray.isEmpty || k == 1) = false := by
      rw [ie, Bool.false_or]
      exact beq_eq_false_iff_ne.mpr nk
    have c2 : (decide (k ≤ 0) || its.toArray.isEmpty) = true := by
      rw [decide_eq_true (show k ≤ 0 by rcases h3 with h3 | h3; exact absurd h3 nx; omega)]; rfl
    refine wpAny_binaryOp_repeat_ref (T := "tuple") (U := "int") (by decide) ⟨_, ho, rfl⟩ (fun s' => typeIs_int s' k t) noFill_tuple_mul F.fills_int_mul F.slot_int_rmul repeat_tuple F.slot_int_index.lookup
      (call_meets F.slot_int_rmul (typeIs_int s k t) F.entry_int_rmul (F.args_int_rmul_2 _ _) (int_rmul_tuple k t l its.toArray n dd sl)
        ⟨ho, rfl, ⟨_, ho, rfl⟩, call_meets F.slot_tuple_mul ⟨_, ho, rfl⟩ F.entry_tuple_mul (F.args_tuple_mul_2 _ _) (tup_mul_none l its.toArray n dd sl k t c0 c1 c2) ⟨ho, ?_⟩⟩)
    refine ⟨.ref s.heap.objs.size, _, I.laid (t' := s.toks) (o := .tup []) (fun b ob q => Heap.get?_push_of_some _ q) (Nat.le_refl _) ?_, rfl, q2 nx (by rcases h3 with h3 | h3; exact absurd h3 nx; omega) _ (I.hok.fresh (Nat.le_refl _))⟩
    exact ⟨Nat.zero_le _, _, .nil, IsTup.new _ _⟩
end Dn
end
section
set_option maxHeartbeats 4000000
namespace Dn
open PySem PySem.Spec L2
abbrev Op2 := PyData → PyData → Option RV
abbrev Op1 := PyData → Option RV
def give (o : Option RV) (f : Feed) : R RV := match o with
  | some rv => .ok rv f
  | none => .no
def cBin (o : Op2) (a b : Ex) : Ex := fun ρ f => pk (a ρ f) fun x f1 => pk (b ρ f1) fun y f2 => give (o x y) f2
def cUn (o : Op1) (a : Ex) : Ex := fun ρ f => pk (a ρ f) fun x f1 => give (o x) f1
/-- what an operation's reading needs -/
structure At (K : PySem.W.Frag) (g : Gh) (H HF : Hp) (f : Feed) : Prop where
  sub : Le HF H
  feed : FeedAt g H HF f
def Ends1 (K : PySem.W.Frag) (g : Gh) (H HF : Hp) (f : Feed) (rv : RV) (Q : VK) : Prop := ∀ v G GF, Step g H HF G GF → FeedAt g G GF f → RR K g [] H G GF v rv → Q v G
def BinOk (K : PySem.W.Frag) (r : R2) (o : Op2) : Prop := ∀ g H HF f x y d e rv, At K g H HF f → Top K g H HF x d → Top K g H HF y e → o d e = some rv → ∀ Q, Ends1 K g H HF f rv Q → r x y H Q
def UnOk (K : PySem.W.Frag) (r : V → Hp → VK → Prop) (o : Op1) : Prop := ∀ g H HF f x d rv, At K g H HF f → Top K g H HF x d → o d = some rv → ∀ Q, Ends1 K g H HF f rv Q → r x H Q
theorem RR.any {K : PySem.W.Frag} {g : Gh} {σ : St} {H G GF : Hp} {v : V} {rv : RV} (r : RR K g [] H G GF v rv) : RR K g σ H G GF v rv := by
  cases rv with
  | dat d => exact r
  | own ds => exact r
  | lent i ds => exact r
  | feed => exact r
section
variable {X : Cx} {W : Wish} {K : PySem.W.Frag} {mg : Str → Option Value} {fa fb : Ex} {r r2 : R2} {o o2 : Op2}
theorem give_end {g : Gh} {σ : St} {H HF G GF : Hp} {f : Feed} {E : XK} {Q : VK} {x : Option RV} (rel : FeedAt g G GF f) (st : Step g H HF G GF)
    (q : ROk K mg g G GF E (give x f) (Fin K g σ H HF Q)) : ∃ rv, x = some rv ∧ Ends1 K g G GF f rv Q := by
  cases x with
  | none => exact (show False from q).elim
  | some rv => exact ⟨rv, rfl, fun v I IF s h rr => (show Fin K g σ H HF Q rv f from q) v I IF (st.trans rel s) h (rr.any.back rel st)⟩
theorem bin_read (hb : BinOk K r o) {σ : St} {H : Hp} {Q : VK} (h : tD K mg W (cBin o fa fb) σ H Q) : tOp r (tD K mg W fa) (tD K mg W fb) σ H Q := by
  obtain ⟨g, HF, ρ, f, rel, q⟩ := h
  refine tD_pk rel q fun d f1 x G GF r1 s1 t1 q1 => tD_pk r1 q1 fun e f2 y I IF r2 s2 t2 q2 => ?_
  obtain ⟨rv, z, k⟩ := give_end r2.feed (s1.trans r1.feed s2) q2
  exact hb g I IF f2 x y d e rv ⟨r2.sub, r2.feed⟩ (t1.step s2) t2 z Q k
theorem un_read {r : V → Hp → VK → Prop} {o : Op1} (hb : UnOk K r o) {σ : St} {H : Hp} {Q : VK} (h : tD K mg W (cUn o fa) σ H Q) : tUn r (tD K mg W fa) σ H Q := by
  obtain ⟨g, HF, ρ, f, rel, q⟩ := h
  refine tD_pk rel q fun d f1 x G GF r1 s1 t1 q1 => ?_
  obtain ⟨rv, z, k⟩ := give_end r1.feed s1 q1
  exact hb g G GF f1 x d rv ⟨r1.sub, r1.feed⟩ t1 z Q k
theorem BinOk.or (h : BinOk K r o) (h2 : BinOk K r2 o2) : BinOk K (fun x y H Q => r x y H Q ∨ r2 x y H Q) fun d e => (o d e).or (o2 d e) := fun g H HF f x y d e rv a t u z Q k => by
  replace z : (o d e).or (o2 d e) = some rv := z
  cases q : o d e with
  | some w =>
    rw [q] at z
    exact .inl (h g H HF f x y d e rv a t u (q.trans z) Q k)
  | none =>
    rw [q] at z
    exact .inr (h2 g H HF f x y d e rv a t u z Q k)
theorem de_bin {op : Operator} {a b : Expr} {pos : Pos} (ho : OpR X (binaryOp op) r) (hb : BinOk X.K r o) (ha : DE X W a fa) (hc : DE X W b fb) : DE X W (.BinOp a op b pos) (cBin o fa fb) :=
  pe_mono (pe_op ho ha hc) fun _ _ _ h => bin_read hb h
theorem de_un {op : UnaryOp} {a : Expr} {pos : Pos} {r : V → Hp → VK → Prop} {o : Op1} (ho : UnR X (unaryOp op) r) (hb : UnOk X.K r o) (ha : DE X W a fa) : DE X W (.UnaryOp op a pos) (cUn o fa) :=
  pe_mono (pe_un ho ha) fun _ _ _ h => un_read hb h
theorem de_cmp {op : CmpOp} {a b : Expr} {pos : Pos} (ho : OpR X (compareOp op) r) (hb : BinOk X.K r o) (ha : DE X W a fa) (hc : DE X W b fb) (hm : behindInMarks op b = false) : DE X W (.Compare a [op] [b] pos) (cBin o fa fb) :=
  pe_mono (pe_cmpR ho ha hc hm) fun _ _ _ h => bin_read hb h
end
section
variable {K : PySem.W.Frag} {g : Gh} {H HF : Hp} {v : V}
theorem Top.int {i : Int} (t : Top K g H HF v (.int i)) : v = .int i := by
  rcases t with h | ⟨p, vs, ds, e1, e2, e3⟩
  · cases h; rfl
  · cases e2
theorem Top.bl {b : Bool} (t : Top K g H HF v (.bool b)) : v = .bl b := by
  rcases t with h | ⟨p, vs, ds, e1, e2, e3⟩
  · cases h; rfl
  · cases e2
theorem Top.str {x : Str} (t : Top K g H HF v (.str x)) : v = .str x := by
  rcases t with h | ⟨p, vs, ds, e1, e2, e3⟩
  · cases h; rfl
  · cases e2
theorem Top.non (t : Top K g H HF v .none) : v = .non := by
  rcases t with h | ⟨p, vs, ds, e1, e2, e3⟩
  · cases h; rfl
  · cases e2
theorem Top.lst {ds : List PyData} (t : Top K g H HF v (.list ds)) (l : Le HF H) : ∃ p vs, v = .ref p ∧ H p = some (.lst vs) ∧ DRs K HF vs ds := by
  rcases t with h | ⟨p, vs, es, e1, e2, e3, e4, e5⟩
  · cases h with
    | lst h r => exact ⟨_, _, rfl, l _ _ h, r⟩
  · cases e2
    exact ⟨p, vs, e1, e4, e5⟩
theorem Top.tup {ds : List PyData} (t : Top K g H HF v (.tuple ds)) : ∃ p vs, v = .ref p ∧ SqT K HF p vs ∧ DRs K HF vs ds := by
  rcases t with h | ⟨p, vs, es, e1, e2, e3⟩
  · cases h with
    | tup h r => exact ⟨_, _, rfl, h, r⟩
  · cases e2
end
section
variable {K : PySem.W.Frag} {g : Gh} {H HF : Hp} {f : Feed} {Q : VK}
theorem Ends1.now {v : V} {d : PyData} (a : At K g H HF f) (k : Ends1 K g H HF f (.dat d) Q) (r : DR K HF v d) : Q v H := k v H HF (Step.refl a.sub) a.feed r
/-- a new tuple -/
theorem Ends1.newT {vs : List V} {ds : List PyData} (a : At K g H HF f) (k : Ends1 K g H HF f (.dat (.tuple ds)) Q) (r : DRs K HF vs ds) (p : Addr) (hp : H p = none) : Q (.ref p) (upd H p (.tup vs)) := by
  have hf : HF p = none := by
    cases z : HF p with
    | none => rfl
    | some o => rw [a.sub _ _ z] at hp; cases hp
  have l : Le HF (upd HF p (.tup vs)) := fun b o e => by
    rw [upd_ne (ne_of_none e hf)]
    exact e
  refine k (.ref p) (upd H p (.tup vs)) (upd HF p (.tup vs)) ⟨fun b o _ e => ?_, l, fun b x y => ?_, fun b o e => ?_⟩ ⟨?_, ?_, ?_⟩ (.tup (.inl (.inl upd_same)) (r.mono l))
  · rw [upd_ne (ne_of_none e hp)]
    exact e
  · rw [upd_ne (fun z => x.some (by rw [z]; exact hp))]
    exact y
  · by_cases z : b = p
    · subst z
      rw [upd_same] at e ⊢
      exact e
    · rw [upd_ne z] at e ⊢
      exact a.sub _ _ e
  · rw [upd_ne (ne_of_none a.feed.d hp)]
    exact a.feed.d
  · rw [upd_ne (ne_of_none a.feed.d hp)]
    exact a.feed.nf
  · exact l _ _ a.feed.c
/-- a new list -/
theorem Ends1.newL {vs : List V} {ds : List PyData} (a : At K g H HF f) (k : Ends1 K g H HF f (.own ds) Q) (r : DRs K HF vs ds) (p : Addr) (hp : H p = none) : Q (.ref p) (upd H p (.lst vs)) := by
  have hf : HF p = none := by
    cases z : HF p with
    | none => rfl
    | some o => rw [a.sub _ _ z] at hp; cases hp
  refine k (.ref p) (upd H p (.lst vs)) HF ⟨fun b o _ e => ?_, Le.refl _, fun b x y => y, fun b o e => ?_⟩ ⟨?_, a.feed.nf, a.feed.c⟩ ⟨p, vs, rfl, hp, hf, upd_same, r⟩
  · rw [upd_ne (ne_of_none e hp)]
    exact e
  · rw [upd_ne (ne_of_none e hf)]
    exact a.sub _ _ e
  · rw [upd_ne (ne_of_none a.feed.d hp)]
    exact a.feed.d
end
def intsOp (c : Int → Int → Bool) (h : Int → Int → PyData) : Op2
  | .int i, .int j => if c i j then some (.dat (h i j)) else none
  | _, _ => none
theorem intsOp_ok {K : PySem.W.Frag} {C : Int → Int → Prop} {c : Int → Int → Bool} {h : Int → Int → Int} (hc : ∀ i j, c i j = true → C i j) : BinOk K (rI C fun i j => .int (h i j)) (intsOp c fun i j => .int (h i j)) :=
  fun g H HF f x y d e rv a t u z Q k => by
    cases d <;> cases e <;> try cases z
    rename_i i j
    unfold intsOp at z
    cases q : c i j with
    | false =>
      simp only [q] at z
      exact absurd z (by simp)
    | true =>
      simp only [q, if_true] at z
      cases z
      exact ⟨i, j, t.int, u.int, hc i j q, k.now a (.int _)⟩
theorem intsB_ok {K : PySem.W.Frag} {h : Int → Int → Bool} : BinOk K (rI0 fun i j => .bl (h i j)) (intsOp (fun _ _ => true) fun i j => .bool (h i j)) :=
  fun g H HF f x y d e rv a t u z Q k => by
    cases d <;> cases e <;> try cases z
    rename_i i j
    exact ⟨i, j, t.int, u.int, k.now a (.bl _)⟩
theorem intsI_ok {K : PySem.W.Frag} {h : Int → Int → Int} : BinOk K (rI0 fun i j => .int (h i j)) (intsOp (fun _ _ => true) fun i j => .int (h i j)) :=
  fun g H HF f x y d e rv a t u z Q k => by
    cases d <;> cases e <;> try cases z
    rename_i i j
    exact ⟨i, j, t.int, u.int, k.now a (.int _)⟩
def mulC (i j : Int) : Bool := decide (i.natAbs.log2 + j.natAbs.log2 < 1000000)
def divC (_ j : Int) : Bool := decide (0 < j) && decide (j.natAbs.log2 < 9000)
def modC (_ j : Int) : Bool := decide (0 < j)
def powC (i j : Int) : Bool := decide (0 ≤ j) && decide (j ≤ 1000000) && decide (i.natAbs < 2 ^ 64)
def oSub : Op2 := intsOp (fun _ _ => true) fun i j => .int (i - j)
def oDiv : Op2 := intsOp divC fun i j => .int (i / j)
def oMod : Op2 := intsOp modC fun i j => .int (i % j)
def oPow : Op2 := intsOp powC fun i j => .int (i ^ j.toNat)
/-- + -/
def catL : Op2
  | .list xs, .list ys => if xs.length + ys.length ≤ 100000 then some (.own (xs ++ ys)) else none
  | _, _ => none
def catT : Op2
  | .tuple xs, .tuple ys => if xs.length + ys.length ≤ 100000 then some (.dat (.tuple (xs ++ ys))) else none
  | _, _ => none
def catS : Op2
  | .str xs, .str ys => if xs.length + ys.length ≤ 100000 then some (.dat (.str (xs ++ ys))) else none
  | _, _ => none
def oAdd : Op2 := fun d e => (intsOp (fun _ _ => true) (fun i j => .int (i + j)) d e).or ((catL d e).or ((catT d e).or (catS d e)))
theorem ite_some {c : Prop} [Decidable c] {a b : RV} (h : (if c then some a else none) = some b) : c ∧ a = b := by
  by_cases q : c
  · rw [if_pos q] at h
    exact ⟨q, Option.some.inj h⟩
  · rw [if_neg q] at h
    cases h
theorem line5 {n : Nat} (h : n ≤ 100000) : n ≤ sizeLine := Nat.le_trans h (by decide)
theorem catL_ok {K : PySem.W.Frag} : BinOk K rCat catL := fun g H HF f x y d e rv a t u z Q k => by
  cases d <;> cases e <;> try cases z
  rename_i xs ys
  · obtain ⟨hl, rfl⟩ := ite_some (show (if _ then some _ else none) = some rv from z)
    obtain ⟨p, vs, rfl, hp, rp⟩ := t.lst a.sub
    obtain ⟨q, ws, rfl, hq, rq⟩ := u.lst a.sub
    exact ⟨p, q, vs, ws, rfl, rfl, hp, hq, by rw [rp.length, rq.length]; exact line5 hl, fun n hn => k.newL a (rp.append rq) n hn⟩
theorem catT_ok {K : PySem.W.Frag} : BinOk K (rCatA K) catT := fun g H HF f x y d e rv a t u z Q k => by
  cases d <;> cases e <;> try cases z
  rename_i xs ys
  · obtain ⟨hl, rfl⟩ := ite_some (show (if _ then some _ else none) = some rv from z)
    obtain ⟨p, vs, rfl, hp, rp⟩ := t.tup
    obtain ⟨q, ws, rfl, hq, rq⟩ := u.tup
    refine ⟨p, q, vs, ws, rfl, rfl, a.sub.sqT hp, a.sub.sqT hq, by rw [rp.length, rq.length]; exact line5 hl, fun e1 => ?_, fun _ e1 => ?_, fun _ _ n hn => k.newT a (rp.append rq) n hn⟩
    · subst e1
      cases rp
      exact k.now a (.tup hq rq)
    · subst e1
      cases rq
      rw [List.append_nil] at k
      exact k.now a (.tup hp rp)
theorem catS_ok {K : PySem.W.Frag} : BinOk K (fun x y H Q => ∃ i j, x = .str i ∧ y = .str j ∧ i.length + j.length ≤ sizeLine ∧ Q (.str (i ++ j)) H) catS := fun g H HF f x y d e rv a t u z Q k => by
  cases d <;> cases e <;> try cases z
  rename_i xs ys
  · obtain ⟨hl, rfl⟩ := ite_some (show (if _ then some _ else none) = some rv from z)
    exact ⟨xs, ys, t.str, u.str, line5 hl, k.now a (.str _)⟩
/-- * -/
def repL : Op2
  | .list xs, .int k => if -1000 ≤ k ∧ k ≤ 1000 ∧ xs.length ≤ 1000 then some (.own (List.replicate k.toNat xs).flatten) else none
  | _, _ => none
def repT : Op2
  | .tuple xs, .int k => if -1000 ≤ k ∧ k ≤ 1000 ∧ xs.length ≤ 1000 then some (.dat (.tuple (List.replicate k.toNat xs).flatten)) else none
  | _, _ => none
def oMul : Op2 := fun d e => (intsOp mulC (fun i j => .int (i * j)) d e).or ((repL d e).or (repT d e))
theorem repL_ok {K : PySem.W.Frag} : BinOk K rRep repL := fun g H HF f x y d e rv a t u z Q k => by
  cases d <;> cases e <;> try cases z
  rename_i xs i
  · obtain ⟨hl, rfl⟩ := ite_some (show (if _ then some _ else none) = some rv from z)
    obtain ⟨p, vs, rfl, hp, rp⟩ := t.lst a.sub
    have hz : vs.length * i.toNat ≤ 1000 * 1000 := Nat.mul_le_mul (by rw [rp.length]; exact hl.2.2) (by omega)
    exact ⟨p, i, vs, rfl, u.int, hp, by omega, by omega, Nat.le_trans hz (by decide), fun n hn => k.newL a (rp.rep i.toNat) n hn⟩
def rRepA (K : PySem.W.Frag) : R2 := fun x y H Q => rRep1 K x y H Q ∨ rRepT K x y H Q
theorem op_repA {X : Cx} : OpR X (binaryOp .Mult) (rRepA X.K) := op_rep1.or op_repT
theorem repT_ok {K : PySem.W.Frag} : BinOk K (rRepA K) repT := fun g H HF f x y d e rv a t u z Q k => by
  cases d <;> cases e <;> try cases z
  rename_i xs i
  · obtain ⟨hl, rfl⟩ := ite_some (show (if _ then some _ else none) = some rv from z)
    obtain ⟨p, vs, rfl, hp, rp⟩ := t.tup
    have hv := rp.length
    have e0 : ∀ n : Nat, (List.replicate n ([] : List PyData)).flatten = [] := fun n => by
      induction n with
      | zero => rfl
      | succ n ih => rw [List.replicate_succ, List.flatten_cons, ih]; rfl
    by_cases c : vs = [] ∨ i ≤ 1
    · refine .inl ⟨p, i, vs, rfl, u.int, a.sub.sqT hp, by omega, by omega, c, fun h => ?_, fun h1 h2 n hn => ?_⟩
      · rcases h with h | h
        · subst h
          cases rp
          rw [e0] at k
          exact k.now a (.tup hp .nil)
        · subst h
          have e1 : (List.replicate (1 : Int).toNat xs).flatten = xs := by
            show (List.replicate 1 xs).flatten = xs
            simp
          rw [e1] at k
          exact k.now a (.tup hp rp)
      · have e2 : i.toNat = 0 := by omega
        rw [e2] at k
        exact k.newT a .nil n hn
    · have hx : vs ≠ [] := fun q => c (.inl q)
      have hi : ¬ i ≤ 1 := fun q => c (.inr q)
      exact .inr ⟨p, i, vs, rfl, u.int, a.sub.sqT hp, hx, by omega, by omega, by rw [hv]; exact hl.2.2, fun n hn => k.newT a (rp.rep i.toNat) n hn⟩
end Dn
end
section
set_option maxHeartbeats 4000000
namespace Dn
open PySem PySem.Spec L2
mutual
theorem DR.dp {K : PySem.W.Frag} {H : Hp} : ∀ {v : V} {d : PyData}, DR K H v d → d.canLay0 = true → Dp K H v d
  | _, _, .non, _ => .non
  | _, _, .bl b, _ => .bl b
  | _, _, .int i, _ => .int i
  | _, _, .str x, _ => .str x
  | _, _, .lst h r, c => .lst (.inl (.inl h)) (DRs.dp r (by simpa [PyData.canLay0] using c))
  | _, _, .tup h r, c => .tup h (DRs.dp r (by simpa [PyData.canLay0] using c))
  | _, _, .dic _ _ _, c => by simp [PyData.canLay0] at c
  | _, _, .exc _ _ _ _, c => by simp [PyData.canLay0] at c
  | _, _, .dit _ _ _, c => by simp [PyData.canLay0] at c
theorem DRs.dp {K : PySem.W.Frag} {H : Hp} : ∀ {vs : List V} {ds : List PyData}, DRs K H vs ds → PyData.canLayAll0 ds = true → DpAll K H vs ds
  | _, _, .nil, _ => .nil
  | _, _, .cons h r, c => by
    have c2 := Bool.and_eq_true_iff.mp (show (PyData.canLay0 _ && PyData.canLayAll0 _) = true from c)
    exact .cons (DR.dp h c2.1) (DRs.dp r c2.2)
end
theorem Top.dp {K : PySem.W.Frag} {g : Gh} {H HF : Hp} {v : V} {d : PyData} (t : Top K g H HF v d) (l : Le HF H) (c : SeqAt.shaped d = true) : Dp K H v d := by
  have c0 := SeqAt.canLay_of_shaped c
  rcases t with h | ⟨p, vs, ds, rfl, rfl, _, h4, h5⟩
  · exact (h.mono l).dp c0
  · exact .lst (.inl (.inl h4)) ((h5.mono l).dp (by simpa [PyData.canLay0] using c0))
def eqD : Op2 := fun d e => if SeqAt.shaped d && SeqAt.shaped e then some (.dat (.bool (PyData.eqv d e))) else none
def neD : Op2 := fun d e => if SeqAt.shaped d && SeqAt.shaped e then some (.dat (.bool (!PyData.eqv d e))) else none
section
variable {K : PySem.W.Frag}
theorem eqD_ok : BinOk K (rEqD K) eqD := fun g H HF f x y d e rv a t u z Q k => by
  obtain ⟨c, rfl⟩ := ite_some z
  obtain ⟨c1, c2⟩ := Bool.and_eq_true_iff.mp c
  exact ⟨d, e, t.dp a.sub c1, u.dp a.sub c2, c1, c2, k.now a (.bl _)⟩
theorem neD_ok : BinOk K (rNeD K) neD := fun g H HF f x y d e rv a t u z Q k => by
  obtain ⟨c, rfl⟩ := ite_some z
  obtain ⟨c1, c2⟩ := Bool.and_eq_true_iff.mp c
  exact ⟨d, e, t.dp a.sub c1, u.dp a.sub c2, c1, c2, k.now a (.bl _)⟩
end
/-- texts of any signs -/
def eqS : Op2
  | .str i, .str j => some (.dat (.bool (decide (i = j))))
  | _, _ => none
def neS : Op2
  | .str i, .str j => some (.dat (.bool (!decide (i = j))))
  | _, _ => none
theorem dec_strV {i j : Str} : decide (V.str i = V.str j) = decide (i = j) := by
  rw [Bool.eq_iff_iff]
  simp
theorem eqS_ok {K : PySem.W.Frag} : BinOk K rEq eqS := fun g H HF f x y d e rv a t u z Q k => by
  cases d <;> cases e <;> try cases z
  rw [t.str, u.str]
  refine ⟨rfl, ?_⟩
  rw [dec_strV]
  exact k.now a (.bl _)
theorem neS_ok {K : PySem.W.Frag} : BinOk K rNe neS := fun g H HF f x y d e rv a t u z Q k => by
  cases d <;> cases e <;> try cases z
  rw [t.str, u.str]
  refine ⟨rfl, ?_⟩
  rw [dec_strV]
  exact k.now a (.bl _)
def oEq : Op2 := fun d e => (eqS d e).or (eqD d e)
def oNe : Op2 := fun d e => (neS d e).or (neD d e)
theorem oEq_ok {K : PySem.W.Frag} : BinOk K (fun x y H Q => rEq x y H Q ∨ rEqD K x y H Q) oEq := eqS_ok.or eqD_ok
theorem oNe_ok {K : PySem.W.Frag} : BinOk K (fun x y H Q => rNe x y H Q ∨ rNeD K x y H Q) oNe := neS_ok.or neD_ok
def cmpI (h : Int → Int → Bool) : Op2 := intsOp (fun _ _ => true) fun i j => .bool (h i j)
def oLt : Op2 := cmpI fun i j => decide (i < j)
def oLe : Op2 := cmpI fun i j => decide (i ≤ j)
def oGt : Op2 := cmpI fun i j => decide (j < i)
def oGe : Op2 := cmpI fun i j => decide (j ≤ i)
def intsOf : List PyData → Option (List Int)
  | [] => some []
  | .int i :: r => (intsOf r).map (i :: ·)
  | _ :: _ => none
def leN (ns ms : List Int) : Bool := Ob.lexAt (fun j => decide (ns.getD j 0 = ms.getD j 0)) (fun j => decide (ns.getD j 0 ≤ ms.getD j 0)) (decide (ns.length ≤ ms.length)) 0 (min ns.length ms.length)
def leT : Op2
  | .tuple xs, .tuple ys => match intsOf xs, intsOf ys with
    | some ns, some ms => some (.dat (.bool (leN ns ms)))
    | _, _ => none
  | _, _ => none
def oLeA : Op2 := fun d e => (oLe d e).or (leT d e)
theorem intsOf_some : ∀ {ds : List PyData} {ns : List Int}, intsOf ds = some ns → ds = ns.map PyData.int
  | [], ns, h => by cases h; rfl
  | d :: r, ns, h => by
    cases d <;> try cases h
    rename_i i
    cases q : intsOf r with
    | none =>
      simp only [intsOf, q] at h
      cases h
    | some ms =>
      simp only [intsOf, q] at h
      cases h
      rw [List.map_cons, ← intsOf_some q]
theorem DRs.toInts {K : PySem.W.Frag} {H : Hp} : ∀ {ns : List Int} {vs : List V}, DRs K H vs (ns.map PyData.int) → vs = ns.map V.int
  | [], _, .nil => rfl
  | n :: r, _, .cons h t => by
    cases h
    rw [List.map_cons, ← DRs.toInts t]
def flatD : PyData → Bool
  | .none => true
  | .bool _ => true
  | .int _ => true
  | .str _ => true
  | _ => false
theorem flat_v {K : PySem.W.Frag} {H : Hp} {v : V} {d : PyData} (r : DR K H v d) (h : flatD d = true) : flatV v = true := by
  cases r <;> first | rfl | cases h
theorem flat_vs {K : PySem.W.Frag} {H : Hp} : ∀ {vs : List V} {ds : List PyData}, DRs K H vs ds → ds.all flatD = true → vs.all flatV = true
  | _, _, .nil, _ => rfl
  | _, _, .cons h r, c => by
    rw [List.all_cons, Bool.and_eq_true] at c ⊢
    exact ⟨flat_v h c.1, flat_vs r c.2⟩
theorem flat_eq {K : PySem.W.Frag} {H : Hp} {v w : V} {d e : PyData} (r : DR K H v d) (s : DR K H w e) (h : flatD d = true) (h2 : flatD e = true) : eqV v w = PyData.eqv d e := by
  cases r <;> cases s <;> first
    | exact absurd h (by decide)
    | exact absurd h2 (by decide)
    | exact absurd h Bool.false_ne_true
    | exact absurd h2 Bool.false_ne_true
    | rfl
    | simp only [eqV, PyData.eqv]
theorem flat_any {K : PySem.W.Frag} {H : Hp} {w : V} {e : PyData} (s : DR K H w e) (h2 : flatD e = true) : ∀ {vs : List V} {ds : List PyData}, DRs K H vs ds → ds.all flatD = true → inV w vs = ds.any fun y => PyData.eqv y e
  | _, _, .nil, _ => rfl
  | _, _, .cons h r, c => by
    rw [List.all_cons, Bool.and_eq_true] at c
    have ih := flat_any s h2 r c.2
    unfold inV at ih ⊢
    rw [List.any_cons, List.any_cons, ih, flat_eq h s c.1 h2]
def seqOf : PyData → Option (List PyData)
  | .list xs => some xs
  | .tuple xs => some xs
  | _ => none
def oInF (neg : Bool) : Op2 := fun d e => match seqOf e with
  | some ys => if flatD d && ys.all flatD then some (.dat (.bool (if neg then !(ys.any fun y => PyData.eqv y d) else ys.any fun y => PyData.eqv y d))) else none
  | none => none
theorem Top.seq {K : PySem.W.Frag} {g : Gh} {H HF : Hp} {v : V} {e : PyData} {ds : List PyData} (t : Top K g H HF v e) (l : Le HF H) (h : seqOf e = some ds) : ∃ p vs, v = .ref p ∧ (SqL K H p vs ∨ SqT K H p vs) ∧ DRs K HF vs ds := by
  cases e <;> try cases h
  · obtain ⟨p, vs, e1, e2, e3⟩ := t.lst l
    exact ⟨p, vs, e1, .inl (.inl (.inl e2)), e3⟩
  · obtain ⟨p, vs, e1, e2, e3⟩ := t.tup
    exact ⟨p, vs, e1, .inr (l.sqT e2), e3⟩
theorem Top.flat {K : PySem.W.Frag} {g : Gh} {H HF : Hp} {v : V} {d : PyData} (t : Top K g H HF v d) (h : flatD d = true) : DR K HF v d := by
  rcases t with t | ⟨p, vs, ds, e1, e2, _⟩
  · exact t
  · subst e2
    cases h
theorem oInF_ok {K : PySem.W.Frag} {neg : Bool} : BinOk K (rIn K neg) (oInF neg) := fun g H HF f x y d e rv a t u z Q k => by
  unfold oInF at z
  cases q : seqOf e with
  | none =>
    simp only [q] at z
    cases z
  | some ys =>
    simp only [q] at z
    obtain ⟨c, rfl⟩ := ite_some z
    obtain ⟨c1, c2⟩ := Bool.and_eq_true_iff.mp c
    obtain ⟨p, vs, rfl, hp, rp⟩ := u.seq a.sub q
    have td := t.flat c1
    refine ⟨p, vs, rfl, hp, flat_v td c1, flat_vs rp c2, ?_⟩
    rw [flat_any td c1 rp c2]
    exact k.now a (.bl _)
def isNone : PyData → Bool
  | .none => true
  | _ => false
def oIsN (neg : Bool) : Op2 := fun d e => match e with
  | .none => some (.dat (.bool (if neg then !isNone d else isNone d)))
  | _ => none
def oIsB (neg : Bool) : Op2
  | .bool a, .bool b => some (.dat (.bool (if neg then !decide (a = b) else decide (a = b))))
  | _, _ => none
def oNeg : Op1
  | .int i => some (.dat (.int (-i)))
  | _ => none
theorem oNeg_ok {K : PySem.W.Frag} : UnOk K (rU fun i => .int (-i)) oNeg := fun g H HF f x d rv a t z Q k => by
  cases d <;> try cases z
  exact ⟨_, t.int, k.now a (.int _)⟩
def oAbs : Op1
  | .int i => some (.dat (.int (if i < 0 then -i else i)))
  | _ => none
def oInt : Op1
  | .int i => some (.dat (.int i))
  | .bool b => some (.dat (.int (if b then 1 else 0)))
  | _ => none
def oLen : Op1 := fun d => (seqOf d).map fun ys => .dat (.int ys.length)
def oTuple : Op1 := fun d => (seqOf d).map fun ys => .dat (.tuple ys)
def oList : Op1 := fun d => (seqOf d).map fun ys => .own ys
def oMax : Op2 := intsOp (fun _ _ => true) fun i j => .int (if j > i then j else i)
def oMin : Op2 := intsOp (fun _ _ => true) fun i j => .int (if j < i then j else i)
def oSum : Op1 := fun d => match d with
  | .list xs => (intsOf xs).map fun ns => .dat (.int ns.sum)
  | _ => none
section
variable {X : Cx} {W : Wish} {fa fb : Ex} {id : String} {r : List V → Hp → VK → Prop} {x : Str} {p pos : Pos} {e e2 : Expr}
theorem de_call1 {o : Op1} (hc : CallR X (.builtin id) r) (hb : UnOk X.K (fun v H Q => r [v] H Q) o) (hg : Gl X x) (hm : X.mg x = none) (hv : bootBuiltins x = some (.builtin id)) (ha : DE X W e fa)
    (hn : x ≠ "__name__" := by decide) (hdb : (x == ("__debug__" : Str)) = false := by decide) (he : starEach [e] X.env = (false, eval e X.env) :: starEach [] X.env := by rfl) : DE X W (.Call (.Name x p) [e] [] pos) (cUn o fa) :=
  pe_mono (pe_callB hc hg hm hv (pa_cons ha pa_nil he) hn hdb he rfl) fun _ _ _ h => un_read (r := fun v H Q => r [v] H Q) hb h
theorem de_call2 {o : Op2} (hc : CallR X (.builtin id) r) (hb : BinOk X.K (fun v w H Q => r [v, w] H Q) o) (hg : Gl X x) (hm : X.mg x = none) (hv : bootBuiltins x = some (.builtin id)) (ha : DE X W e fa) (hd : DE X W e2 fb)
    (hn : x ≠ "__name__" := by decide) (hdb : (x == ("__debug__" : Str)) = false := by decide) (he : starEach [e, e2] X.env = (false, eval e X.env) :: starEach [e2] X.env := by rfl)
    (he2 : starEach [e2] X.env = (false, eval e2 X.env) :: starEach [] X.env := by rfl) (hpl : (backTo pos (starEach [e2] X.env)).any (·.1) = false := by rfl) : DE X W (.Call (.Name x p) [e, e2] [] pos) (cBin o fa fb) :=
  pe_mono (pe_callB hc hg hm hv (pa_cons ha (pa_cons hd pa_nil he2) he) hn hdb he hpl) fun _ _ _ h => bin_read (r := fun v w H Q => r [v, w] H Q) hb h
theorem de_callTy1 {o : Op1} {T : String} (hc : CallR X (.type T) r) (hb : UnOk X.K (fun v H Q => r [v] H Q) o) (hg : Gl X x) (hm : X.mg x = none) (hv : bootBuiltins x = some (.type T)) (ha : DE X W e fa)
    (hn : x ≠ "__name__" := by decide) (hdb : (x == ("__debug__" : Str)) = false := by decide) (he : starEach [e] X.env = (false, eval e X.env) :: starEach [] X.env := by rfl) : DE X W (.Call (.Name x p) [e] [] pos) (cUn o fa) :=
  pe_mono (pe_callTy hc hg hm hv (pa_cons ha pa_nil he) hn hdb he rfl) fun _ _ _ h => un_read (r := fun v H Q => r [v] H Q) hb h
end
section
variable {K : PySem.W.Frag}
theorem oAbs_ok : UnOk K (fun v H Q => ∃ i, [v] = [V.int i] ∧ Q (.int (if i < 0 then -i else i)) H) oAbs := fun g H HF f x d rv a t z Q k => by
  cases d <;> try cases z
  have h := t.int
  subst h
  exact ⟨_, rfl, k.now a (.int _)⟩
theorem oInt_ok : UnOk K (fun v H Q => (∃ i, [v] = [V.int i] ∧ Q (.int i) H) ∨ ∃ b, [v] = [V.bl b] ∧ Q (.int (if b then 1 else 0)) H) oInt := fun g H HF f x d rv a t z Q k => by
  cases d <;> try cases z
  · have h := t.bl
    subst h
    exact .inr ⟨_, rfl, k.now a (.int _)⟩
  · have h := t.int
    subst h
    exact .inl ⟨_, rfl, k.now a (.int _)⟩
theorem oLen_ok : UnOk K (fun v H Q => ∃ p ys, [v] = [V.ref p] ∧ (SqL K H p ys ∨ SqT K H p ys) ∧ Q (.int ys.length) H) oLen := fun g H HF f x d rv a t z Q k => by
  unfold oLen at z
  cases q : seqOf d with
  | none => rw [q] at z; cases z
  | some ys =>
    rw [q] at z
    cases z
    obtain ⟨p, vs, rfl, hp, rp⟩ := t.seq a.sub q
    refine ⟨p, vs, rfl, hp, ?_⟩
    rw [rp.length]
    exact k.now a (.int _)
theorem oTuple_ok : UnOk K (fun v H Q => ∃ p ys, [v] = [V.ref p] ∧ ((SqL K H p ys ∧ ∀ l, H l = none → Q (.ref l) (upd H l (.tup ys))) ∨ (SqT K H p ys ∧ Q (.ref p) H))) oTuple := fun g H HF f x d rv a t z Q k => by
  cases d <;> try cases z
  · obtain ⟨p, vs, rfl, hp, rp⟩ := t.lst a.sub
    exact ⟨p, vs, rfl, .inl ⟨.inl (.inl hp), fun l hl => k.newT a rp l hl⟩⟩
  · obtain ⟨p, vs, rfl, hp, rp⟩ := t.tup
    exact ⟨p, vs, rfl, .inr ⟨a.sub.sqT hp, k.now a (.tup hp rp)⟩⟩
theorem oList_ok : UnOk K (fun v H Q => ∃ p ys, [v] = [V.ref p] ∧ (SqL K H p ys ∨ SqT K H p ys) ∧ ∀ l, H l = none → Q (.ref l) (upd H l (.lst ys))) oList := fun g H HF f x d rv a t z Q k => by
  unfold oList at z
  cases q : seqOf d with
  | none => rw [q] at z; cases z
  | some ys =>
    rw [q] at z
    cases z
    obtain ⟨p, vs, rfl, hp, rp⟩ := t.seq a.sub q
    exact ⟨p, vs, rfl, hp, fun l hl => k.newL a rp l hl⟩
theorem oMin_ok : BinOk K (fun v w H Q => ∃ i j, [v, w] = [V.int i, V.int j] ∧ Q (.int (if j < i then j else i)) H) oMin := fun g H HF f x y d e rv a t u z Q k => by
  cases d <;> cases e <;> try cases z
  have h := t.int
  have h2 := u.int
  subst h
  subst h2
  exact ⟨_, _, rfl, k.now a (.int _)⟩
theorem oSum_ok : UnOk K (fun v H Q => rSum K [v] H Q) oSum := fun g H HF f x d rv a t z Q k => by
  cases d <;> try cases z
  rename_i xs
  unfold oSum at z
  cases q : intsOf xs with
  | none => simp only [q] at z; cases z
  | some ns =>
    simp only [q] at z
    cases z
    have e1 := intsOf_some q
    subst e1
    obtain ⟨p, vs, rfl, hp, rp⟩ := t.lst a.sub
    have v1 := rp.toInts
    subst v1
    exact ⟨p, ns, rfl, .inl (.inl hp), k.now a (.int _)⟩
end
theorem at_get {K : PySem.W.Frag} {H : Hp} {vs : List V} {ds : List PyData} {i : Int} {d : PyData} (r : DRs K H vs ds) (h : atI ds i = some d) : ∃ v, atI vs i = some v ∧ DR K H v d := by
  unfold atI at h ⊢
  rw [r.length]
  cases q : ixN ds.length i with
  | none => rw [q] at h; cases h
  | some j =>
    rw [q] at h
    exact r.get h
def oIx : Op2
  | .list xs, .int i => (atI xs i).map .dat
  | .tuple xs, .int i => (atI xs i).map .dat
  | .str x, .int i => if x.length ≤ 100000 then (atI x.cps.toList i).map fun c => .dat (.str ⟨#[c]⟩) else none
  | _, _ => none
theorem map_dat {o : Option PyData} {rv : RV} (h : o.map RV.dat = some rv) : ∃ d, o = some d ∧ rv = .dat d := by
  cases o with
  | none => cases h
  | some d => exact ⟨d, rfl, (Option.some.inj h).symm⟩
theorem oIx_ok {K : PySem.W.Frag} : BinOk K (rIx K) oIx := fun g H HF f x y d e rv a t u z Q k => by
  cases d <;> cases e <;> try cases z
  · rename_i s i
    have h := t.str
    have h2 := u.int
    subst h
    subst h2
    unfold oIx at z
    simp only at z
    split at z
    · rename_i hl
      cases q : atI s.cps.toList i with
      | none => rw [q] at z; cases z
      | some c =>
        rw [q] at z
        cases z
        exact .inr (.inr ⟨s, i, c, rfl, rfl, line5 hl, q, k.now a (.str _)⟩)
    · cases z
  · rename_i xs i
    obtain ⟨d, q, rfl⟩ := map_dat z
    obtain ⟨p, vs, rfl, hp, rp⟩ := t.lst a.sub
    obtain ⟨v, q2, rv⟩ := at_get rp q
    exact .inl ⟨p, vs, i, v, rfl, u.int, .inl (.inl hp), q2, k.now a rv⟩
  · rename_i xs i
    obtain ⟨d, q, rfl⟩ := map_dat z
    obtain ⟨p, vs, rfl, hp, rp⟩ := t.tup
    obtain ⟨v, q2, rv⟩ := at_get rp q
    exact .inr (.inl ⟨p, vs, i, v, rfl, u.int, a.sub.sqT hp, q2, k.now a rv⟩)
theorem de_ix {X : Cx} {W : Wish} {a b : Expr} {pos : Pos} {fa fb : Ex} (ha : DE X W a fa) (hb : DE X W b fb) (hs : PlainIx b) : DE X W (.Subscript a b pos) (cBin oIx fa fb) :=
  pe_mono (pe_ix ix_seq ha hb hs) fun _ _ _ h => bin_read oIx_ok h
def cutD (ds : List PyData) (lo hi : Option Int) : List PyData := (ds.drop (HT.sIx ds.length 0 lo)).take (HT.sIx ds.length ds.length hi - HT.sIx ds.length 0 lo)
theorem cut_rel {K : PySem.W.Frag} {H : Hp} {vs : List V} {ds : List PyData} (r : DRs K H vs ds) (lo hi : Option Int) : DRs K H (cutV vs lo hi) (cutD ds lo hi) := by
  unfold cutV cutD
  rw [r.length]
  exact (r.drop _).take _
def oSl (lo hi : Option Int) : Op1
  | .list xs => some (.own (cutD xs lo hi))
  | .tuple xs => some (.dat (.tuple (cutD xs lo hi)))
  | _ => none
theorem cut_whole {ds : List PyData} {lo hi : Option Int} (h : HT.sIx ds.length 0 lo = 0 ∧ HT.sIx ds.length ds.length hi = ds.length) : cutD ds lo hi = ds := by
  unfold cutD
  rw [h.1, h.2]
  simp
def partX : Option Ex → Rho → Feed → (Option Int → Feed → R RV) → R RV
  | none, _, f, k => k none f
  | some e, ρ, f, k => pk (e ρ f) fun d f1 => match d with
    | .int i => k (some i) f1
    | _ => .no
def cSl (a : Ex) (lo hi : Option Ex) : Ex := fun ρ f => pk (a ρ f) fun x f1 => partX lo ρ f1 fun i f2 => partX hi ρ f2 fun j f3 => give (oSl i j x) f3
def partT (K : PySem.W.Frag) (mg : Str → Option Value) (W : Wish) : Option Ex → TO
  | none => tNoPart
  | some e => tPart (tD K mg W e)
section
variable {K : PySem.W.Frag} {mg : Str → Option Value} {W : Wish} {g : Gh} {σ : St} {H HF : Hp} {ρ : Rho} {f : Feed}
theorem part_read {o : Option Ex} {k : Option Int → Feed → R RV} {P : RV → Feed → Prop} {Q : Option Int → Hp → Prop} (r : Rel K g σ H HF ρ f) (h : ROk K mg g H HF (W σ) (partX o ρ f k) P)
    (c : ∀ i f1 G GF, Rel K g σ G GF ρ f1 → Step g H HF G GF → ROk K mg g G GF (W σ) (k i f1) P → Q i G) : partT K mg W o σ H Q := by
  cases o with
  | none => exact c none f H HF r (Step.refl r.sub) h
  | some e =>
    refine tD_pk r h fun d f1 v G GF r1 s t q => ?_
    cases d <;> try exact (show False from q).elim
    rename_i i
    exact ⟨i, t.int, c (some i) f1 G GF r1 s q⟩
theorem sl_read {fa : Ex} {lo hi : Option Ex} {Q : VK} (h : tD K mg W (cSl fa lo hi) σ H Q) : tSl (fun x lo hi H Q => rSlL K x lo hi H Q ∨ rSlA K x lo hi H Q) (tD K mg W fa) (partT K mg W lo) (partT K mg W hi) σ H Q := by
  obtain ⟨g, HF, ρ, f, rel, q⟩ := h
  refine tD_pk rel q fun d f1 x G GF r1 s1 t1 q1 => part_read r1 q1 fun i f2 I IF r2 s2 q2 => part_read r2 q2 fun j f3 J JF r3 s3 q3 => ?_
  obtain ⟨rv, z, k⟩ := give_end r3.feed (s1.trans r1.feed (s2.trans r2.feed s3)) q3
  have t3 := t1.step (s2.trans r2.feed s3)
  have a : At K g J JF f3 := ⟨r3.sub, r3.feed⟩
  cases d <;> try cases z
  · rename_i xs
    obtain ⟨p, vs, rfl, hp, rp⟩ := t3.lst a.sub
    exact .inl ⟨p, vs, rfl, .inl (.inl hp), fun l hl => k.newL a (cut_rel rp _ _) l hl⟩
  · rename_i xs
    obtain ⟨p, vs, rfl, hp, rp⟩ := t3.tup
    refine .inr ⟨p, vs, rfl, a.sub.sqT hp, fun hw => ?_, fun _ l hl => k.newT a (cut_rel rp _ _) l hl⟩
    rw [rp.length] at hw
    rw [cut_whole hw] at k
    exact k.now a (.tup hp rp)
end
theorem de_slice {X : Cx} {W : Wish} {e : Expr} {fa : Ex} {lo hi : Option Expr} {xl xh : Option Ex} {p2 pos : Pos} (he : DE X W e fa) (hl : PO X lo (partT X.K X.mg W xl)) (hh : PO X hi (partT X.K X.mg W xh)) :
    DE X W (.Subscript e (.Slice lo hi none p2) pos) (cSl fa xl xh) := pe_mono (pe_slice (sl_list.or sl_tupA) he hl hh) fun _ _ _ h => sl_read h
theorem do_none {X : Cx} {W : Wish} : PO X none (partT X.K X.mg W none) := po_none
theorem do_some {X : Cx} {W : Wish} {e : Expr} {x : Ex} (h : DE X W e x) : PO X (some e) (partT X.K X.mg W (some x)) := po_some h
def cArgs : List Ex → Rho → Feed → R (List PyData)
  | [], _, f => .ok [] f
  | x :: xs, ρ, f => dt (x ρ f) fun d f1 => (cArgs xs ρ f1).bind fun ds f2 => .ok (d :: ds) f2
def argT (K : PySem.W.Frag) (mg : Str → Option Value) (W : Wish) : List Ex → TA
  | [] => tNil
  | x :: xs => tCons (tD K mg W x) (argT K mg W xs)
section
variable {K : PySem.W.Frag} {mg : Str → Option Value} {W : Wish}
theorem bind_bind {α β γ : Type} (r : R α) (k : α → Feed → R β) (l : β → Feed → R γ) : (r.bind k).bind l = r.bind fun a f => (k a f).bind l := by cases r <;> rfl
theorem dt_bind {β γ : Type} (r : R RV) (k : PyData → Feed → R β) (l : β → Feed → R γ) : (dt r k).bind l = dt r fun d f => (k d f).bind l := by
  cases r with
  | no => rfl
  | ex c v f => rfl
  | ok a f =>
    unfold dt R.bind
    simp only
    cases a.data <;> rfl
theorem args_read {β : Type} {P : β → Feed → Prop} : ∀ (xs : List Ex) {k : List PyData → Feed → R β} {g : Gh} {σ : St} {H HF : Hp} {ρ : Rho} {f : Feed} {Q : List V → Hp → Prop}, Rel K g σ H HF ρ f →
    ROk K mg g H HF (W σ) ((cArgs xs ρ f).bind k) P → (∀ ds f1 vs G GF, Rel K g σ G GF ρ f1 → Step g H HF G GF → DRs K GF vs ds → ROk K mg g G GF (W σ) (k ds f1) P → Q vs G) → argT K mg W xs σ H Q
  | [], k, g, σ, H, HF, ρ, f, Q, r, h, c => c [] f [] H HF r (Step.refl r.sub) .nil h
  | x :: xs, k, g, σ, H, HF, ρ, f, Q, r, h, c => by
    have h2 : ROk K mg g H HF (W σ) (dt (x ρ f) fun d f1 => ((cArgs xs ρ f1).bind fun ds f2 => .ok (d :: ds) f2).bind k) P := by
      rw [← dt_bind]
      exact h
    refine tD_dt r h2 fun d f1 v G GF r1 s1 dr q1 => ?_
    have q2 : ROk K mg g G GF (W σ) ((cArgs xs ρ f1).bind fun ds f2 => k (d :: ds) f2) P := by
      rw [bind_bind] at q1
      exact q1
    exact args_read xs r1 q2 fun ds f2 vs I IF r2 s2 drs q3 => c (d :: ds) f2 (v :: vs) I IF r2 (s1.trans r1.feed s2) (.cons (dr.mono s2.le) drs) q3
end
def cTup (xs : List Ex) : Ex := fun ρ f => (cArgs xs ρ f).bind fun ds f1 => if ds.length ≤ 100000 then .ok (.dat (.tuple ds)) f1 else .no
def cLst (xs : List Ex) : Ex := fun ρ f => (cArgs xs ρ f).bind fun ds f1 => if ds.length ≤ 100000 then .ok (.own ds) f1 else .no
section
variable {X : Cx} {W : Wish} {es : List Expr} {xs : List Ex} {pos : Pos}
abbrev DA (X : Cx) (W : Wish) (es : List Expr) (xs : List Ex) : Prop := PA X es (argT X.K X.mg W xs)
theorem da_nil : DA X W [] [] := pa_nil
theorem da_cons {e : Expr} {x : Ex} (h : DE X W e x) (r : DA X W es xs) (hs : starEach (e :: es) X.env = (false, eval e X.env) :: starEach es X.env := by rfl) : DA X W (e :: es) (x :: xs) := pa_cons h r hs
theorem de_tup {x1} (h : DA X W es xs) : DE X W (.Tuple es x1 pos) (cTup xs) := pe_mono (pe_tup h) fun σ H Q ⟨g, HF, ρ, f, rel, q⟩ =>
  args_read xs rel q fun ds f1 vs G GF r1 s1 drs q1 => by
    by_cases c : ds.length ≤ 100000
    · rw [if_pos c] at q1
      obtain ⟨rv, z, k⟩ := give_end (x := some (.dat (.tuple ds))) r1.feed s1 q1
      cases z
      exact ⟨by rw [drs.length]; exact line5 c, fun p hp => k.newT ⟨r1.sub, r1.feed⟩ drs p hp⟩
    · rw [if_neg c] at q1
      exact (show False from q1).elim
theorem de_lst (h : DA X W es xs) : DE X W (.List es pos) (cLst xs) := pe_mono (pe_lst h) fun σ H Q ⟨g, HF, ρ, f, rel, q⟩ =>
  args_read xs rel q fun ds f1 vs G GF r1 s1 drs q1 => by
    by_cases c : ds.length ≤ 100000
    · rw [if_pos c] at q1
      obtain ⟨rv, z, k⟩ := give_end (x := some (.own ds)) r1.feed s1 q1
      cases z
      exact ⟨by rw [drs.length]; exact line5 c, fun p hp => k.newL ⟨r1.sub, r1.feed⟩ drs p hp⟩
    · rw [if_neg c] at q1
      exact (show False from q1).elim
end
end Dn
end
section
set_option maxHeartbeats 4000000
namespace Dn
open PySem PySem.Spec L2
abbrev Tx := Rho → Feed → R Bool
def tDT (K : PySem.W.Frag) (mg : Str → Option Value) (W : Wish) (t : Tx) : TT := fun σ H Q => ∃ g HF ρ f, Rel K g σ H HF ρ f ∧ ROk K mg g H HF (W σ) (t ρ f) fun b f1 => ∀ G GF, Step g H HF G GF → FeedAt g G GF f1 → Q b G
abbrev DT (X : Cx) (W : Wish) (e : Expr) (t : Tx) : Prop := PT X e (tDT X.K X.mg W t)
def cT (e : Ex) : Tx := fun ρ f => pk (e ρ f) fun d f1 => match d with
  | .bool b => .ok b f1
  | _ => .no
def tAndX (t u : Tx) : Tx := fun ρ f => (t ρ f).bind fun b f1 => if b = true then u ρ f1 else .ok false f1
def tOrX (t u : Tx) : Tx := fun ρ f => (t ρ f).bind fun b f1 => if b = true then .ok true f1 else u ρ f1
def tNotX (t : Tx) : Tx := fun ρ f => (t ρ f).bind fun b f1 => .ok (!b) f1
section
variable {K : PySem.W.Frag} {mg : Str → Option Value} {W : Wish} {g : Gh} {σ : St} {H HF : Hp} {ρ : Rho} {f : Feed} {t u : Tx} {e : Ex}
theorem tDT_bind {β : Type} {k : Bool → Feed → R β} {P : β → Feed → Prop} {Q : Bool → Hp → Prop} (r : Rel K g σ H HF ρ f) (h : ROk K mg g H HF (W σ) ((t ρ f).bind k) P)
    (c : ∀ b f1 G GF, Rel K g σ G GF ρ f1 → Step g H HF G GF → ROk K mg g G GF (W σ) (k b f1) P → Q b G) : tDT K mg W t σ H Q :=
  ⟨g, HF, ρ, f, r, h.of_bind.mono fun b f1 q G GF s hf => c b f1 G GF (r.step s hf) s (q.later hf s)⟩
/-- an expression as a test -/
theorem test_read {Q : Bool → Hp → Prop} (h : tDT K mg W (cT e) σ H Q) : tD K mg W e σ H fun x H1 => ∃ b, x = .bl b ∧ Q b H1 := by
  obtain ⟨g, HF, ρ, f, rel, q⟩ := h
  refine tD_pk rel q fun d f1 v G GF r1 s1 t1 q1 => ?_
  cases d <;> try exact (show False from q1).elim
  rename_i b
  exact ⟨b, t1.bl, (show ∀ I IF, Step g H HF I IF → FeedAt g I IF f1 → Q b I from q1) G GF s1 r1.feed⟩
end
section
variable {X : Cx} {W : Wish} {a b c : Expr} {pos : Pos} {fa fb fc : Ex} {t u : Tx} {rest : List Expr}
theorem pt_mono {e : Expr} {t t2 : TT} (h : PT X e t) (i : ∀ σ H Q, t2 σ H Q → t σ H Q) : PT X e t2 := ⟨fun pins s σ H Q I q => h.run pins s σ H Q I (i σ H Q q)⟩
theorem pw_mono {e : Expr} {t t2 : TT} (h : PW X e t) (i : ∀ σ H Q, t2 σ H Q → t σ H Q) : PW X e t2 := ⟨fun wh pins s σ H Q I q => h.run wh pins s σ H Q I (i σ H Q q)⟩
abbrev DW (X : Cx) (W : Wish) (e : Expr) (t : Tx) : Prop := PW X e (tDT X.K X.mg W t)
theorem dt_val {e : Expr} {x : Ex} (h : DE X W e x) (he : ∀ whole, isTrue e X.env whole = (do let v ← whole; standAt e.pos; holding [v] (truthy v)) := by intro _; rfl) : DT X W e (cT x) :=
  pt_mono (pt_val h he) fun _ _ _ q => test_read q
theorem dt_cmp {op : CmpOp} {r : R2} {o : Op2} (ho : OpR X (compareOp op) r) (hb : BinOk X.K r o) (ha : DE X W a fa) (hc : DE X W b fb) (hm : behindInMarks op b = false) : DT X W (.Compare a [op] [b] pos) (cT (cBin o fa fb)) :=
  pt_mono (pt_cmpR ho ha hc hm) fun _ _ _ q => bin_read hb (test_read q)
theorem dt_not (h : DT X W a t) : DT X W (.UnaryOp .Not a pos) (tNotX t) := pt_mono (pt_not h) fun σ H Q ⟨g, HF, ρ, f, rel, q⟩ =>
  tDT_bind rel q fun b f1 G GF r1 s1 q1 => (show ∀ I IF, Step g H HF I IF → FeedAt g I IF f1 → Q (!b) I from q1) G GF s1 r1.feed
theorem dw_and1 (h : DT X W a t) : DW X W (.BoolOp .And [a] pos) t := pw_and1 h
theorem dw_or1 (h : DT X W a t) : DW X W (.BoolOp .Or [a] pos) t := pw_or1 h
theorem dw_and (h : DT X W a t) (h2 : DW X W (.BoolOp .And (b :: rest) pos) u) : DW X W (.BoolOp .And (a :: b :: rest) pos) (tAndX t u) := pw_mono (pw_and h h2) fun σ H Q ⟨g, HF, ρ, f, rel, q⟩ =>
  tDT_bind rel q fun c f1 G GF r1 s1 q1 => by
    cases c with
    | true =>
      refine iteT ⟨g, GF, ρ, f1, r1, ?_⟩
      exact ROk.mono (show ROk X.K X.mg g G GF (W σ) (u ρ f1) _ from q1) fun b f2 k I IF s hf => k I IF (s1.trans r1.feed s) hf
    | false => exact iteF ((show ∀ I IF, Step g H HF I IF → FeedAt g I IF f1 → Q false I from q1) G GF s1 r1.feed)
theorem dw_or (h : DT X W a t) (h2 : DW X W (.BoolOp .Or (b :: rest) pos) u) : DW X W (.BoolOp .Or (a :: b :: rest) pos) (tOrX t u) := pw_mono (pw_or h h2) fun σ H Q ⟨g, HF, ρ, f, rel, q⟩ =>
  tDT_bind rel q fun c f1 G GF r1 s1 q1 => by
    cases c with
    | false =>
      refine iteF ⟨g, GF, ρ, f1, r1, ?_⟩
      exact ROk.mono (show ROk X.K X.mg g G GF (W σ) (u ρ f1) _ from q1) fun b f2 k I IF s hf => k I IF (s1.trans r1.feed s) hf
    | true => exact iteT ((show ∀ I IF, Step g H HF I IF → FeedAt g I IF f1 → Q true I from q1) G GF s1 r1.feed)
theorem dt_w (h : DW X W a t) : DT X W a t := h.pt
def cAnd (a b : Ex) : Ex := fun ρ f => pk (a ρ f) fun d f1 => match d with
  | .bool true => b ρ f1
  | .bool false => .ok (.dat (.bool false)) f1
  | _ => .no
def cOr (a b : Ex) : Ex := fun ρ f => pk (a ρ f) fun d f1 => match d with
  | .bool true => .ok (.dat (.bool true)) f1
  | .bool false => b ρ f1
  | _ => .no
def cNot : Op1
  | .bool b => some (.dat (.bool (!b)))
  | _ => none
theorem fin_later {K : PySem.W.Frag} {mg : Str → Option Value} {g : Gh} {σ : St} {H HF G GF : Hp} {f : Feed} {E : XK} {Q : VK} {r : R RV} (hf : FeedAt g G GF f) (s : Step g H HF G GF) (h : ROk K mg g G GF E r (Fin K g σ H HF Q)) : ROk K mg g G GF E r (Fin K g σ G GF Q) :=
  h.mono fun rv f1 k v I IF s2 h2 rr => k v I IF (s.trans hf s2) h2 (rr.back hf s)
theorem de_and (ha : DE X W a fa) (hb : DE X W (.BoolOp .And (b :: rest) pos) fb) : DE X W (.BoolOp .And (a :: b :: rest) pos) (cAnd fa fb) := pe_mono (pe_and ha hb) fun σ H Q ⟨g, HF, ρ, f, rel, q⟩ =>
  tD_pk rel q fun d f1 v G GF r1 s1 t1 q1 => by
    cases d <;> try exact (show False from q1).elim
    rename_i c
    refine ⟨c, t1.bl, ?_⟩
    cases c with
    | true => exact iteT ⟨g, GF, ρ, f1, r1, fin_later r1.feed s1 q1⟩
    | false => exact iteF ((show Fin X.K g σ H HF Q (.dat (.bool false)) f1 from q1) (.bl false) G GF s1 r1.feed (.bl false))
theorem de_one {op} {x : Ex} (h : DE X W a x) : DE X W (.BoolOp op [a] pos) x := pe_one h
theorem cNot_ok {K : PySem.W.Frag} : UnOk K (fun x H Q => ∃ c, x = .bl c ∧ Q (.bl (!c)) H) cNot := fun g H HF f x d rv a t z Q k => by
  cases d <;> try cases z
  exact ⟨_, t.bl, k.now a (.bl _)⟩
theorem de_not (h : DE X W a fa) : DE X W (.UnaryOp .Not a pos) (cUn cNot fa) := pe_mono (pe_not h) fun _ _ _ q => un_read (r := fun x H Q => ∃ c, x = .bl c ∧ Q (.bl (!c)) H) cNot_ok q
def cIf (t : Tx) (a b : Ex) : Ex := fun ρ f => (t ρ f).bind fun c f1 => if c = true then a ρ f1 else b ρ f1
theorem de_if (hc : DT X W c t) (ha : DE X W a fa) (hb : DE X W b fb) : DE X W (.IfExp c a b pos) (cIf t fa fb) := pe_mono (pe_ifExp hc ha hb) fun σ H Q ⟨g, HF, ρ, f, rel, q⟩ =>
  tDT_bind rel q fun k f1 G GF r1 s1 q1 => by
    cases k with
    | true => exact iteT ⟨g, GF, ρ, f1, r1, fin_later r1.feed s1 q1⟩
    | false => exact iteF ⟨g, GF, ρ, f1, r1, fin_later r1.feed s1 q1⟩
/-- a op b op c -/
def cChain (o o2 : Op2) (a b c : Ex) : Ex := fun ρ f => pk (a ρ f) fun x f1 => pk (b ρ f1) fun y f2 => match o x y with
  | some (.dat (.bool true)) => pk (c ρ f2) fun z f3 => give (o2 y z) f3
  | some (.dat (.bool false)) => .ok (.dat (.bool false)) f2
  | _ => .no
theorem chain_read {K : PySem.W.Frag} {mg : Str → Option Value} {r r2 : R2} {o o2 : Op2} (ho : BinOk K r o) (ho2 : BinOk K r2 o2) {σ : St} {H : Hp} {Q : VK} (h : tD K mg W (cChain o o2 fa fb fc) σ H Q) : tChain r r2 (tD K mg W fa) (tD K mg W fb) (tD K mg W fc) σ H Q := by
  obtain ⟨g, HF, ρ, f, rel, q⟩ := h
  refine tD_pk rel q fun d f1 x G GF r1 s1 t1 q1 => tD_pk r1 q1 fun e f2 y I IF r3 s2 t2 q2 => ?_
  cases z : o d e with
  | none =>
    simp only [z] at q2
    exact (show False from q2).elim
  | some rv =>
    refine ho g I IF f2 x y d e rv ⟨r3.sub, r3.feed⟩ (t1.step s2) t2 z _ fun v J JF s3 h3 rr => ?_
    cases rv with
    | dat w =>
      cases w with
      | bool k =>
        have ev : v = .bl k := by
          cases (show DR K JF v (.bool k) from rr)
          rfl
        refine ⟨k, ev, ?_⟩
        have r4 := r3.step s3 h3
        have s4 := s1.trans r1.feed (s2.trans r3.feed s3)
        cases k with
        | true =>
          simp only [z] at q2
          refine iteT (tD_pk r4 (q2.later h3 s3) fun w f3 u L LF r5 s5 t5 q5 => ?_)
          obtain ⟨rv2, z2, k2⟩ := give_end r5.feed (s4.trans h3 s5) q5
          exact ho2 g L LF f3 y u e w rv2 ⟨r5.sub, r5.feed⟩ ((t2.step s3).step s5) t5 z2 Q k2
        | false =>
          simp only [z] at q2
          exact iteF ((show Fin K g σ H HF Q (.dat (.bool false)) f2 from q2) (.bl false) J JF s4 h3 (.bl false))
      | _ =>
        simp only [z] at q2
        exact (show False from q2).elim
    | _ =>
      simp only [z] at q2
      exact (show False from q2).elim
theorem de_chain {op op2 : CmpOp} {r r2 : R2} {o o2 : Op2} (ho : OpR X (compareOp op) r) (hb : BinOk X.K r o) (ho2 : OpR X (compareOp op2) r2) (hb2 : BinOk X.K r2 o2) (ha : DE X W a fa) (hc : DE X W b fb) (hd : DE X W c fc)
    (hm : lastMarks [op, op2] [b, c] = false := by with_unfolding_all rfl) : DE X W (.Compare a [op, op2] [b, c] pos) (cChain o o2 fa fb fc) :=
  pe_mono (pe_chain ho ho2 ha hc hd hm) fun _ _ _ q => chain_read hb hb2 q
end
def RV.up : RV → RV
  | .lent _ ds => .own ds
  | x => x
structure RetOk (K : PySem.W.Frag) (g : Gh) (G GF : Hp) (f : Feed) (v : V) (rv : RV) : Prop where
  sub : Le GF G
  feed : FeedAt g G GF f
  ext : ∀ a o, a ≠ g.fa → g.H0 a = some o → G a = some o
  le : Le g.HF0 GF
  new : ∀ a, Mo g.H0 a → g.HF0 a = none → GF a = none
  val : RR K g [] g.H0 G GF v rv.up
def FinS (K : PySem.W.Frag) (g : Gh) (D : Ends) : Ctl → Feed → Prop
  | .nx ρ, f => ∀ σ G GF, Rel K g σ G GF ρ f → D.nx σ G
  | .bk ρ, f => ∀ σ G GF, Rel K g σ G GF ρ f → D.bk σ G
  | .ct ρ, f => ∀ σ G GF, Rel K g σ G GF ρ f → D.ct σ G
  | .rt rv, f => ∀ v G GF, RetOk K g G GF f v rv → D.rt v G
/-- what is wanted of a statement's outcome; an error does not ask where it came from -/
def XF (K : PySem.W.Frag) (mg : Str → Option Value) (g : Gh) (E : XK) {α : Type} (r : R α) (P : α → Feed → Prop) : Prop := match r with
  | .no => False
  | .ok a f => P a f
  | .ex c vs f => ∀ (C : Addr) (od : Option Addr) (G GF : Hp), mg c = some (.ref C) → RetOk K g G GF f .non (.dat .none) → Xd K G GF od vs → E (.ref C) od G
def tDS (K : PySem.W.Frag) (mg : Str → Option Value) (E : XK) (s : Sm) : TS := fun D σ H => ∃ g HF ρ f, Rel K g σ H HF ρ f ∧ XF K mg g E (s ρ f) (FinS K g D)
abbrev DS (X : Cx) (E : XK) (st : Stmt) (s : Sm) : Prop := PS X st (tDS X.K X.mg E s)
abbrev DSs (X : Cx) (E : XK) (sts : List Stmt) (s : Sm) : Prop := PSs X sts (tDS X.K X.mg E s)
section
variable {X : Cx} {E : XK}
theorem ps_mono {st : Stmt} {t t2 : TS} (h : PS X st t) (i : ∀ D σ H, t2 D σ H → t D σ H) : PS X st t2 := ⟨fun pins s σ H D I q => h.run pins s σ H D I (i D σ H q)⟩
theorem pss_mono {st : List Stmt} {t t2 : TS} (h : PSs X st t) (i : ∀ D σ H, t2 D σ H → t D σ H) : PSs X st t2 := ⟨fun pins s σ H D I q => h.run pins s σ H D I (i D σ H q)⟩
end
def sNext : Sm := fun ρ f => .ok (.nx ρ) f
def sNo : Sm := fun _ _ => .no
def andThen (c : Ctl) (f : Feed) (k : Rho → Feed → R Ctl) : R Ctl := match c with
  | .nx ρ => k ρ f
  | c => .ok c f
def sSeq (a b : Sm) : Sm := fun ρ f => (a ρ f).bind fun c f1 => andThen c f1 b
section
variable {K : PySem.W.Frag} {mg : Str → Option Value} {E : XK} {g : Gh} {σ : St} {H HF : Hp} {ρ : Rho} {f : Feed}
theorem Rel.ret (r : Rel K g σ H HF ρ f) {v : V} {rv : RV} (h : RR K g [] g.H0 H HF v rv.up) : RetOk K g H HF f v rv := ⟨r.sub, r.feed, r.ext, r.le, r.new, h⟩
theorem XF.mono {α : Type} {r : R α} {P P2 : α → Feed → Prop} (h : XF K mg g E r P) (i : ∀ a f, P a f → P2 a f) : XF K mg g E r P2 := by
  cases r with
  | no => exact h
  | ok a f => exact i a f h
  | ex c vs f => exact h
theorem XF.of_bind {α β : Type} {r : R α} {k : α → Feed → R β} {P : β → Feed → Prop} (h : XF K mg g E (r.bind k) P) : XF K mg g E r fun a f => XF K mg g E (k a f) P := by
  cases r with
  | no => exact h
  | ok a f => exact h
  | ex c vs f => exact h
/-- from a statement's wish to an expression's -/
theorem Rel.toE {α : Type} {r : R α} {P : α → Feed → Prop} (rel : Rel K g σ H HF ρ f) (h : XF K mg g E r P) : ROk K mg g H HF E r P := by
  cases r with
  | no => exact h
  | ok a f => exact h
  | ex c vs f1 => exact fun C od G GF q s hf x => h C od G GF q ((rel.step s hf).ret .non) x
theorem tD_S {β : Type} {e : Ex} {k : RV → Feed → R β} {P : β → Feed → Prop} {Q : VK} (r : Rel K g σ H HF ρ f) (h : XF K mg g E ((e ρ f).bind k) P)
    (c : ∀ rv f1 v G GF, Rel K g σ G GF ρ f1 → Step g H HF G GF → RR K g σ H G GF v rv → XF K mg g E (k rv f1) P → Q v G) : tD K mg (fun _ => E) e σ H Q :=
  ⟨g, HF, ρ, f, r, r.toE (h.of_bind.mono fun rv f1 q v G GF s hf rr => c rv f1 v G GF (r.step s hf) s rr q)⟩
theorem tD_Spk {β : Type} {e : Ex} {k : PyData → Feed → R β} {P : β → Feed → Prop} {Q : VK} (r : Rel K g σ H HF ρ f) (h : XF K mg g E (pk (e ρ f) k) P)
    (c : ∀ d f1 v G GF, Rel K g σ G GF ρ f1 → Step g H HF G GF → Top K g G GF v d → XF K mg g E (k d f1) P → Q v G) : tD K mg (fun _ => E) e σ H Q :=
  tD_S r h fun rv f1 v G GF r1 s rr q => by
    cases z : rv.peek with
    | none =>
      simp only [z] at q
      exact (show False from q).elim
    | some d =>
      simp only [z] at q
      exact c d f1 v G GF r1 s (rr.top r1.feed z) q
theorem tD_Sdt {β : Type} {e : Ex} {k : PyData → Feed → R β} {P : β → Feed → Prop} {Q : VK} (r : Rel K g σ H HF ρ f) (h : XF K mg g E (dt (e ρ f) k) P)
    (c : ∀ d f1 v G GF, Rel K g σ G GF ρ f1 → Step g H HF G GF → DR K GF v d → XF K mg g E (k d f1) P → Q v G) : tD K mg (fun _ => E) e σ H Q :=
  ⟨g, HF, ρ, f, r, r.toE ((XF.of_bind h).mono fun rv f1 q v G GF s hf rr => by
    cases z : rv.data with
    | none =>
      simp only [z] at q
      exact (show False from q).elim
    | some d =>
      simp only [z] at q
      obtain ⟨IF, s2, h2, dr⟩ := rr.frz hf s z
      exact c d f1 v G IF (r.step s2 h2) s2 dr q)⟩
theorem tDT_S {β : Type} {t : Tx} {k : Bool → Feed → R β} {P : β → Feed → Prop} {Q : Bool → Hp → Prop} (r : Rel K g σ H HF ρ f) (h : XF K mg g E ((t ρ f).bind k) P)
    (c : ∀ b f1 G GF, Rel K g σ G GF ρ f1 → Step g H HF G GF → XF K mg g E (k b f1) P → Q b G) : tDT K mg (fun _ => E) t σ H Q :=
  ⟨g, HF, ρ, f, r, r.toE (h.of_bind.mono fun b f1 q G GF s hf => c b f1 G GF (r.step s hf) s q)⟩
def slotOf : RV → Option Slot
  | .dat d => some (.dat d)
  | .own ds => some (.own ds)
  | .feed => some .feed
  | .lent _ _ => none
theorem Rel.dead (r : Rel K g σ H HF ρ f) {p : Addr} (h : H p = none) : g.H0 p = none := by
  cases z : g.H0 p with
  | none => rfl
  | some o =>
    by_cases q : p = g.fa
    · rw [q] at h
      exact absurd h r.feed.ne
    · rw [r.ext p o q z] at h
      cases h
theorem set_get {α : Type} {l : List α} {i j : Nat} {x y : α} (h : (l.set i x)[j]? = some y) : (i = j ∧ i < l.length ∧ x = y) ∨ (i ≠ j ∧ l[j]? = some y) := by
  rw [List.getElem?_set] at h
  by_cases e : i = j
  · rw [if_pos e] at h
    by_cases q : i < l.length
    · rw [if_pos q] at h
      exact .inl ⟨e, q, Option.some.inj h⟩
    · rw [if_neg q] at h
      cases h
  · rw [if_neg e] at h
    exact .inr ⟨e, h⟩
theorem Rel.put {H1 HF1 : Hp} {f1 : Feed} {v : V} {rv : RV} {s : Slot} {i : Nat} (r0 : Rel K g σ H HF ρ f) (st : Step g H HF H1 HF1) (r : Rel K g σ H1 HF1 ρ f1) (rr : RR K g σ H H1 HF1 v rv) (hs : slotOf rv = some s) : Rel K g (σ.set i (some v)) H1 HF1 (ρ.set i s) f1 where
  sub := r.sub
  feed := r.feed
  ext := r.ext
  le := r.le
  new := r.new
  len := by rw [List.length_set, List.length_set, r.len]
  slot := fun j x e => by
    rcases set_get e with ⟨e1, e2, e3⟩ | ⟨e1, e2⟩
    · subst e1
      subst e3
      have hx : (σ.set i (some v))[i]? = some (some v) := by
        rw [List.getElem?_set_self (by rw [r.len]; exact e2)]
      rw [hx]
      cases rv <;> cases hs
      · exact ⟨v, rfl, rr⟩
      · obtain ⟨p, vs, z1, z2, z3, z4, z5⟩ := rr
        subst z1
        exact ⟨p, vs, rfl, r0.dead z2, z3, z4, z5⟩
      · have q : v = .ref g.fa := rr
        subst q
        rfl
    · rw [List.getElem?_set_ne e1]
      exact r.slot j x e2
  sep := fun a b ds es ea eb ee => by
    rcases set_get ea with ⟨a1, a2, a3⟩ | ⟨a1, a2⟩
    · rcases set_get eb with ⟨b1, b2, b3⟩ | ⟨b1, b2⟩
      · exact a1.symm.trans b1
      · exfalso
        subst a1
        rw [List.getElem?_set_self (by rw [r.len]; exact a2), List.getElem?_set_ne b1] at ee
        subst a3
        cases rv <;> cases hs
        obtain ⟨p, vs, z1, z2, z3, z4, z5⟩ := rr
        obtain ⟨q, ws, y1, y2, y3, y4, y5⟩ := r0.slot b _ b2
        rw [y1, z1] at ee
        cases ee
        rw [y4] at z2
        cases z2
    · rcases set_get eb with ⟨b1, b2, b3⟩ | ⟨b1, b2⟩
      · exfalso
        subst b1
        rw [List.getElem?_set_self (by rw [r.len]; exact b2), List.getElem?_set_ne a1] at ee
        subst b3
        cases rv <;> cases hs
        obtain ⟨p, vs, z1, z2, z3, z4, z5⟩ := rr
        obtain ⟨q, ws, y1, y2, y3, y4, y5⟩ := r0.slot a _ a2
        rw [y1, z1] at ee
        cases ee
        rw [y4] at z2
        cases z2
      · rw [List.getElem?_set_ne a1, List.getElem?_set_ne b1] at ee
        exact r.sep a b ds es a2 b2 ee
  sepD := fun a b ds es ea eb ee => by
    rcases set_get ea with ⟨a1, a2, a3⟩ | ⟨a1, a2⟩
    · subst a3
      cases rv <;> cases hs
    · rcases set_get eb with ⟨b1, b2, b3⟩ | ⟨b1, b2⟩
      · subst b3
        cases rv <;> cases hs
      · rw [List.getElem?_set_ne a1, List.getElem?_set_ne b1] at ee
        exact r.sepD a b ds es a2 b2 ee
  bd := by
    have nb : ∀ (a : Nat) dss, (ρ.set i s)[a]? = some (.brd dss) → i ≠ a ∧ ρ[a]? = some (.brd dss) := fun a dss e => by
      rcases set_get e with ⟨a1, a2, a3⟩ | ⟨a1, a2⟩
      · subst a3
        cases rv <;> cases hs
      · exact ⟨a1, a2⟩
    refine ⟨fun a b x y ea eb => r.bd.1 a b x y (nb a x ea).2 (nb b y eb).2, fun a b dss ds p c qs e1 e2 e3 e4 e5 => ?_⟩
    obtain ⟨n1, e1b⟩ := nb a dss e1
    rw [List.getElem?_set_ne n1] at e3
    rcases set_get e2 with ⟨b1, b2, b3⟩ | ⟨b1, b2⟩
    · subst b1
      rw [List.getElem?_set_self (by rw [r.len]; exact b2)] at e4
      subst b3
      cases rv <;> cases hs
      obtain ⟨q, vs, z1, z2, z3, z4, z5⟩ := rr
      rw [z1] at e4
      cases e4
      have w := r0.bdWas st e1b e3 e5
      intro m
      obtain ⟨us, z⟩ := w.live m
      rw [z2] at z
      cases z
    · rw [List.getElem?_set_ne b1] at e4
      exact r.bd.2 a b dss ds p c qs e1b b2 e3 e4 e5
theorem Rel.putD {v : V} {d : PyData} {i : Nat} (r : Rel K g σ H HF ρ f) (h : DR K HF v d) : Rel K g (σ.set i (some v)) H HF (ρ.set i (.dat d)) f := r.put (rv := .dat d) (Step.refl r.sub) r h rfl
/-- the list that a slot holds is written -/
theorem Rel.write {p : Addr} {vs ws : List V} {ds es : List PyData} {i : Nat} (r : Rel K g σ H HF ρ f) (h : ρ[i]? = some (.own ds)) (hp : σ[i]? = some (some (.ref p))) (hq : HF p = none) (h4 : H p = some (.lst vs)) (h5 : DRs K HF ws es) :
    Rel K g σ (upd H p (.lst ws)) HF (ρ.set i (.own es)) f where
  sub := fun a o e => by
    rw [upd_ne (ne_of_none e hq)]
    exact r.sub a o e
  feed := ⟨by rw [upd_ne (fun z => ne_fa r.feed h4 z.symm)]; exact r.feed.d, r.feed.nf, r.feed.c⟩
  ext := fun a o z e => by
    have na : a ≠ p := fun w => by
      subst w
      obtain ⟨p2, vs2, z1, z2, _⟩ := r.slot i _ h
      rw [hp] at z1
      cases z1
      rw [z2] at e
      cases e
    rw [upd_ne na]
    exact r.ext a o z e
  le := r.le
  new := r.new
  len := by rw [List.length_set, r.len]
  slot := fun j x e => by
    rcases set_get e with ⟨e1, e2, e3⟩ | ⟨e1, e2⟩
    · subst e1
      subst e3
      obtain ⟨p2, vs2, z1, z2, z3, z4, z5⟩ := r.slot i _ h
      rw [hp] at z1
      cases z1
      exact ⟨p, ws, hp, z2, hq, upd_same, h5⟩
    · have k := r.slot j x e2
      cases x with
      | emp => trivial
      | dat d => exact k
      | own fs =>
        obtain ⟨p2, vs2, z1, z2, z3, z4, z5⟩ := k
        have np : p2 ≠ p := fun w => by
          subst w
          exact e1 (r.sep i j ds fs h e2 (hp.trans z1.symm))
        exact ⟨p2, vs2, z1, z2, z3, by rw [upd_ne np]; exact z4, z5⟩
      | feed => exact k
      | scr ns => exact k
      | dct q =>
        obtain ⟨p2, z1, z2, z3, z4⟩ := k
        have np : p2 ≠ p := fun w => by
          subst w
          exact z4.nl h4
        exact ⟨p2, z1, z2, z3, z4.mono (fun o e => by rw [upd_ne np]; exact e) (Le.refl _)⟩
      | key ks => exact k
      | brd dss =>
        obtain ⟨p2, qs, z1, z2⟩ := k
        exact ⟨p2, qs, z1, z2.upd (r.bd.2 j i dss ds p2 p qs e2 h z1 hp z2.1)⟩
  bd := r.bd.to (fun a dss e => by
    rcases set_get e with ⟨a1, a2, a3⟩ | ⟨a1, a2⟩
    · cases a3
    · exact ⟨⟨_, a2⟩, rfl⟩) (fun a es2 e => by
    rcases set_get e with ⟨a1, a2, a3⟩ | ⟨a1, a2⟩
    · subst a1
      exact ⟨⟨_, h⟩, rfl⟩
    · exact ⟨⟨_, a2⟩, rfl⟩) fun a dss p2 qs e1 e2 e3 => by
    obtain ⟨p3, q3, z1, z2⟩ := r.slot a _ e1
    rw [e2] at z1
    cases z1
    have n := r.bd.2 a i dss ds p2 p q3 e1 h e2 hp z2.1
    rw [upd_ne (fun z => n (by rw [z]; exact List.mem_cons_self))] at e3
    exact e3
  sepD := fun a b xs ys ea eb ee => by
    rcases set_get ea with ⟨a1, a2, a3⟩ | ⟨a1, a2⟩
    · cases a3
    · rcases set_get eb with ⟨b1, b2, b3⟩ | ⟨b1, b2⟩
      · cases b3
      · exact r.sepD a b xs ys a2 b2 ee
  sep := fun a b xs ys ea eb ee => by
    have fa : ∃ zs, ρ[a]? = some (.own zs) := by
      rcases set_get ea with ⟨a1, a2, a3⟩ | ⟨a1, a2⟩
      · subst a1
        exact ⟨ds, h⟩
      · exact ⟨xs, a2⟩
    have fb : ∃ zs, ρ[b]? = some (.own zs) := by
      rcases set_get eb with ⟨a1, a2, a3⟩ | ⟨a1, a2⟩
      · subst a1
        exact ⟨ds, h⟩
      · exact ⟨ys, a2⟩
    obtain ⟨z1, fa⟩ := fa
    obtain ⟨z2, fb⟩ := fb
    exact r.sep a b z1 z2 fa fb ee
end
section
variable {X : Cx} {E : XK} {st : Stmt} {rest : List Stmt} {a b : Sm} {e : Expr} {x : Ex} {pos : Pos}
theorem ds_no : DS X E st sNo := ps_mono ps_never fun D σ H ⟨g, HF, ρ, f, rel, q⟩ => q
theorem dss_nil : DSs X E [] sNext := pss_mono pss_nil fun D σ H ⟨g, HF, ρ, f, rel, q⟩ => (show FinS X.K g D (.nx ρ) f from q) σ H HF rel
theorem dss_one (h : DS X E st a) : DSs X E [st] a := pss_one h
theorem dss_cons (h : DS X E st a) (h2 : DSs X E rest b) : DSs X E (st :: rest) (sSeq a b) := pss_mono (pss_cons h h2) fun D σ H ⟨g, HF, ρ, f, rel, q⟩ =>
  ⟨g, HF, ρ, f, rel, (XF.of_bind q).mono fun c f1 k => by
    cases c with
    | nx ρ2 => exact fun σ2 G GF r2 => ⟨g, GF, ρ2, f1, r2, k⟩
    | rt v => exact k
    | bk ρ2 => exact k
    | ct ρ2 => exact k⟩
def sSet (i : Nat) (e : Ex) : Sm := fun ρ f => (e ρ f).bind fun rv f1 => match slotOf rv with
  | some s => .ok (.nx (ρ.set i s)) f1
  | none => .no
theorem set_read {K : PySem.W.Frag} {mg : Str → Option Value} {i : Nat} {D : Ends} {σ : St} {H : Hp} (h : tDS K mg E (sSet i x) D σ H) : tAsg (tD K mg (fun _ => E) x) (gName i) D σ H := by
  obtain ⟨g, HF, ρ, f, rel, q⟩ := h
  refine tD_S rel q fun rv f1 v G GF r1 s1 rr q1 => ?_
  cases z : slotOf rv with
  | none =>
    simp only [z] at q1
    exact (show False from q1).elim
  | some s =>
    simp only [z] at q1
    exact (show FinS K g D (.nx (ρ.set i s)) f1 from q1) _ G GF (rel.put s1 r1 rr z)
theorem ds_set {i : Nat} {y : Str} {pos2 : Pos} (hN : X.N.Nodup) (hi : X.N[i]? = some y) (hx : Loc X.env.scope y) (he : DE X (fun _ => E) e x) (hs : swapsWith e (some (.Name y pos2)) pos.line X.env = pure false := by rfl)
    (hf : X.fn y = true ∨ X.env.scope.names.lookup y = some .local := by first | exact .inl rfl | exact .inr rfl | assumption) : DS X E (.Assign [.Name y pos2] e pos) (sSet i x) :=
  ps_mono (ps_set hN hi hx he hs hf) fun _ _ _ q => set_read q
def sRet (e : Ex) : Sm := fun ρ f => (e ρ f).bind fun rv f1 => .ok (.rt rv) f1
theorem ds_ret (he : DE X (fun _ => E) e x) : DS X E (.Return (some e) pos) (sRet x) := ps_mono (ps_ret he) fun D σ H ⟨g, HF, ρ, f, rel, q⟩ =>
  tD_S rel q fun rv f1 v G GF r1 s1 rr q1 => (show FinS X.K g D (.rt rv) f1 from q1) v G GF (r1.ret (by
    cases rv with
    | dat d => exact rr
    | own ds =>
      obtain ⟨p, vs, e1, e2, e3⟩ := rr
      exact ⟨p, vs, e1, rel.dead e2, e3⟩
    | lent i ds =>
      obtain ⟨p, vs, e1, e0, e3⟩ := rr
      exact ⟨p, vs, e1, e0, e3⟩
    | feed => exact rr))
def sIf (t : Tx) (a b : Sm) : Sm := fun ρ f => (t ρ f).bind fun c f1 => if c = true then a ρ f1 else b ρ f1
theorem ds_if {c : Expr} {t : Tx} {as bs : List Stmt} (hc : DT X (fun _ => E) c t) (ha : DSs X E as a) (hb : DSs X E bs b) : DS X E (.If c as bs pos) (sIf t a b) := ps_mono (ps_if hc ha hb) fun D σ H ⟨g, HF, ρ, f, rel, q⟩ =>
  tDT_S rel q fun k f1 G GF r1 s1 q1 => by
    cases k with
    | true => exact iteT ⟨g, GF, ρ, f1, r1, q1⟩
    | false => exact iteF ⟨g, GF, ρ, f1, r1, q1⟩
def sDrop (e : Ex) : Sm := fun ρ f => (e ρ f).bind fun _ f1 => .ok (.nx ρ) f1
theorem ds_expr (he : DE X (fun _ => E) e x) (hs : swapsWith e none pos.line X.env = pure false := by rfl) : DS X E (.Expr e pos) (sDrop x) := ps_mono (ps_expr he hs) fun D σ H ⟨g, HF, ρ, f, rel, q⟩ =>
  tD_S rel q fun rv f1 v G GF r1 s1 rr q1 => (show FinS X.K g D (.nx ρ) f1 from q1) σ G GF r1
def sBreak : Sm := fun ρ f => .ok (.bk ρ) f
def sCont : Sm := fun ρ f => .ok (.ct ρ) f
inductive Tgt where
  | one (i : Nat)
  | many (l : List Nat)
def setAll : List Nat → List PyData → Rho → Rho
  | i :: l, d :: ds, ρ => setAll l ds (ρ.set i (.dat d))
  | _, _, ρ => ρ
def Tgt.put : Tgt → PyData → Rho → Option Rho
  | .one i, d, ρ => some (ρ.set i (.dat d))
  | .many l, .tuple ds, ρ => if ds.length = l.length then some (setAll l ds ρ) else none
  | .many _, _, _ => none
def gAll : List Nat → TGs
  | [] => gNil
  | i :: l => gCons (gName i) (gAll l)
def Tgt.rd (K : PySem.W.Frag) : Tgt → TG
  | .one i => gName i
  | .many l => gTup K l.length (gAll l)
theorem all_put {K : PySem.W.Frag} {g : Gh} {H HF : Hp} {f : Feed} : ∀ {l : List Nat} {vs : List V} {ds : List PyData} {σ : St} {ρ : Rho} {Q : St → Hp → Prop}, ds.length = l.length → Rel K g σ H HF ρ f → DRs K HF vs ds →
    (∀ σ2, Rel K g σ2 H HF (setAll l ds ρ) f → Q σ2 H) → gAll l vs σ H Q
  | [], _, [], σ, ρ, Q, _, r, .nil, q => ⟨rfl, q σ r⟩
  | i :: l, _, d :: ds, σ, ρ, Q, hl, r, .cons h hs, q => ⟨_, _, rfl, all_put (by simpa using hl) (r.putD h) hs q⟩
  | [], _, _ :: _, _, _, _, hl, _, _, _ => by simp at hl
  | _ :: _, _, [], _, _, _, hl, _, _, _ => by simp at hl
theorem Tgt.read {K : PySem.W.Frag} {g : Gh} {H HF : Hp} {f : Feed} {T : Tgt} {v : V} {d : PyData} {σ : St} {ρ ρ2 : Rho} {Q : St → Hp → Prop} (r : Rel K g σ H HF ρ f) (h : DR K HF v d) (e : T.put d ρ = some ρ2) (q : ∀ σ2, Rel K g σ2 H HF ρ2 f → Q σ2 H) : T.rd K v σ H Q := by
  cases T with
  | one i =>
    cases e
    exact q _ (r.putD h)
  | many l =>
    cases d <;> try cases e
    rename_i ds
    replace e : (if ds.length = l.length then some (setAll l ds ρ) else none) = some ρ2 := e
    by_cases c : ds.length = l.length
    · rw [if_pos c] at e
      cases e
      cases h with
      | tup h1 h2 => exact ⟨_, _, rfl, r.sub.sqT h1, h2.length.trans c, all_put c r h2 q⟩
    · rw [if_neg c] at e
      cases e
def sAsg (T : Tgt) (e : Ex) : Sm := fun ρ f => dt (e ρ f) fun d f1 => match T.put d ρ with
  | some ρ2 => .ok (.nx ρ2) f1
  | none => .no
theorem ds_asg {tg : Expr} {T : Tgt} (he : DE X (fun _ => E) e x) (hg : PG X tg (T.rd X.K)) (hs : swapsWithSole [tg] e pos.line X.env = pure false := by rfl) (hw : swappedStores [tg] e X.env = pure none := by rfl)
    (h1 : (assignEach [tg] X.env).map (·.2) = [assign tg X.env] := by rfl) : DS X E (.Assign [tg] e pos) (sAsg T x) := ps_mono (ps_asg he hg hs hw h1) fun D σ H ⟨g, HF, ρ, f, rel, q⟩ =>
  tD_Sdt rel q fun d f1 v G GF r1 s1 dr q1 => by
    cases z : T.put d ρ with
    | none =>
      simp only [z] at q1
      exact (show False from q1).elim
    | some ρ2 =>
      simp only [z] at q1
      exact T.read r1 dr z fun σ2 r2 => (show FinS X.K g D (.nx ρ2) f1 from q1) σ2 G GF r2
/-- a, b = x, y of plain names -/
def sPar (i j : Nat) (a b : Ex) : Sm := fun ρ f => (cArgs [a, b] ρ f).bind fun ds f1 => match ds with
  | [d, e] => .ok (.nx ((ρ.set i (.dat d)).set j (.dat e))) f1
  | _ => .no
theorem args_readS {K : PySem.W.Frag} {mg : Str → Option Value} {β : Type} {P : β → Feed → Prop} (xs : List Ex) {k : List PyData → Feed → R β} {g : Gh} {σ : St} {H HF : Hp} {ρ : Rho} {f : Feed} {Q : List V → Hp → Prop} (r : Rel K g σ H HF ρ f)
    (h : XF K mg g E ((cArgs xs ρ f).bind k) P) (c : ∀ ds f1 vs G GF, Rel K g σ G GF ρ f1 → Step g H HF G GF → DRs K GF vs ds → XF K mg g E (k ds f1) P → Q vs G) : argT K mg (fun _ => E) xs σ H Q := by
  have h2 : ROk K mg g H HF E ((cArgs xs ρ f).bind fun ds f1 => .ok (ds, f1) f1) fun p f1 => XF K mg g E (k p.1 f1) P := by
    have h3 := r.toE h.of_bind
    cases z : cArgs xs ρ f with
    | no => rw [z] at h3; exact h3
    | ok a f => rw [z] at h3; exact h3
    | ex c vs f => rw [z] at h3; exact h3
  exact args_read (W := fun _ => E) xs r h2 fun ds f1 vs G GF r1 s1 drs q => c ds f1 vs G GF r1 s1 drs q
theorem ds_par {i j : Nat} {y z : Str} {ea eb : Expr} {xa xb : Ex} {px py pt : Pos} {kt k2 pt2} (hc : X.calm = true) (hN : X.N.Nodup) (hi : X.N[i]? = some y) (hj : X.N[j]? = some z) (hij : i ≠ j)
    (hx : X.env.scope.names.lookup y = some .local) (hy : X.env.scope.names.lookup z = some .local) (ha : DA X (fun _ => E) [ea, eb] [xa, xb])
    (hw : swappedStores [.Tuple [.Name y px, .Name z py] kt pt] (.Tuple [ea, eb] k2 pt2) X.env = pure (some [y, z]))
    (hs : swapsWithSole [.Tuple [.Name y px, .Name z py] kt pt] (.Tuple [ea, eb] k2 pt2) pos.line X.env = pure false := by rfl) :
    DS X E (.Assign [.Tuple [.Name y px, .Name z py] kt pt] (.Tuple [ea, eb] k2 pt2) pos) (sPar i j xa xb) := ps_mono (ps_par hc hN hi hj hij hx hy ha hw hs) fun D σ H ⟨g, HF, ρ, f, rel, q⟩ =>
  args_readS [xa, xb] rel q fun ds f1 vs G GF r1 s1 drs q1 => by
    cases drs with
    | nil => exact (show False from q1).elim
    | cons h1 t1 =>
      cases t1 with
      | nil => exact (show False from q1).elim
      | cons h2 t2 =>
        cases t2 with
        | cons _ _ => exact (show False from q1).elim
        | nil => exact ⟨_, _, rfl, (show FinS X.K g D (.nx _) f1 from q1) _ G GF ((r1.putD h1).putD h2)⟩
def sApp (i : Nat) (e : Ex) : Sm := fun ρ f => match ρ[i]? with
  | some (.own ds) => dt (e ρ f) fun d f1 => if ds.length < 100000 then .ok (.nx (ρ.set i (.own (ds ++ [d])))) f1 else .no
  | _ => .no
theorem own_here {K : PySem.W.Frag} {g : Gh} {σ : St} {H HF : Hp} {ρ : Rho} {f : Feed} {i : Nat} {ds : List PyData} (r : Rel K g σ H HF ρ f) (h : ρ[i]? = some (.own ds)) : ∃ p vs, σ[i]? = some (some (.ref p)) ∧ HF p = none ∧ H p = some (.lst vs) ∧ DRs K HF vs ds := by
  obtain ⟨p, vs, z1, z2, z3, z4, z5⟩ := r.slot i _ h
  exact ⟨p, vs, z1, z3, z4, z5⟩
theorem app_read {K : PySem.W.Frag} {mg : Str → Option Value} {i : Nat} {D : Ends} {σ : St} {H : Hp} (h : tDS K mg E (sApp i x) D σ H) : tDrop (tBM K "list" rAppend (tVar i) (tCons (tD K mg (fun _ => E) x) tNil)) D σ H := by
  obtain ⟨g, HF, ρ, f, rel, q⟩ := h
  unfold sApp at q
  cases z : ρ[i]? with
  | none =>
    simp only [z] at q
    exact (show False from q).elim
  | some s =>
    cases s with
    | own ds =>
      simp only [z] at q
      obtain ⟨p, vs, e1, e2, e3, e4⟩ := own_here rel z
      refine ⟨.ref p, e1, .inl ⟨rfl, vs, .inl (.inl e3)⟩, tD_Sdt rel q fun d f1 v G GF r1 s1 dr q1 => ?_⟩
      obtain ⟨p2, vs2, y1, y2, y3, y4⟩ := own_here r1 z
      rw [e1] at y1
      cases y1
      by_cases c : ds.length < 100000
      · rw [if_pos c] at q1
        exact ⟨p, vs2, v, rfl, rfl, y3, by rw [y4.length]; exact Nat.lt_of_lt_of_le c (by decide), (show FinS K g D (.nx _) f1 from q1) _ _ GF (r1.write z e1 y2 y3 (y4.snoc dr))⟩
      · rw [if_neg c] at q1
        exact (show False from q1).elim
    | _ =>
      simp only [z] at q
      exact (show False from q).elim
def sExt (i : Nat) (e : Ex) : Sm := fun ρ f => match ρ[i]? with
  | some (.own ds) => dt (e ρ f) fun d f1 => match d with
    | .list es => if ds.length + es.length ≤ 100000 then .ok (.nx (ρ.set i (.own (ds ++ es)))) f1 else .no
    | _ => .no
  | _ => .no
theorem ext_read {K : PySem.W.Frag} {mg : Str → Option Value} {i : Nat} {D : Ends} {σ : St} {H : Hp} (h : tDS K mg E (sExt i x) D σ H) : tDrop (tBM K "list" rExtend (tVar i) (tCons (tD K mg (fun _ => E) x) tNil)) D σ H := by
  obtain ⟨g, HF, ρ, f, rel, q⟩ := h
  unfold sExt at q
  cases z : ρ[i]? with
  | none =>
    simp only [z] at q
    exact (show False from q).elim
  | some s =>
    cases s with
    | own ds =>
      simp only [z] at q
      obtain ⟨p, vs, e1, e2, e3, e4⟩ := own_here rel z
      refine ⟨.ref p, e1, .inl ⟨rfl, vs, .inl (.inl e3)⟩, tD_Sdt rel q fun d f1 v G GF r1 s1 dr q1 => ?_⟩
      obtain ⟨p2, vs2, y1, y2, y3, y4⟩ := own_here r1 z
      rw [e1] at y1
      cases y1
      cases d <;> try exact (show False from q1).elim
      rename_i es
      simp only at q1
      by_cases c : ds.length + es.length ≤ 100000
      · rw [if_pos c] at q1
        cases dr with
        | lst h1 h2 => exact ⟨p, _, vs2, _, rfl, rfl, y3, r1.sub _ _ h1, by rw [y4.length, h2.length]; exact line5 c, (show FinS K g D (.nx _) f1 from q1) _ _ GF (r1.write z e1 y2 y3 (y4.append h2))⟩
      · rw [if_neg c] at q1
        exact (show False from q1).elim
    | _ =>
      simp only [z] at q
      exact (show False from q).elim
section
variable {i : Nat} {y : Str} {o : Expr} {pos2 apos cpos : Pos}
theorem ds_app (ho : PE X o (tVar i)) (he : DE X (fun _ => E) e x)
    (hbase : attributeBase o "append" X.env (eval o X.env) = eval o X.env := by rfl)
    (hfew : ((backTo cpos (starEach [e] X.env)).all (fun x => !x.1) && (backToKw cpos (keywordEach [] X.env)).all (fun x => x.1.isSome)
      && decide ([e].length + ([] : List Keyword).length + (if ([] : List Keyword).isEmpty then 0 else 1) < 30)) = true := by rfl)
    (hline : (apos.endLine == cpos.line) = true := by rfl) (hst : starEach [e] X.env = (false, eval e X.env) :: starEach [] X.env := by rfl)
    (hs : swapsWith (.Call (.Attribute o "append" apos) [e] [] cpos) none pos.line X.env = pure false := by rfl) : DS X E (.Expr (.Call (.Attribute o "append" apos) [e] [] cpos) pos) (sApp i x) :=
  ps_mono (ps_expr (pe_bm PySem.F.plainAttrs_list PySem.F.slot_list_append PySem.F.type_list_append mt_append ho (pa_cons he pa_nil hst) hbase hfew hline hst rfl) hs) fun _ _ _ q => app_read q
theorem ds_ext (ho : PE X o (tVar i)) (he : DE X (fun _ => E) e x)
    (hbase : attributeBase o "extend" X.env (eval o X.env) = eval o X.env := by rfl)
    (hfew : ((backTo cpos (starEach [e] X.env)).all (fun x => !x.1) && (backToKw cpos (keywordEach [] X.env)).all (fun x => x.1.isSome)
      && decide ([e].length + ([] : List Keyword).length + (if ([] : List Keyword).isEmpty then 0 else 1) < 30)) = true := by rfl)
    (hline : (apos.endLine == cpos.line) = true := by rfl) (hst : starEach [e] X.env = (false, eval e X.env) :: starEach [] X.env := by rfl)
    (hs : swapsWith (.Call (.Attribute o "extend" apos) [e] [] cpos) none pos.line X.env = pure false := by rfl) : DS X E (.Expr (.Call (.Attribute o "extend" apos) [e] [] cpos) pos) (sExt i x) :=
  ps_mono (ps_expr (pe_bm PySem.F.plainAttrs_list PySem.F.slot_list_extend PySem.F.type_list_extend mt_extend ho (pa_cons he pa_nil hst) hbase hfew hline hst rfl) hs) fun _ _ _ q => ext_read q
end
def sPut (i : Nat) (ix e : Ex) : Sm := fun ρ f => match ρ[i]? with
  | some (.own ds) => dt (e ρ f) fun d f1 => pk (ix ρ f1) fun k f2 => match k with
    | .int k => match ixN ds.length k with
      | some j => .ok (.nx (ρ.set i (.own (ds.set j d)))) f2
      | none => .no
    | _ => .no
  | _ => .no
theorem put_read {K : PySem.W.Frag} {mg : Str → Option Value} {i : Nat} {xi : Ex} {D : Ends} {σ : St} {H : Hp} (h : tDS K mg E (sPut i xi x) D σ H) : tAsg (tD K mg (fun _ => E) x) (gSub (tVar i) (tD K mg (fun _ => E) xi) rSetL) D σ H := by
  obtain ⟨g, HF, ρ, f, rel, q⟩ := h
  unfold sPut at q
  cases z : ρ[i]? with
  | none =>
    simp only [z] at q
    exact (show False from q).elim
  | some s =>
    cases s with
    | own ds =>
      simp only [z] at q
      refine tD_Sdt rel q fun d f1 v G GF r1 s1 dr q1 => ?_
      obtain ⟨p, vs, e1, e2, e3, e4⟩ := own_here r1 z
      refine ⟨.ref p, e1, tD_Spk r1 q1 fun k f2 w I IF r2 s2 t2 q2 => ?_⟩
      obtain ⟨p2, vs2, y1, y2, y3, y4⟩ := own_here r2 z
      rw [e1] at y1
      cases y1
      cases k <;> try exact (show False from q2).elim
      rename_i k
      simp only at q2
      cases zz : ixN ds.length k with
      | none =>
        simp only [zz] at q2
        exact (show False from q2).elim
      | some j =>
        simp only [zz] at q2
        exact ⟨p, vs2, k, j, rfl, t2.int, y3, by rw [y4.length]; exact zz, (show FinS K g D (.nx _) f2 from q2) _ _ IF (r2.write z e1 y2 y3 (y4.set j (dr.mono s2.le)))⟩
    | _ =>
      simp only [z] at q
      exact (show False from q).elim
theorem ds_put {i : Nat} {o ie : Expr} {xi : Ex} {tpos : Pos} (ho : PE X o (tVar i)) (hi : DE X (fun _ => E) ie xi) (he : DE X (fun _ => E) e x)
    (ha : ∀ v, assign (.Subscript o ie tpos) X.env v = (do
      let ov ← holding [v] (eval o X.env)
      let iv ← holding [v, ov] (eval ie X.env)
      standAt tpos
      holding [v, ov, iv] (setItem ov iv v)
      release [v, ov, iv] []) := by intro _; rfl)
    (hs : swapsWithSole [.Subscript o ie tpos] e pos.line X.env = pure false := by rfl) (hw : swappedStores [.Subscript o ie tpos] e X.env = pure none := by rfl)
    (h1 : (assignEach [.Subscript o ie tpos] X.env).map (·.2) = [assign (.Subscript o ie tpos) X.env] := by rfl) : DS X E (.Assign [.Subscript o ie tpos] e pos) (sPut i xi x) :=
  ps_mono (ps_asg he (pg_sub ho hi set_list ha) hs hw h1) fun _ _ _ q => put_read q
def sFrz (i : Nat) : Sm := fun ρ f => match ρ[i]? with
  | some (.own ds) => .ok (.nx (ρ.set i (.dat (.list ds)))) f
  | _ => .ok (.nx ρ) f
end
end Dn
end
section
set_option maxHeartbeats 4000000
namespace Dn
open PySem PySem.Spec L2
section
variable {K : PySem.W.Frag} {mg : Str → Option Value} {E : XK} {g : Gh} {σ : St} {H HF : Hp} {ρ : Rho} {f : Feed}
theorem Rel.frz {i : Nat} {ds : List PyData} (r : Rel K g σ H HF ρ f) (h : ρ[i]? = some (.own ds)) : ∃ GF, Rel K g σ H GF (ρ.set i (.dat (.list ds))) f := by
  obtain ⟨p, vs, e1, e2, e3, e4, e5⟩ := r.slot i _ h
  have l : Le HF (upd HF p (.lst vs)) := fun a o q => by
    rw [upd_ne (ne_of_none q e3)]
    exact q
  have np : g.fa ≠ p := fun q => ne_fa r.feed e4 q.symm
  refine ⟨upd HF p (.lst vs), ⟨fun a o q => ?_, ⟨r.feed.d, ?_, l _ _ r.feed.c⟩, r.ext, r.le.trans l, fun a x y => ?_, ?_, fun j x e => ?_, fun a b xs ys ea eb ee => ?_, fun a b xs ys ea eb ee => ?_, r.bd.to (fun a dss e => by
    rcases set_get e with ⟨a1, a2, a3⟩ | ⟨a1, a2⟩
    · cases a3
    · exact ⟨⟨_, a2⟩, rfl⟩) (fun a es2 e => by
    rcases set_get e with ⟨a1, a2, a3⟩ | ⟨a1, a2⟩
    · cases a3
    · exact ⟨⟨_, a2⟩, rfl⟩) fun a dss p2 qs e1 e2 e3 => e3⟩⟩
  · by_cases z : a = p
    · subst z
      rw [upd_same] at q
      rw [e4]
      exact q
    · rw [upd_ne z] at q
      exact r.sub a o q
  · rw [upd_ne np]
    exact r.feed.nf
  · rw [upd_ne (fun z => x.some (by rw [z]; exact e2))]
    exact r.new a x y
  · rw [List.length_set, r.len]
  · rcases set_get e with ⟨z1, z2, z3⟩ | ⟨z1, z2⟩
    · subst z1
      subst z3
      exact ⟨.ref p, e1, .lst upd_same (e5.mono l)⟩
    · have k := r.slot j x z2
      cases x with
      | emp => trivial
      | dat d =>
        obtain ⟨v, k1, k2⟩ := k
        exact ⟨v, k1, k2.mono l⟩
      | own fs =>
        obtain ⟨q, ws, k1, k2, k3, k4, k5⟩ := k
        have nq : q ≠ p := fun w => by
          subst w
          exact z1 (r.sep i j ds fs h z2 (e1.trans k1.symm))
        exact ⟨q, ws, k1, k2, by rw [upd_ne nq]; exact k3, k4, k5.mono l⟩
      | feed => exact k
      | scr ns =>
        obtain ⟨a, k1, k2⟩ := k
        exact ⟨a, k1, l.sqL k2⟩
      | dct fs =>
        obtain ⟨q, k1, k2, k3, k4⟩ := k
        have nq : q ≠ p := fun w => by
          subst w
          exact k4.nl e4
        exact ⟨q, k1, k2, by rw [upd_ne nq]; exact k3, k4.mono (fun _ e => e) l⟩
      | key ks =>
        obtain ⟨a, k1, k2⟩ := k
        exact ⟨a, k1, l _ _ k2⟩
      | brd dss =>
        obtain ⟨q, qs, k1, k2⟩ := k
        have n := r.bd.2 j i dss ds q p qs z2 h k1 e1 k2.1
        exact ⟨q, qs, k1, k2.keep (fun a m => rfl) (fun a m => by
          rw [upd_ne (fun z => n (by rw [← z]; exact m))]
          exact (k2.2.2.1 a m).2) l⟩
  · rcases set_get ea with ⟨a1, a2, a3⟩ | ⟨a1, a2⟩
    · cases a3
    · rcases set_get eb with ⟨b1, b2, b3⟩ | ⟨b1, b2⟩
      · cases b3
      · exact r.sep a b xs ys a2 b2 ee
  · rcases set_get ea with ⟨a1, a2, a3⟩ | ⟨a1, a2⟩
    · cases a3
    · rcases set_get eb with ⟨b1, b2, b3⟩ | ⟨b1, b2⟩
      · cases b3
      · exact r.sepD a b xs ys a2 b2 ee
end
theorem dss_frz {X : Cx} {E : XK} {sts : List Stmt} {s : Sm} (i : Nat) (h : DSs X E sts s) : DSs X E sts (sSeq (sFrz i) s) := pss_mono h fun D σ H ⟨g, HF, ρ, f, rel, q⟩ => by
  unfold sSeq sFrz at q
  cases z : ρ[i]? with
  | none =>
    simp only [z] at q
    exact ⟨g, HF, ρ, f, rel, q⟩
  | some x =>
    cases x with
    | own ds =>
      simp only [z] at q
      obtain ⟨GF, r2⟩ := rel.frz z
      exact ⟨g, GF, _, f, r2, q⟩
    | _ =>
      simp only [z] at q
      exact ⟨g, HF, ρ, f, rel, q⟩
def whileN (t : Tx) (s : Sm) : Nat → Rho → Feed → R Ctl
  | 0, _, _ => .no
  | n + 1, ρ, f => (t ρ f).bind fun b f1 => if b = true then (s ρ f1).bind fun c f2 => match c with
      | .nx ρ2 => whileN t s n ρ2 f2
      | .ct ρ2 => whileN t s n ρ2 f2
      | .bk ρ2 => .ok (.nx ρ2) f2
      | .rt v => .ok (.rt v) f2
    else .ok (.nx ρ) f1
open Classical in
noncomputable def sWhile (t : Tx) (s : Sm) : Sm := fun ρ f => if h : ∃ n, whileN t s n ρ f ≠ .no then whileN t s (Classical.choose h) ρ f else .no
theorem whileN_succ {t : Tx} {s : Sm} : ∀ {n : Nat} {ρ : Rho} {f : Feed}, whileN t s n ρ f ≠ .no → whileN t s (n + 1) ρ f = whileN t s n ρ f
  | 0, ρ, f, h => absurd rfl h
  | n + 1, ρ, f, h => by
    unfold whileN at h ⊢
    cases e1 : t ρ f with
    | no => rfl
    | ex c v f => rfl
    | ok b f1 =>
      simp only [e1, R.bind] at h ⊢
      cases b with
      | false => rfl
      | true =>
        simp only [if_true] at h ⊢
        cases e2 : s ρ f1 with
        | no => rfl
        | ex c v f => rfl
        | ok c f2 =>
          simp only [e2] at h ⊢
          cases c with
          | nx ρ2 => exact whileN_succ h
          | ct ρ2 => exact whileN_succ h
          | bk ρ2 => rfl
          | rt v => rfl
theorem whileN_add {t : Tx} {s : Sm} {n : Nat} {ρ : Rho} {f : Feed} (h : whileN t s n ρ f ≠ .no) : ∀ k, whileN t s (n + k) ρ f = whileN t s n ρ f
  | 0 => rfl
  | k + 1 => by
    have ih := whileN_add h k
    rw [← Nat.add_assoc, whileN_succ (by rw [ih]; exact h), ih]
theorem sWhile_eq {t : Tx} {s : Sm} {n : Nat} {ρ : Rho} {f : Feed} {r : R Ctl} (h : whileN t s n ρ f = r) (hr : r ≠ .no) : sWhile t s ρ f = r := by
  have hx : ∃ n, whileN t s n ρ f ≠ .no := ⟨n, by rw [h]; exact hr⟩
  unfold sWhile
  rw [dif_pos hx, ← h]
  have c := Classical.choose_spec hx
  have a1 := whileN_add c n
  have a2 := whileN_add (show whileN t s n ρ f ≠ .no by rw [h]; exact hr) (Classical.choose hx)
  rw [← a1, ← a2, Nat.add_comm]
section
variable {X : Cx} {E : XK} {t : Tx} {s : Sm} {c : Expr} {body : List Stmt} {pos : Pos}
theorem while_read {K : PySem.W.Frag} {mg : Str → Option Value} {D : Ends} {σ : St} {H : Hp} (h : tDS K mg E (sWhile t s) D σ H) : tWhile (tDT K mg (fun _ => E) t) (tDS K mg E s) D σ H := by
  obtain ⟨g, HF, ρ, f, rel, q⟩ := h
  unfold sWhile at q
  by_cases hx : ∃ n, whileN t s n ρ f ≠ .no
  · rw [dif_pos hx] at q
    refine ⟨fun m σ H => ∃ HF ρ f, Rel K g σ H HF ρ f ∧ XF K mg g E (whileN t s m ρ f) (FinS K g D), ⟨_, HF, ρ, f, rel, q⟩, fun m σ H hW => ?_⟩
    obtain ⟨HF, ρ, f, rel, q⟩ := hW
    cases m with
    | zero => exact (show False from q).elim
    | succ m =>
      refine tDT_S rel q fun b f1 G GF r1 s1 q1 => ?_
      cases b with
      | false => exact iteF ((show FinS K g D (.nx ρ) f1 from q1) σ G GF r1)
      | true =>
        refine iteT ⟨fun σ H => ∃ HF ρ f, Rel K g σ H HF ρ f ∧ XF K mg g E (whileN t s m ρ f) (FinS K g D), fun σ2 H2 z => ⟨m, Nat.lt_succ_self m, z⟩, g, GF, ρ, f1, r1, (XF.of_bind q1).mono fun c f2 k => ?_⟩
        cases c with
        | nx ρ2 => exact fun σ2 I IF r2 => ⟨IF, ρ2, f2, r2, k⟩
        | ct ρ2 => exact fun σ2 I IF r2 => ⟨IF, ρ2, f2, r2, k⟩
        | bk ρ2 => exact k
        | rt v => exact k
  · rw [dif_neg hx] at q
    exact (show False from q).elim
theorem ds_while (hp : PassesOwn (model X.prog X.w) X.A X.env X.xe) (hc : DT X (fun _ => E) c t) (hb : DSs X E body s) : DS X E (.While c body [] pos) (sWhile t s) := ps_mono (ps_while hp hc hb) fun _ _ _ q => while_read q
end
structure New (I IF G GF : Hp) : Prop where
  ext : ∀ a o, I a = some o → G a = some o
  le : Le IF GF
  new : ∀ a, Mo I a → IF a = none → GF a = none
  sub : Le GF G
theorem New.step {g : Gh} {I IF G GF : Hp} (n : New I IF G GF) : Step g I IF G GF := ⟨fun a o _ e => n.ext a o e, n.le, n.new, n.sub⟩
theorem New.feed {g : Gh} {I IF G GF : Hp} {f : Feed} (n : New I IF G GF) (h : FeedAt g I IF f) : FeedAt g G GF f := ⟨n.ext _ _ h.d, n.new _ (mo h.d) h.nf, n.le _ _ h.c⟩
structure Yields (K : PySem.W.Frag) (J : It) (GF : Hp) (ds : List PyData) : Prop where
  go : ∀ i I IF, Le GF IF → Le IF I → i < ds.length → J.go i I
  yld : ∀ (i : Nat) I IF x I2, Le GF IF → Le IF I → i < ds.length → J.yld i I x I2 → ∃ IF2 d, ds[i]? = some d ∧ New I IF I2 IF2 ∧ DR K IF2 x d
  stop : ∀ i I IF, Le GF IF → Le IF I → i = ds.length → J.stop i I
abbrev Ix := Rho → Feed → R (List PyData)
def tDI (K : PySem.W.Frag) (mg : Str → Option Value) (W : Wish) (it : Ix) : TI := fun σ H Z => ∃ g HF ρ f, Rel K g σ H HF ρ f ∧ ROk K mg g H HF (W σ) (it ρ f) fun ds f1 => ∀ J G GF, Step g H HF G GF → FeedAt g G GF f1 → Yields K J GF ds → Z J G
abbrev DI (X : Cx) (W : Wish) (tg e : Expr) (it : Ix) : Prop := PI X tg e (tDI X.K X.mg W it)
theorem pi_mono {X : Cx} {tg e : Expr} {w w2 : TI} (h : PI X tg e w) (i : ∀ σ H Z, w2 σ H Z → w σ H Z) : PI X tg e w2 := ⟨fun pins s σ H Z I q => h.run pins s σ H Z I (i σ H Z q)⟩
def iSq (K : PySem.W.Frag) (tl : TE) : TI := fun σ H Z => tl σ H fun x H1 => ∃ a, x = .ref a ∧ (((∃ xs, SqL K H1 a xs) ∧ Z (Itl K a) H1) ∨ ((∃ xs, SqT K H1 a xs) ∧ Z (Itt K a) H1))
theorem pi_sq {X : Cx} {tg l : Expr} {tl : TE} (hl : PE X l tl) : PI X tg l (iSq X.K tl) := by
  refine ⟨fun pins s σ H Z I h => thn (hl.run pins s σ H _ I h) fun v s1 ⟨x, H1, I1, rx, a, ex, q⟩ => ?_⟩
  subst ex
  cases rx
  have fresh : ∀ b, b ∈ [s1.heap.objs.size] → FpOk X pins H1 b := fun b hb => by
    have e : b = s1.heap.objs.size := by simpa using hb
    rw [e]
    exact I1.fpOk (Nat.le_refl _) (I1.hok.fresh (Nat.le_refl _))
  rcases q with ⟨⟨xs, hq⟩, q⟩ | ⟨⟨xs, hq⟩, q⟩
  · obtain ⟨its, rv, p, hz⟩ := I1.list hq
    exact wpAny_pyIter_list p.isList ⟨_, [s1.heap.objs.size], _, _, H1, rfl, I1.kept (t' := s1.toks) fun b o e => Heap.get?_push_of_some _ e, turn_list a _, ⟨_, Heap.get?_push_size _ rfl, rfl, rfl⟩, fresh, q⟩
  · obtain ⟨its, rv, p, hz⟩ := I1.tuple hq
    exact wpAny_pyIter_tuple (show s1.heap.IsTuple a its.toArray from p) ⟨_, [s1.heap.objs.size], _, _, H1, rfl, I1.kept (t' := s1.toks) fun b o e => Heap.get?_push_of_some _ e, turn_tuple a _, ⟨_, Heap.get?_push_size _ rfl, rfl, rfl⟩, fresh, q⟩
def iSeq (e : Ex) : Ix := fun ρ f => dt (e ρ f) fun d f1 => match seqOf d with
  | some ds => .ok ds f1
  | none => .no
section
variable {K : PySem.W.Frag} {H : Hp} {a : Addr} {vs : List V} {ds : List PyData}
theorem New.refl {I IF : Hp} (l : Le IF I) : New I IF I IF := ⟨fun _ _ h => h, Le.refl _, fun _ _ h => h, l⟩
theorem yields_list (h : H a = some (.lst vs)) (r : DRs K H vs ds) : Yields K (Itl K a) H ds where
  go := fun i I IF l1 l2 hi => by
    have hv : i < vs.length := by
      rw [r.length]
      exact hi
    exact ⟨vs, vs[i], .inl (.inl (l2 _ _ (l1 _ _ h))), List.getElem?_eq_getElem hv⟩
  yld := fun i I IF x I2 l1 l2 hi y => by
    obtain ⟨rfl, fx⟩ := y
    obtain ⟨v, e1, e2⟩ := r.get (List.getElem?_eq_getElem hi)
    have ex := fx vs (.inl (.inl (l2 _ _ (l1 _ _ h))))
    rw [e1] at ex
    cases ex
    exact ⟨IF, ds[i], List.getElem?_eq_getElem hi, New.refl l2, e2.mono l1⟩
  stop := fun i I IF l1 l2 hi => ⟨vs, .inl (.inl (l2 _ _ (l1 _ _ h))), by rw [r.length]; omega⟩
theorem yields_tup (h : SqT K H a vs) (r : DRs K H vs ds) : Yields K (Itt K a) H ds where
  go := fun i I IF l1 l2 hi => by
    have hv : i < vs.length := by
      rw [r.length]
      exact hi
    exact ⟨vs, vs[i], (l1.trans l2).sqT h, List.getElem?_eq_getElem hv⟩
  yld := fun i I IF x I2 l1 l2 hi y => by
    obtain ⟨rfl, fx⟩ := y
    obtain ⟨v, e1, e2⟩ := r.get (List.getElem?_eq_getElem hi)
    have ex := fx vs ((l1.trans l2).sqT h)
    rw [e1] at ex
    cases ex
    exact ⟨IF, ds[i], List.getElem?_eq_getElem hi, New.refl l2, e2.mono l1⟩
  stop := fun i I IF l1 l2 hi => ⟨vs, (l1.trans l2).sqT h, by rw [r.length]; omega⟩
end
section
variable {X : Cx} {W : Wish} {tg e e2 : Expr} {x y : Ex} {pos p : Pos}
theorem di_seq (h : DE X W e x) : DI X W tg e (iSeq x) := pi_mono (pi_sq h) fun σ H Z ⟨g, HF, ρ, f, rel, q⟩ =>
  tD_dt rel q fun d f1 v G GF r1 s1 dr q1 => by
    cases d <;> try exact (show False from q1).elim
    · cases dr with
      | lst h1 h2 => exact ⟨_, rfl, .inl ⟨⟨_, .inl (.inl (r1.sub _ _ h1))⟩, q1 _ G GF s1 r1.feed (yields_list h1 h2)⟩⟩
    · cases dr with
      | tup h1 h2 => exact ⟨_, rfl, .inr ⟨⟨_, r1.sub.sqT h1⟩, q1 _ G GF s1 r1.feed (yields_tup h1 h2)⟩⟩
def rangeD (lo : Int) (n : Nat) : List PyData := (List.range n).map fun i => .int (lo + (i : Nat))
theorem rangeD_get {lo : Int} {n i : Nat} (h : i < n) : (rangeD lo n)[i]? = some (.int (lo + (i : Nat))) := by
  unfold rangeD
  rw [List.getElem?_map, List.getElem?_range h]
  rfl
theorem rangeD_length (lo : Int) (n : Nat) : (rangeD lo n).length = n := by
  unfold rangeD
  rw [List.length_map, List.length_range]
theorem yields_range {K : PySem.W.Frag} {GF : Hp} {lo : Int} {n : Nat} : Yields K (Itr lo n) GF (rangeD lo n) where
  go := fun i I IF l1 l2 hi => by
    rw [rangeD_length] at hi
    exact hi
  yld := fun i I IF x I2 l1 l2 hi y => by
    rw [rangeD_length] at hi
    obtain ⟨e1, e2⟩ := y
    subst e1
    subst e2
    exact ⟨IF, _, rangeD_get hi, New.refl l2, .int _⟩
  stop := fun i I IF l1 l2 hi => by
    rw [rangeD_length] at hi
    exact Nat.le_of_eq hi.symm
def smallI (i : Int) : Bool := decide (-(2 ^ 62) ≤ i) && decide (i < 2 ^ 62)
theorem smallI_of {i : Int} (h : smallI i = true) : -(2 ^ 62) ≤ i ∧ i < 2 ^ 62 := by
  obtain ⟨h1, h2⟩ := Bool.and_eq_true_iff.mp h
  exact ⟨of_decide_eq_true h1, of_decide_eq_true h2⟩
def iRange1 (e : Ex) : Ix := fun ρ f => pk (e ρ f) fun d f1 => match d with
  | .int n => if smallI n = true then .ok (rangeD 0 n.toNat) f1 else .no
  | _ => .no
def iRange2 (a b : Ex) : Ix := fun ρ f => pk (a ρ f) fun d f1 => pk (b ρ f1) fun d2 f2 => match d, d2 with
  | .int i, .int j => if (smallI i && smallI j) = true then .ok (rangeD i (j - i).toNat) f2 else .no
  | _, _ => .no
theorem di_range1 (hg : Gl X "range") (hm : X.mg "range" = none) (h : DE X W e x) (hs : starEach [e] X.env = (false, eval e X.env) :: starEach [] X.env := by rfl) : DI X W tg (.Call (.Name "range" p) [e] [] pos) (iRange1 x) :=
  pi_mono (pi_range1 hg hm (pa_cons h pa_nil hs) hs) fun σ H Z ⟨g, HF, ρ, f, rel, q⟩ => tD_pk rel q fun d f1 v G GF r1 s1 t1 q1 => by
    cases d <;> try exact (show False from q1).elim
    rename_i n
    simp only at q1
    by_cases c : smallI n = true
    · rw [if_pos c] at q1
      have ev := t1.int
      subst ev
      exact ⟨n, rfl, (smallI_of c).1, (smallI_of c).2, (show ∀ J G2 GF2, Step g H HF G2 GF2 → FeedAt g G2 GF2 f1 → Yields X.K J GF2 (rangeD 0 n.toNat) → Z J G2 from q1) _ G GF s1 r1.feed yields_range⟩
    · rw [if_neg c] at q1
      exact (show False from q1).elim
theorem di_range2 (hg : Gl X "range") (hm : X.mg "range" = none) (h : DE X W e x) (h2 : DE X W e2 y) (hs : starEach [e, e2] X.env = (false, eval e X.env) :: starEach [e2] X.env := by rfl)
    (hs2 : starEach [e2] X.env = (false, eval e2 X.env) :: starEach [] X.env := by rfl) (hs3 : starEach [e, e2] X.env = [(false, eval e X.env), (false, eval e2 X.env)] := by rfl) : DI X W tg (.Call (.Name "range" p) [e, e2] [] pos) (iRange2 x y) :=
  pi_mono (pi_range2 hg hm (pa_cons h (pa_cons h2 pa_nil hs2) hs) hs3 hs2) fun σ H Z ⟨g, HF, ρ, f, rel, q⟩ => tD_pk rel q fun d f1 v G GF r1 s1 t1 q1 => tD_pk r1 q1 fun d2 f2 w I IF r2 s2 t2 q2 => by
    cases d <;> cases d2 <;> try exact (show False from q2).elim
    rename_i i j
    simp only at q2
    by_cases c : (smallI i && smallI j) = true
    · rw [if_pos c] at q2
      obtain ⟨c1, c2⟩ := Bool.and_eq_true_iff.mp c
      have e1 := t1.int
      have e2 := t2.int
      subst e1
      subst e2
      exact ⟨i, j, rfl, ⟨(smallI_of c1).1, (smallI_of c1).2, (smallI_of c2).1, (smallI_of c2).2⟩, (show ∀ J G2 GF2, Step g H HF G2 GF2 → FeedAt g G2 GF2 f2 → Yields X.K J GF2 (rangeD i (j - i).toNat) → Z J G2 from q2) _ I IF (s1.trans r1.feed s2) r2.feed yields_range⟩
    · rw [if_neg c] at q2
      exact (show False from q2).elim
end
abbrev Gh.at (g : Gh) (IF : Hp) : Gh := { g with HF0 := IF }
section
variable {K : PySem.W.Frag} {mg : Str → Option Value} {E : XK} {g : Gh} {σ σ2 : St} {H IF G GF : Hp} {ρ ρ2 : Rho} {f f2 : Feed}
theorem Rel.sharp (r : Rel K g σ H IF ρ f) : Rel K (g.at IF) σ H IF ρ f := ⟨r.sub, ⟨r.feed.d, r.feed.nf, r.feed.c⟩, r.ext, Le.refl _, fun _ _ h => h, r.len, fun i s e => by
  have k := r.slot i s e
  cases s <;> exact k, r.sep, r.sepD, r.bd⟩
theorem Rel.blunt (r : Rel K g σ H IF ρ f) (b : Rel K (g.at IF) σ2 G GF ρ2 f2) : Rel K g σ2 G GF ρ2 f2 := ⟨b.sub, ⟨b.feed.d, b.feed.nf, b.feed.c⟩, b.ext, r.le.trans b.le, fun a x y => b.new a x (r.new a x y), b.len, fun i s e => by
  have k := b.slot i s e
  cases s <;> exact k, b.sep, b.sepD, b.bd⟩
theorem RetOk.blunt {v : V} {rv : RV} (r : Rel K g σ H IF ρ f) (b : RetOk K (g.at IF) G GF f2 v rv) : RetOk K g G GF f2 v rv := ⟨b.sub, ⟨b.feed.d, b.feed.nf, b.feed.c⟩, b.ext, r.le.trans b.le, fun a x y => b.new a x (r.new a x y), by
  have k := b.val
  cases rv <;> exact k⟩
theorem XF.sharp {α : Type} {x : R α} {P : α → Feed → Prop} (r : Rel K g σ H IF ρ f) (h : XF K mg g E x P) : XF K mg (g.at IF) E x P := by
  cases x with
  | no => exact h
  | ok a f => exact h
  | ex c vs f => exact fun C od G GF q b x => h C od G GF q (b.blunt r) x
end
def forN (T : Tgt) (s : Sm) : List PyData → Rho → Feed → R Ctl
  | [], ρ, f => .ok (.nx ρ) f
  | d :: ds, ρ, f => match T.put d ρ with
    | none => .no
    | some ρ1 => (s ρ1 f).bind fun c f1 => match c with
      | .nx ρ2 => forN T s ds ρ2 f1
      | .ct ρ2 => forN T s ds ρ2 f1
      | .bk ρ2 => .ok (.nx ρ2) f1
      | .rt v => .ok (.rt v) f1
def sFor (it : Ix) (T : Tgt) (s : Sm) : Sm := fun ρ f => (it ρ f).bind fun ds f1 => forN T s ds ρ f1
section
variable {X : Cx} {E : XK} {s : Sm} {it : Ix} {T : Tgt}
theorem drop_at {α : Type} {l : List α} {i : Nat} {x : α} (h : l[i]? = some x) : l.drop i = x :: l.drop (i + 1) := by
  obtain ⟨hi, e⟩ := List.getElem?_eq_some_iff.mp h
  rw [List.drop_eq_getElem_cons hi, e]
theorem for_read {K : PySem.W.Frag} {mg : Str → Option Value} {D : Ends} {σ : St} {H : Hp} (h : tDS K mg E (sFor it T s) D σ H) : tFor (tDI K mg (fun _ => E) it) (T.rd K) (tDS K mg E s) D σ H := by
  obtain ⟨g, HF, ρ, f, rel, q⟩ := h
  refine ⟨g, HF, ρ, f, rel, rel.toE ((XF.of_bind q).mono fun ds f1 k J G GF s1 hf Y => ?_)⟩
  have r1 := rel.step s1 hf
  refine ⟨fun i m σ H => i + m = ds.length ∧ ∃ IF ρ f, Rel K g σ H IF ρ f ∧ Le GF IF ∧ XF K mg g E (forN T s (ds.drop i) ρ f) (FinS K g D), ⟨ds.length, by omega, GF, ρ, f1, r1, Le.refl _, k⟩, fun i m σ H hW => ?_⟩
  obtain ⟨em, IF, ρ, f, r2, l2, q2⟩ := hW
  by_cases hi : i < ds.length
  · refine .inr ⟨Y.go i H IF l2 r2.sub hi, fun σ H => ∃ IF ρ f, Rel K g σ H IF ρ f ∧ Le GF IF ∧ XF K mg g E (forN T s (ds.drop (i + 1)) ρ f) (FinS K g D), fun σ2 H2 z => ⟨m - 1, by omega, by omega, z⟩, fun x I2 y => ?_⟩
    obtain ⟨IF2, d, e1, n, dr⟩ := Y.yld i H IF x I2 l2 r2.sub hi y
    rw [drop_at e1] at q2
    unfold forN at q2
    have r3 := r2.step (n.step (g := g)) (n.feed r2.feed)
    cases z : T.put d ρ with
    | none =>
      simp only [z] at q2
      exact (show False from q2).elim
    | some ρ1 =>
      simp only [z] at q2
      refine T.read r3 dr z fun σ2 r4 => ⟨g.at IF2, IF2, ρ1, f, r4.sharp, ((XF.of_bind q2).sharp r4).mono fun c f2 k => ?_⟩
      cases c with
      | nx ρ2 => exact fun σ3 G2 GF2 r5 => ⟨GF2, ρ2, f2, r4.blunt r5, (l2.trans n.le).trans r5.le, k⟩
      | ct ρ2 => exact fun σ3 G2 GF2 r5 => ⟨GF2, ρ2, f2, r4.blunt r5, (l2.trans n.le).trans r5.le, k⟩
      | bk ρ2 => exact fun σ3 G2 GF2 r5 => (show FinS K g D (.nx ρ2) f2 from k) σ3 G2 GF2 (r4.blunt r5)
      | rt rv => exact fun v G2 GF2 r5 => (show FinS K g D (.rt rv) f2 from k) v G2 GF2 (r5.blunt r4)
  · have e0 : ds.drop i = [] := List.drop_eq_nil_of_le (by omega)
    rw [e0] at q2
    exact .inl ⟨Y.stop i H IF l2 r2.sub (by omega), (show FinS K g D (.nx ρ) f from q2) σ H IF r2⟩
theorem ds_for {tg e : Expr} {body : List Stmt} {pos : Pos} (hp : PassesOwn (model X.prog X.w) X.A X.env X.xe) (hc : X.calm = true) (hi : DI X (fun _ => E) tg e it) (hg : PG X tg (T.rd X.K)) (hb : DSs X E body s)
    (hs : ∀ x, foldedSetIterable e X.env x = pure x := by intro _; rfl) : DS X E (.For tg e body [] pos) (sFor it T s) := ps_mono (ps_for hp hc hi hg hb hs) fun _ _ _ q => for_read q
end
def wipeR (ρ : Rho) : List Nat → Rho
  | [] => ρ
  | v :: vs => (wipeR ρ vs).set v .emp
def noEx {α : Type} : R α → R α
  | .ex _ _ _ => .no
  | r => r
def Tgt.own : Tgt → List Nat
  | .one i => [i]
  | .many l => l
def lcN (T : Tgt) (t : Tx) (e : Ex) (ρ : Rho) : List PyData → List PyData → Feed → R (List PyData)
  | [], acc, f => .ok acc f
  | d :: ds, acc, f => match T.put d ρ with
    | none => .no
    | some ρ1 => (noEx (t ρ1 f)).bind fun b f1 => if b = true then dt (noEx (e ρ1 f1)) fun y f2 => if acc.length < 100000 then lcN T t e ρ ds (acc ++ [y]) f2 else .no
      else lcN T t e ρ ds acc f1
def cLc (it : Ix) (T : Tgt) (t : Tx) (e : Ex) (vs : List Nat) : Ex := fun ρ f => (it ρ f).bind fun ds f1 => (lcN T t e (wipeR ρ vs) ds [] f1).bind fun ys f2 => .ok (.own ys) f2
def noW : Wish := fun _ _ _ _ => False
section
theorem wipe_get (σ : St) (i : Nat) : ∀ vs : List Nat, (wipe σ vs)[i]? = if i ∈ vs ∧ i < σ.length then some none else σ[i]?
  | [] => by simp [wipe]
  | v :: vs => by
    unfold wipe
    rw [List.getElem?_set, wipe_get σ i vs, wipe_length]
    by_cases e : v = i
    · subst e
      by_cases q : v < σ.length
      · simp [q]
      · have z : σ[v]? = none := List.getElem?_eq_none (by omega)
        simp [q, z]
    · have e2 : ¬ i = v := fun h => e h.symm
      simp [e, e2]
theorem wipe_set {σ : St} {vs : List Nat} {j : Nat} (h : j ∈ vs) (x : Option V) : wipe (σ.set j x) vs = wipe σ vs := by
  apply List.ext_getElem?
  intro i
  rw [wipe_get, wipe_get, List.length_set, List.getElem?_set]
  by_cases e : j = i
  · subst e
    by_cases q : j < σ.length
    · simp [q, h]
    · have z : σ[j]? = none := List.getElem?_eq_none (by omega)
      simp [q, z]
  · simp [e]
theorem wipe_wipe (σ : St) (vs : List Nat) : wipe (wipe σ vs) vs = wipe σ vs := by
  apply List.ext_getElem?
  intro i
  rw [wipe_get, wipe_get, wipe_length]
  by_cases e : i ∈ vs ∧ i < σ.length
  · simp [e]
  · simp [e]
theorem wipeR_get (ρ : Rho) (i : Nat) : ∀ vs : List Nat, (wipeR ρ vs)[i]? = if i ∈ vs ∧ i < ρ.length then some .emp else ρ[i]?
  | [] => by simp [wipeR]
  | v :: vs => by
    have hl : ∀ vs : List Nat, (wipeR ρ vs).length = ρ.length := fun vs => by
      induction vs with
      | nil => rfl
      | cons a b ih => unfold wipeR; rw [List.length_set, ih]
    unfold wipeR
    rw [List.getElem?_set, wipeR_get ρ i vs, hl]
    by_cases e : v = i
    · subst e
      by_cases q : v < ρ.length
      · simp [q]
      · have z : ρ[v]? = none := List.getElem?_eq_none (by omega)
        simp [q, z]
    · have e2 : ¬ i = v := fun h => e h.symm
      simp [e, e2]
theorem wipeR_length (ρ : Rho) : ∀ vs : List Nat, (wipeR ρ vs).length = ρ.length
  | [] => rfl
  | v :: vs => by unfold wipeR; rw [List.length_set, wipeR_length ρ vs]
variable {K : PySem.W.Frag} {mg : Str → Option Value} {E : XK} {g : Gh} {σ : St} {H HF : Hp} {ρ : Rho} {f : Feed}
theorem Rel.wiped (r : Rel K g σ H HF ρ f) (vs : List Nat) : Rel K g (wipe σ vs) H HF (wipeR ρ vs) f where
  sub := r.sub
  feed := r.feed
  ext := r.ext
  le := r.le
  new := r.new
  len := by rw [wipe_length, wipeR_length, r.len]
  slot := fun i s e => by
    rw [wipeR_get] at e
    rw [wipe_get, r.len]
    by_cases q : i ∈ vs ∧ i < ρ.length
    · rw [if_pos q] at e
      cases e
      trivial
    · rw [if_neg q] at e ⊢
      exact r.slot i s e
  sep := fun i j ds es e1 e2 e3 => by
    rw [wipeR_get] at e1 e2
    rw [wipe_get, wipe_get, r.len] at e3
    by_cases q : i ∈ vs ∧ i < ρ.length
    · rw [if_pos q] at e1
      cases e1
    · by_cases q2 : j ∈ vs ∧ j < ρ.length
      · rw [if_pos q2] at e2
        cases e2
      · rw [if_neg q] at e1 e3
        rw [if_neg q2] at e2 e3
        exact r.sep i j ds es e1 e2 e3
  sepD := fun i j ds es e1 e2 e3 => by
    rw [wipeR_get] at e1 e2
    rw [wipe_get, wipe_get, r.len] at e3
    by_cases q : i ∈ vs ∧ i < ρ.length
    · rw [if_pos q] at e1
      cases e1
    · by_cases q2 : j ∈ vs ∧ j < ρ.length
      · rw [if_pos q2] at e2
        cases e2
      · rw [if_neg q] at e1 e3
        rw [if_neg q2] at e2 e3
        exact r.sepD i j ds es e1 e2 e3
  bd := r.bd.to (fun a dss e => by
    rw [wipeR_get] at e
    rw [wipe_get, r.len]
    by_cases q : a ∈ vs ∧ a < ρ.length
    · rw [if_pos q] at e
      cases e
    · rw [if_neg q] at e ⊢
      exact ⟨⟨_, e⟩, rfl⟩) (fun a es2 e => by
    rw [wipeR_get] at e
    rw [wipe_get, r.len]
    by_cases q : a ∈ vs ∧ a < ρ.length
    · rw [if_pos q] at e
      cases e
    · rw [if_neg q] at e ⊢
      exact ⟨⟨_, e⟩, rfl⟩) fun a dss p2 qs e1 e2 e3 => e3
/-- an object that no slot holds is written -/
theorem Rel.other {D : Addr} {o : HO} (r : Rel K g σ H HF ρ f) (h0 : g.H0 D = none) (h1 : HF D = none) (h2 : D ≠ g.fa) (h3 : ∀ (i : Nat) (ds : List PyData), ρ[i]? = some (.own ds) → σ[i]? ≠ some (some (.ref D)))
    (h4 : ∀ (i : Nat) (k : Dk), ρ[i]? = some (.dct k) → σ[i]? ≠ some (some (.ref D))) (h5 : ∀ (i : Nat) dss (p : Addr) (qs : List Addr), ρ[i]? = some (.brd dss) → σ[i]? = some (some (.ref p)) → H p = some (.lst (qs.map V.ref)) → D ∉ p :: qs) : Rel K g σ (upd H D o) HF ρ f where
  sub := fun a x e => by
    rw [upd_ne (ne_of_none e h1)]
    exact r.sub a x e
  feed := ⟨by rw [upd_ne (Ne.symm h2)]; exact r.feed.d, r.feed.nf, r.feed.c⟩
  ext := fun a x q e => by
    rw [upd_ne (ne_of_none e h0)]
    exact r.ext a x q e
  le := r.le
  new := r.new
  len := r.len
  slot := fun i s e => by
    have k := r.slot i s e
    cases s with
    | emp => trivial
    | dat d => exact k
    | own ds =>
      obtain ⟨p, vs, z1, z2, z3, z4, z5⟩ := k
      have np : p ≠ D := fun w => h3 i ds e (by rw [z1, w])
      exact ⟨p, vs, z1, z2, z3, by rw [upd_ne np]; exact z4, z5⟩
    | feed => exact k
    | scr ns => exact k
    | dct q =>
      obtain ⟨p, z1, z2, z3, z4⟩ := k
      have np : p ≠ D := fun w => h4 i q e (by rw [z1, w])
      exact ⟨p, z1, z2, z3, z4.mono (fun o e => by rw [upd_ne np]; exact e) (Le.refl _)⟩
    | key ks => exact k
    | brd dss =>
      obtain ⟨p2, qs, z1, z2⟩ := k
      exact ⟨p2, qs, z1, z2.upd (h5 i dss p2 qs e z1 z2.1)⟩
  sep := r.sep
  sepD := r.sepD
  bd := r.bd.to (fun i dss e => ⟨⟨dss, e⟩, rfl⟩) (fun j ds e => ⟨⟨ds, e⟩, rfl⟩) fun a dss p2 qs e1 e2 e3 => by
    obtain ⟨p3, q3, z1, z2⟩ := r.slot a _ e1
    rw [e2] at z1
    cases z1
    have n := h5 a dss p2 q3 e1 e2 z2.1
    rw [upd_ne (fun z => n (by rw [z]; exact List.mem_cons_self))] at e3
    exact e3
theorem gAll_wipe {vs : List Nat} : ∀ {l : List Nat} {xs : List V} {σ : St} {H : Hp} {Q : St → Hp → Prop}, (∀ j ∈ l, j ∈ vs) → gAll l xs σ H Q → gAll l xs σ H fun σ2 H2 => wipe σ2 vs = wipe σ vs ∧ Q σ2 H2
  | [], xs, σ, H, Q, _, h => ⟨h.1, rfl, h.2⟩
  | j :: l, xs, σ, H, Q, hl, h => by
    obtain ⟨v, r, e, h2⟩ := h
    have k := gAll_wipe (fun a ha => hl a (List.mem_cons_of_mem _ ha)) h2
    rw [wipe_set (hl j List.mem_cons_self)] at k
    exact ⟨v, r, e, k⟩
theorem Tgt.wipe {T : Tgt} {vs : List Nat} {v : V} {σ : St} {H : Hp} {Q : St → Hp → Prop} (hl : ∀ j ∈ T.own, j ∈ vs) (h : T.rd K v σ H Q) : T.rd K v σ H fun σ2 H2 => L2.wipe σ2 vs = L2.wipe σ vs ∧ Q σ2 H2 := by
  cases T with
  | one i => exact ⟨wipe_set (hl i (by simp [Tgt.own])) _, h⟩
  | many l =>
    obtain ⟨a, xs, e1, e2, e3, e4⟩ := h
    exact ⟨a, xs, e1, e2, e3, gAll_wipe hl e4⟩
theorem noEx_ok {α : Type} {E2 : XK} {I IF : Hp} {r : R α} {P : α → Feed → Prop} (h : ROk K mg g H HF E (noEx r) P) : ROk K mg g I IF E2 r P := by
  cases r with
  | no => exact h
  | ok a f => exact h
  | ex c vs f => exact (show False from h).elim
theorem lc_read {it : Ix} {T : Tgt} {t : Tx} {e : Ex} {vs : List Nat} {W : Wish} {Q : VK} (hl : ∀ j ∈ T.own, j ∈ vs) (h : tD K mg W (cLc it T t e vs) σ H Q) : tLc (tDI K mg W it) (T.rd K) (tDT K mg noW t) (tD K mg noW e) vs σ H Q := by
  obtain ⟨g, HF, ρ, f, rel, q⟩ := h
  refine ⟨g, HF, ρ, f, rel, q.of_bind.mono fun ds f1 k J G GF s1 hf Y => fun D hD => ?_⟩
  have r1 := rel.step s1 hf
  have w1 := r1.wiped vs
  have hD0 : H D = none := s1.dead hf hD
  have hG0 : g.H0 D = none := rel.dead hD0
  have hfa : D ≠ g.fa := fun z => by
    rw [z] at hD
    exact hf.ne hD
  have h3 : ∀ (i : Nat) (ds : List PyData), (wipeR ρ vs)[i]? = some (.own ds) → (L2.wipe σ vs)[i]? ≠ some (some (.ref D)) := fun i es e1 e2 => by
    obtain ⟨p, us, z1, z2, z3, z4, z5⟩ := w1.slot i _ e1
    rw [z1] at e2
    cases e2
    rw [z4] at hD
    cases hD
  have h3D : ∀ (i : Nat) (k : Dk), (wipeR ρ vs)[i]? = some (.dct k) → (L2.wipe σ vs)[i]? ≠ some (some (.ref D)) := fun i es e1 e2 => by
    obtain ⟨p, z1, z2, z3, z4⟩ := w1.slot i _ e1
    rw [z1] at e2
    cases e2
    exact z4.some hD
  have h3B : ∀ {G' GF' : Hp}, Step g H HF G' GF' → ∀ (i : Nat) dss (p : Addr) (qs : List Addr), (wipeR ρ vs)[i]? = some (.brd dss) → (L2.wipe σ vs)[i]? = some (some (.ref p)) → G' p = some (.lst (qs.map V.ref)) → D ∉ p :: qs := fun {G' GF'} st i dss p qs e1 e2 e3 m => by
    obtain ⟨us, z⟩ := ((rel.wiped vs).bdWas st e1 e2 e3).live m
    rw [hD0] at z
    cases z
  have hGD : GF D = none := by
    cases z : GF D with
    | none => rfl
    | some o =>
      rw [s1.sub _ _ z] at hD
      cases hD
  have stU : ∀ {I IF : Hp} {o : HO}, Step g H HF I IF → IF D = none → Step g H HF (upd I D o) IF := fun {I IF o} s z => ⟨fun a x y e => by
      rw [upd_ne (ne_of_none e hD0)]
      exact s.ext a x y e, s.le, s.new, fun a x e => by
      rw [upd_ne (ne_of_none e z)]
      exact s.sub a x e⟩
  refine ⟨fun i m I => i + m = ds.length ∧ ∃ IF f us acc, Rel K g (L2.wipe σ vs) I IF (wipeR ρ vs) f ∧ Le GF IF ∧ Step g H HF I IF ∧ IF D = none ∧ I D = some (.lst us) ∧ DRs K IF us acc ∧
    ROk K mg g H HF (W σ) ((lcN T t e (wipeR ρ vs) (ds.drop i) acc f).bind fun ys f2 => .ok (.own ys) f2) (Fin K g σ H HF Q), ⟨ds.length, by omega, GF, f1, [], [], w1.other hG0 hGD hfa h3 h3D (h3B s1), Le.refl _, stU s1 hGD, hGD, upd_same, .nil, by rw [List.drop_zero]; exact k⟩, fun i m I hW => ?_⟩
  · obtain ⟨em, IF, f, us, acc, r2, l2, s2, d1, d2, d3, q2⟩ := hW
    by_cases hi : i < ds.length
    · refine .inr ⟨Y.go i I IF l2 r2.sub hi, fun I => ∃ IF f us acc, Rel K g (L2.wipe σ vs) I IF (wipeR ρ vs) f ∧ Le GF IF ∧ Step g H HF I IF ∧ IF D = none ∧ I D = some (.lst us) ∧ DRs K IF us acc ∧
        ROk K mg g H HF (W σ) ((lcN T t e (wipeR ρ vs) (ds.drop (i + 1)) acc f).bind fun ys f2 => .ok (.own ys) f2) (Fin K g σ H HF Q), fun H2 z => ⟨m - 1, by omega, by omega, z⟩, fun x I2 y => ?_⟩
      obtain ⟨IF2, d, e1, n, dr⟩ := Y.yld i I IF x I2 l2 r2.sub hi y
      rw [drop_at e1] at q2
      unfold lcN at q2
      have n1 : Step g I IF I2 IF2 := n.step
      have nf := n.feed r2.feed
      have r3 := r2.step n1 nf
      have aD : ∀ {J2 JF2 f3}, Step g I2 IF2 J2 JF2 → FeedAt g J2 JF2 f3 → JF2 D = none ∧ J2 D = some (.lst us) ∧ DRs K JF2 us acc := fun {J2 JF2 f3} st hf3 => by
        have z1 := n.ext D _ d2
        have z2 : IF2 D = none := n.new D (mo d2) d1
        exact ⟨st.new D (mo z1) z2, st.ext D _ hfa z1, (d3.mono n.le).mono st.le⟩
      cases z : T.put d (wipeR ρ vs) with
      | none =>
        simp only [z] at q2
        exact (show False from q2).elim
      | some ρ1 =>
        simp only [z] at q2
        have ww := wipe_wipe σ vs
        refine (fun hh => by have h9 := T.wipe hl hh; rw [ww] at h9; exact h9) (T.read r3 dr z fun σ2 r4 => ?_)
        rw [bind_bind] at q2
        refine ⟨g, IF2, ρ1, f, r4, noEx_ok ((ROk.of_bind q2).mono fun b f2 k2 J2 JF2 s3 hf3 => ?_)⟩
        have s4 := s2.trans r2.feed (n1.trans nf s3)
        obtain ⟨a1, a2, a3⟩ := aD s3 hf3
        cases b with
        | false =>
          simp only [Bool.false_eq_true, if_false] at k2 ⊢
          exact ⟨JF2, f2, us, acc, (r3.step s3 hf3), (l2.trans n.le).trans s3.le, s4, a1, a2, a3, k2⟩
        | true =>
          simp only [if_true] at k2 ⊢
          rw [dt_bind] at k2
          refine ⟨g, JF2, ρ1, f2, r4.step s3 hf3, noEx_ok ((ROk.of_bind k2).mono fun rv f3 k4 v L LF s5 hf5 rr => ?_)⟩
          cases zz : rv.data with
          | none =>
            simp only [zz] at k4
            exact (show False from k4).elim
          | some y =>
            simp only [zz] at k4
            obtain ⟨MF, s6, hf6, dy⟩ := rr.frz hf5 s5 zz
            have s36 := s3.trans hf3 s6
            obtain ⟨b1, b2, b3⟩ := aD s36 hf6
            by_cases c : acc.length < 100000
            · rw [if_pos c] at k4
              have r7 := (r3.step s36 hf6).other (o := .lst (us ++ [v])) hG0 b1 hfa h3 h3D (h3B (s4.trans hf3 s6))
              refine ⟨us, b2, by rw [b3.length]; exact Nat.lt_of_lt_of_le c (by decide), MF, f3, us ++ [v], acc ++ [y], r7, (l2.trans n.le).trans s36.le, stU (s4.trans hf3 s6) b1, b1, upd_same, b3.snoc dy, k4⟩
            · rw [if_neg c] at k4
              exact (show False from k4).elim
    · have e0 : ds.drop i = [] := List.drop_eq_nil_of_le (by omega)
      rw [e0] at q2
      refine .inl ⟨Y.stop i I IF l2 r2.sub (by omega), ?_⟩
      exact (show Fin K g σ H HF Q (.own acc) f from q2) (.ref D) I IF s2 r2.feed ⟨D, us, rfl, hD0, d1, d2, d3⟩
end
end Dn
end
section
set_option maxHeartbeats 4000000
namespace Dn
open PySem PySem.Spec L2
def cYes : Tx := fun _ f => .ok true f
section
variable {X : Cx} {W : Wish} {E : XK} {tg iter elt : Expr} {ifs : List Expr} {scope : Scope} {own : List (Str × Nat)} {pos spos : Pos} {it : Ix} {T : Tgt} {t : Tx} {e : Ex}
theorem ts_nil : PTs X [] (tDT X.K X.mg noW cYes) := ⟨fun pins s σ H Q I ⟨g, HF, ρ, f, rel, q⟩ => pts_nil.run pins s σ H Q I ((show ∀ G GF, Step g H HF G GF → FeedAt g G GF f → Q true G from q) H HF (Step.refl rel.sub) rel.feed)⟩
theorem ts_one {c : Expr} (h : DT X noW c t) : PTs X [c] (tDT X.K X.mg noW t) := pts_one h
theorem de_lc (hc : X.calm = true) (hN : X.N.Nodup) (hi : DI X W tg iter it) (ok : BlkOk X.N X.env.scope scope own) (hl : ∀ j ∈ T.own, j ∈ own.map (·.2))
    (hg : ∀ (s : Shared) (H : Hp) (C : Addr) (cl : List (Str × Addr)) (fp : List Addr), PG (X.blk s H scope (compEnvC scope cl C X.env) fp) tg (T.rd X.K))
    (ht : ∀ (s : Shared) (H : Hp) (C : Addr) (cl : List (Str × Addr)) (fp : List Addr), PTs (X.blk s H scope (compEnvC scope cl C X.env) fp) ifs (tDT X.K X.mg noW t))
    (he : ∀ (s : Shared) (H : Hp) (C : Addr) (cl : List (Str × Addr)) (fp : List Addr), DE (X.blk s H scope (compEnvC scope cl C X.env) fp) noW elt e)
    (hs : ∀ x, foldedSetIterable iter X.env x = pure x := by intro _; rfl) : DE X W (.ListComp elt [⟨tg, iter, ifs, 0⟩] scope pos) (cLc it T t e (own.map (·.2))) :=
  pe_mono (pe_lc hc hN hi ok hg ht he hs) fun _ _ _ q => lc_read hl q
theorem ds_setLc {i : Nat} {y : Str} {py : Pos} (hc : X.calm = true) (hN : X.N.Nodup) (hy : X.N[i]? = some y) (hyl : X.env.scope.names.lookup y = some .local)
    (hsw : swapsWith (.ListComp elt [⟨tg, iter, ifs, 0⟩] scope pos) (some (.Name y py)) spos.line X.env = pure true) (hi : DI X (fun _ => E) tg iter it) (ok : BlkOk X.N X.env.scope scope own) (hl : ∀ j ∈ T.own, j ∈ own.map (·.2))
    (hg : ∀ (s : Shared) (H : Hp) (C : Addr) (cl : List (Str × Addr)) (fp : List Addr), PG (X.blk s H scope (compEnvC scope cl C X.env) fp) tg (T.rd X.K))
    (ht : ∀ (s : Shared) (H : Hp) (C : Addr) (cl : List (Str × Addr)) (fp : List Addr), PTs (X.blk s H scope (compEnvC scope cl C X.env) fp) ifs (tDT X.K X.mg noW t))
    (he : ∀ (s : Shared) (H : Hp) (C : Addr) (cl : List (Str × Addr)) (fp : List Addr), DE (X.blk s H scope (compEnvC scope cl C X.env) fp) noW elt e)
    (hs : ∀ x, foldedSetIterable iter X.env x = pure x := by intro _; rfl) : DS X E (.Assign [.Name y py] (.ListComp elt [⟨tg, iter, ifs, 0⟩] scope pos) spos) (sSet i (cLc it T t e (own.map (·.2)))) :=
  ps_mono (ps_setLc hc hN hy hyl hsw hi ok hg ht he hs) fun _ _ _ q => lc_read hl (set_read q)
end
structure FnG (P : Program) (w : World) (K : PySem.W.Frag) (mg : Str → Option Value) (base : Heap) (CX : CXT) (k : Nat) (f : Addr) (fd : FuncData) (ps : List Str) (sp : Sp) : Prop where
  size : ∀ vs H Q E, sp vs H Q E → vs.length = ps.length
  go : ∀ (A : Around) (outer : List Env) (s : Shared) (H : Hp) (args : Args) (us : List Value) (vs : List V) (Q : VK) (E : XK), A.guards = some [] → Room k A →
    Env0 P w K mg base A outer s H → BindsTo s fd args (ps.zip us) → Vals vs us → sp vs H Q E → codeAny (model P w) A (.call (.ref f) args) (CR CX outer P w H s Q E) s
theorem FnG.mono {P : Program} {w : World} {K : PySem.W.Frag} {mg : Str → Option Value} {base : Heap} {CX : CXT} {j k : Nat} {f : Addr} {fd : FuncData} {ps : List Str} {sp : Sp} (F : FnG P w K mg base CX j f fd ps sp) (h : j ≤ k) : FnG P w K mg base CX k f fd ps sp :=
  ⟨F.size, fun A o s H a us vs Q E g r => F.go A o s H a us vs Q E g (r.mono h)⟩
section
variable {P : Program} {w : World} {K : PySem.W.Frag} {mg : Str → Option Value} {base : Heap}
/-- a def's body keeps its promise; nothing that is raised leaves it -/
theorem fnG_ok {x qual : Str} {st : Stmt} {f : Addr} {fd : FuncData} {N ps : List Str} {k : Nat} {sp : Sp} (F : Fun K x qual st f fd) (S : FnScope N ps (defScope st)) (size : ∀ vs H Q E, sp vs H Q E → vs.length = ps.length)
    (body : ∀ (cdv : Value) (A : Around) (outer : List Env) (s : Shared) (H : Hp) (vs : List V) (Q : VK) (E : XK), A.guards = some [] → Room k (A.deeper (PyProof.Rows.envOfC qual (defScope st) s.heap.objs.size f cdv)) → sp vs H Q E →
      ∃ t, PSs (cxOf CX0 P w K mg base N qual (defScope st) f cdv A outer s H E).nox (defBody st) t ∧ t { nx := fun _ G => Q .non G, rt := Q } (L2.start N vs) H) : FnG P w K mg base CX0 (k + 1) f fd ps sp := by
  obtain ⟨oc, od, kV, doc, pm, an, cdv, ct, osl, rfl, lk, hcd⟩ := F.ex
  refine ⟨size, fun A outer s H args us vs Q E gd room e0 bnd rel hsp => ?_⟩
  have KX : K.In s.heap := e0.mod.kin.keeps (fun b o e => (e0.bs b o e).1)
  have par : ∀ y ∈ ps.zip us, (defScope st).names.lookup y.1 = some .local ∨
      ((defScope st).names.lookup y.1 = some .cell ∧ ((cellsFrom (s.heap.objs.size + 1) (defScope st).names []).lookup y.1).isSome = true) := by
    intro y hy
    rcases S.par y.1 (List.of_mem_zip hy).1 with q | q
    · exact .inl q
    · exact .inr ⟨q, PySem.W.cellsFrom_some _ _ _ (.inl q)⟩
  refine codeAny_call_function room.depth (KX _ _ lk) rfl S.co S.gen rfl
    (PySem.W.codeRec_of KX hcd) (bnd _ _ _ _ ?_)
  refine wpAny_newFunctionEnv_cells S.kind par ?_
  intro env he s1 x
  subst he
  have lim : s.heap.NoLimit := e0.mod.nolimit.keeps (fun b o e => (e0.bs b o e).1)
  refine ⟨lim.keeps x.toInCall.keep, codeAny_func ?_⟩
  obtain ⟨t, ht, hq⟩ := body cdv A outer s H vs Q E gd (room.deeper _) hsp
  have J0 := inv_start (CX := CX0) (E := E) S room.hd e0 (size _ _ _ _ hsp) rel x
  refine wpAny_mono (ht.nox.run [] s1 (L2.start N vs) H _ J0 hq) ?_ (fun e s' hs => hs)
  intro fl s' hs
  cases fl with
  | next =>
    obtain ⟨σ2, H2, J, q⟩ := hs
    exact ⟨.non, H2, J.os, J.bare, J.base, J.hok, rfl, q⟩
  | ret u =>
    obtain ⟨v, σ2, H2, J, rv, q⟩ := hs
    exact ⟨v, H2, J.os, J.bare, J.base, J.hok, rv, q⟩
  | brk =>
    obtain ⟨_, _, _, q⟩ := hs
    exact q.elim
  | cont =>
    obtain ⟨_, _, _, q⟩ := hs
    exact q.elim
end
section
variable {X : Cx} {CX : CXT} {k : Nat} {f : Addr} {fd : FuncData} {ps : List Str} {sp : Sp} {E : XK} {x : Str} {p pos : Pos} {e : Expr} {es : List Expr} {t : TA}
theorem goG {pins : List (Addr × Obj)} {σ : St} {H : Hp} {s : Shared} {Q : VK} {us : List Value} {vs : List V} (F : FnG X.prog X.w X.K X.mg X.base CX k f fd ps sp) (gd : X.A.guards = some []) (hr : Room k X.A) (hb : Binds X.K fd ps []) (hx : Passes CX X E)
    (I : Inv X pins σ H s) (r : Vals vs us) (h : sp vs H Q E) : wpAny (model X.prog X.w) X.A (call (.ref f) us) (EP X pins σ Q) X.xe s := by
  have hl : (us ++ []).length = ps.length := by
    rw [List.append_nil, ← r.length]
    exact F.size _ _ _ _ h
  have hb2 := hb s us I.kIn hl
  rw [List.append_nil] at hb2
  refine wpAny_call (codeAny_mono (F.go X.A X.stack s H ⟨us, []⟩ us vs Q E gd hr I.env0 hb2 r h) ?_)
  intro res s' hq
  cases res with
  | error e => exact hx pins σ H s e s' I hq
  | ok fl =>
    cases fl with
    | ret u => exact I.after hq
    | next => exact hq.elim
    | brk => exact hq.elim
    | cont => exact hq.elim
theorem callG (F : FnG X.prog X.w X.K X.mg X.base CX k f fd ps sp) (gd : X.A.guards = some []) (hr : Room k X.A) (hg : Gl X x) (hm : X.mg x = some (.ref f)) (hk : PySem.W.keepIn X.K (.ref f) = true) (hb : Binds X.K fd ps []) (hx : Passes CX X E)
    (ha : PA X (e :: es) t) (hdb : (x == ("__debug__" : Str)) = false := by decide) (he : starEach (e :: es) X.env = (false, eval e X.env) :: starEach es X.env := by rfl) (hpl : (backTo pos (starEach es X.env)).any (·.1) = false := by rfl) :
    PE X (.Call (.Name x p) (e :: es) [] pos) (fun σ H Q => t σ H fun vs G => sp vs G Q E) := by
  refine ⟨fun pins s σ H Q I h => wpAny_Call_Name_kw (ld_glob I hg hm ?_ hdb)⟩
  refine PySem.W.callWith_K (h₀ := X.base) I.ok.mod.kin hk (thn (ha.run pos pins s σ H _ I h) ?_) he hpl
  rintro us s1 ⟨vs, H1, I1, r, q⟩
  exact ⟨I1.kIn, goG F gd hr hb hx I1 r q⟩
end
abbrev Fn := List RV → Feed → R RV
def fnSlot : RV → Slot
  | .dat d => .dat d
  | .feed => .feed
  | _ => .emp
/-- what the def's body does, from the arguments -/
def dEnd : R Ctl → R RV := fun r => noEx (r.bind fun c f1 => match c with
  | .nx _ => .ok (.dat .none) f1
  | .rt v => .ok v.up f1
  | _ => .no)
def dBody (n : Nat) (s : Sm) : Fn := fun as f => dEnd (s (as.map fnSlot ++ List.replicate (n - as.length) .emp) f)
theorem dBody_noex (n : Nat) (s : Sm) : ∀ as f c v f2, dBody n s as f ≠ .ex c v f2 := fun as f c v f2 h => by
  unfold dBody dEnd noEx at h
  split at h
  · cases h
  · rename_i h2
    exact h2 c v f2 h
def ARel (K : PySem.W.Frag) (g : Gh) (HF : Hp) (v : V) : RV → Prop
  | .dat d => DR K HF v d
  | .feed => v = .ref g.fa
  | _ => False
theorem ARel.mono {K : PySem.W.Frag} {g : Gh} {HF GF : Hp} (l : Le HF GF) {v : V} {a : RV} (h : ARel K g HF v a) : ARel K g GF v a := by
  cases a with
  | dat d => exact DR.mono l h
  | feed => exact h
  | own ds => exact h
  | lent i ds => exact h
theorem ARels.mono {K : PySem.W.Frag} {g : Gh} {HF GF : Hp} (l : Le HF GF) : ∀ {vs : List V} {as : List RV}, Paired (ARel K g HF) vs as → Paired (ARel K g GF) vs as
  | _, _, .nil => .nil
  | _, _, .cons h r => .cons (h.mono l) (ARels.mono l r)
structure Given (K : PySem.W.Frag) (g : Gh) (H HF : Hp) (vs : List V) (as : List RV) (f : Feed) : Prop where
  sub : Le HF H
  feed : FeedAt g H HF f
  rel : Paired (ARel K g HF) vs as
def Back (K : PySem.W.Frag) (g : Gh) (H HF : Hp) (Q : VK) (rv : RV) (f : Feed) : Prop := ∀ v G GF, Step g H HF G GF → FeedAt g G GF f → RR K g [] H G GF v rv → Q v G
/-- the promise: m the number of parameters -/
def spD (K : PySem.W.Frag) (mg : Str → Option Value) (m : Nat) (F : Fn) : Sp := fun vs H Q E => vs.length = m ∧ ∃ g HF as f, Given K g H HF vs as f ∧ ROk K mg g H HF E (F as f) (Back K g H HF Q)
theorem rep_get {α : Type} {n i : Nat} {x y : α} (h : (List.replicate n x)[i]? = some y) : y = x := by
  rw [List.getElem?_replicate] at h
  by_cases c : i < n
  · rw [if_pos c] at h
    exact (Option.some.inj h).symm
  · rw [if_neg c] at h
    cases h
theorem start_rel {K : PySem.W.Frag} {g : Gh} {H HF : Hp} {vs : List V} {as : List RV} {f : Feed} (N : List Str) (h : Given K g H HF vs as f) : Rel K { g with H0 := H, HF0 := HF } (L2.start N vs) H HF (as.map fnSlot ++ List.replicate (N.length - as.length) .emp) f := by
  have hl : vs.length = as.length := h.rel.length
  have no : ∀ (i : Nat) (ds : List PyData), (as.map fnSlot ++ List.replicate (N.length - as.length) .emp)[i]? ≠ some (.own ds) := fun i ds e => by
    rw [List.getElem?_append] at e
    by_cases c : i < (as.map fnSlot).length
    · rw [if_pos c, List.getElem?_map] at e
      cases z : as[i]? with
      | none => rw [z] at e; cases e
      | some a =>
        rw [z] at e
        cases a <;> cases e
    · rw [if_neg c] at e
      cases rep_get e
  have noD : ∀ (i : Nat) (ds : Dk), (as.map fnSlot ++ List.replicate (N.length - as.length) .emp)[i]? ≠ some (.dct ds) := fun i ds e => by
    rw [List.getElem?_append] at e
    by_cases c : i < (as.map fnSlot).length
    · rw [if_pos c, List.getElem?_map] at e
      cases z : as[i]? with
      | none => rw [z] at e; cases e
      | some a =>
        rw [z] at e
        cases a <;> cases e
    · rw [if_neg c] at e
      cases rep_get e
  have noB : ∀ (i : Nat) (dss : List (List PyData)), (as.map fnSlot ++ List.replicate (N.length - as.length) .emp)[i]? ≠ some (.brd dss) := fun i dss e => by
    rw [List.getElem?_append] at e
    by_cases c : i < (as.map fnSlot).length
    · rw [if_pos c, List.getElem?_map] at e
      cases z : as[i]? with
      | none => rw [z] at e; cases e
      | some a =>
        rw [z] at e
        cases a <;> cases e
    · rw [if_neg c] at e
      cases rep_get e
  refine ⟨h.sub, ⟨h.feed.d, h.feed.nf, h.feed.c⟩, fun _ _ _ e => e, Le.refl _, fun _ _ e => e, ?_, fun i s e => ?_, fun i j ds es e1 => absurd e1 (no i ds), fun i j ds es e1 => absurd e1 (noD i ds), BdSep.noBd noB⟩
  · unfold L2.start
    simp [hl]
  · rw [List.getElem?_append] at e
    unfold L2.start
    rw [List.getElem?_append]
    by_cases c : i < (as.map fnSlot).length
    · have c2 : i < (vs.map some).length := by
        rw [List.length_map] at c ⊢
        omega
      rw [if_pos c] at e
      rw [if_pos c2]
      rw [List.getElem?_map] at e ⊢
      cases z : as[i]? with
      | none => rw [z] at e; cases e
      | some a =>
        rw [z] at e
        have hv : i < vs.length := by
          rw [List.length_map] at c2
          exact c2
        have zv : vs[i]? = some vs[i] := List.getElem?_eq_getElem hv
        obtain ⟨b, zb, hb⟩ := paired_get h.rel zv
        rw [z] at zb
        cases zb
        rw [zv]
        cases a with
        | dat d =>
          cases e
          exact ⟨_, rfl, hb⟩
        | feed =>
          cases e
          exact congrArg (fun q => some (some q)) hb
        | own ds => exact hb.elim
        | lent i ds => exact hb.elim
    · rw [if_neg c] at e
      rw [rep_get e]
      trivial
section
variable {P : Program} {w : World} {K : PySem.W.Frag} {mg : Str → Option Value} {base : Heap}
theorem fnD {x qual : Str} {st : Stmt} {f : Addr} {fd : FuncData} {N ps : List Str} {k : Nat} {s : Sm} (F : Fun K x qual st f fd) (S : FnScope N ps (defScope st))
    (body : ∀ (X : Cx), X.prog = P → X.w = w → X.K = K → X.mg = mg → X.base = base → X.N = N → (∃ (cdv : Value) (A : Around) (outer : List Env) (s : Shared) (H : Hp) (E : XK), A.guards = some [] ∧ Room k (A.deeper (PyProof.Rows.envOfC qual (defScope st) s.heap.objs.size f cdv)) ∧
      X = (cxOf CX0 P w K mg base N qual (defScope st) f cdv A outer s H E).nox) → DSs X (fun _ _ _ => False) (defBody st) s) : FnG P w K mg base CX0 (k + 1) f fd ps (spD K mg ps.length (dBody N.length s)) := by
  refine fnG_ok F S (fun vs H Q E h => h.1) fun cdv A outer s0 H vs Q E gd room h => ?_
  obtain ⟨hl, g, HF, as, fe, hG, hR⟩ := h
  refine ⟨_, body _ rfl rfl rfl rfl rfl rfl ⟨cdv, A, outer, s0, H, E, gd, room, rfl⟩, { g with H0 := H, HF0 := HF }, HF, _, fe, start_rel N hG, ?_⟩
  unfold dBody dEnd at hR
  cases z : s (as.map fnSlot ++ List.replicate (N.length - as.length) .emp) fe with
  | no =>
    rw [z] at hR
    exact (show False from hR).elim
  | ex c v f =>
    rw [z] at hR
    exact (show False from hR).elim
  | ok c f1 =>
    rw [z] at hR
    cases c with
    | nx ρ => exact fun σ G GF r => (show Back K g H HF Q (.dat .none) f1 from hR) .non G GF ⟨r.ext, r.le, r.new, r.sub⟩ ⟨r.feed.d, r.feed.nf, r.feed.c⟩ .non
    | rt rv => exact fun v G GF r => (show Back K g H HF Q rv.up f1 from hR) v G GF ⟨r.ext, r.le, r.new, r.sub⟩ ⟨r.feed.d, r.feed.nf, r.feed.c⟩ (by
        have q := r.val
        cases hq : rv.up with
        | dat d =>
          rw [hq] at q
          exact q
        | own ds =>
          rw [hq] at q
          exact q
        | lent i ds => cases rv <;> cases hq
        | feed =>
          rw [hq] at q
          exact q)
    | bk ρ => exact (show False from hR).elim
    | ct ρ => exact (show False from hR).elim
end
def toArg : RV → Option RV
  | .dat d => some (.dat d)
  | .own ds => some (.dat (.list ds))
  | .feed => some .feed
  | .lent _ _ => none
def cVals : List Ex → Rho → Feed → R (List RV)
  | [], _, f => .ok [] f
  | x :: xs, ρ, f => (x ρ f).bind fun rv f1 => match toArg rv with
    | some a => (cVals xs ρ f1).bind fun as f2 => .ok (a :: as) f2
    | none => .no
def cCall (F : Fn) (xs : List Ex) : Ex := fun ρ f => (cVals xs ρ f).bind fun as f1 => F as f1
section
variable {K : PySem.W.Frag} {mg : Str → Option Value} {W : Wish}
theorem vals_read {β : Type} {P : β → Feed → Prop} : ∀ (xs : List Ex) {k : List RV → Feed → R β} {g : Gh} {σ : St} {H HF : Hp} {ρ : Rho} {f : Feed} {Q : List V → Hp → Prop}, Rel K g σ H HF ρ f →
    ROk K mg g H HF (W σ) ((cVals xs ρ f).bind k) P → (∀ as f1 vs G GF, vs.length = xs.length → Rel K g σ G GF ρ f1 → Step g H HF G GF → Paired (ARel K g GF) vs as → ROk K mg g G GF (W σ) (k as f1) P → Q vs G) → argT K mg W xs σ H Q
  | [], k, g, σ, H, HF, ρ, f, Q, r, h, c => c [] f [] H HF rfl r (Step.refl r.sub) .nil h
  | x :: xs, k, g, σ, H, HF, ρ, f, Q, r, h, c => by
    have h2 : ROk K mg g H HF (W σ) ((x ρ f).bind fun rv f1 => match toArg rv with
        | some a => (cVals xs ρ f1).bind fun as f2 => k (a :: as) f2
        | none => .no) P := by
      have e : ((cVals (x :: xs) ρ f).bind k) = ((x ρ f).bind fun rv f1 => match toArg rv with
          | some a => (cVals xs ρ f1).bind fun as f2 => k (a :: as) f2
          | none => .no) := by
        show ((x ρ f).bind _).bind k = _
        rw [bind_bind]
        congr 1
        funext rv f1
        cases toArg rv with
        | none => rfl
        | some a => exact bind_bind _ _ _
      rw [← e]
      exact h
    have go : ∀ {a : RV} {f1 : Feed} {v : V} {G GF : Hp}, Rel K g σ G GF ρ f1 → Step g H HF G GF → ARel K g GF v a → ROk K mg g G GF (W σ) ((cVals xs ρ f1).bind fun as f2 => k (a :: as) f2) P → argT K mg W xs σ G fun vs H1 => Q (v :: vs) H1 :=
      fun {a f1 v G GF} r1 s1 ha q1 => vals_read xs r1 q1 fun as f2 vs I IF hl r2 s2 drs q3 => c (a :: as) f2 (v :: vs) I IF (congrArg (· + 1) hl) r2 (s1.trans r1.feed s2) (.cons (ha.mono s2.le) drs) q3
    refine ⟨g, HF, ρ, f, r, h2.of_bind.mono fun rv f1 q v G GF s hf rr => ?_⟩
    cases rv with
    | dat d => exact go (a := .dat d) (r.step s hf) s rr (ROk.later q hf s)
    | feed => exact go (a := .feed) (r.step s hf) s rr (ROk.later q hf s)
    | own ds =>
      obtain ⟨IF, s2, h3, dr⟩ := rr.frz hf s (d := .list ds) rfl
      exact go (a := .dat (.list ds)) (r.step s2 h3) s2 dr (ROk.later q h3 s2)
    | lent i ds => exact (show False from q).elim
end
section
variable {X : Cx} {W : Wish} {k : Nat} {f : Addr} {fd : FuncData} {ps : List Str} {F : Fn} {x : Str} {p pos : Pos} {e : Expr} {es : List Expr} {xs : List Ex}
theorem de_call (G : FnG X.prog X.w X.K X.mg X.base CX0 k f fd ps (spD X.K X.mg ps.length F)) (gd : X.A.guards = some []) (hr : Room k X.A) (hg : Gl X x) (hm : X.mg x = some (.ref f)) (hk : PySem.W.keepIn X.K (.ref f) = true) (hb : Binds X.K fd ps [])
    (ha : DA X W (e :: es) xs) (hno : ∀ as f c v f2, F as f ≠ .ex c v f2) (hn : xs.length = ps.length := by rfl) (hdb : (x == ("__debug__" : Str)) = false := by decide) (he : starEach (e :: es) X.env = (false, eval e X.env) :: starEach es X.env := by rfl) (hpl : (backTo pos (starEach es X.env)).any (·.1) = false := by rfl) :
    DE X W (.Call (.Name x p) (e :: es) [] pos) (cCall F xs) := pe_mono (callG (E := fun _ _ _ => False) G gd hr hg hm hk hb pass0 ha hdb he hpl) fun σ H Q ⟨g, HF, ρ, fe, rel, q⟩ =>
  vals_read xs rel q fun as f1 vs I IF hl r1 s1 drs q1 => ⟨hl.trans hn, g, IF, as, f1, ⟨r1.sub, r1.feed, drs⟩, by
    cases z : F as f1 with
    | no =>
      rw [z] at q1
      exact q1
    | ex c v f =>
      rw [z] at q1
      exact (show False from hno as f1 c v f z).elim
    | ok rv f2 =>
      rw [z] at q1
      exact fun v J JF s2 h2 rr => (show Fin X.K g σ H HF Q rv f2 from q1) v J JF (s1.trans r1.feed s2) h2 (rr.any.back r1.feed s1)⟩
end
end Dn
end
section
set_option maxHeartbeats 4000000
namespace Dn
open PySem PySem.Spec L2
def HsB : Bool → Heap → Addr → Array Value → Prop
  | true => fun h a its => h.IsList a its
  | false => fun h a its => h.IsTuple a its
def ItB : Bool → Heap → Addr → Addr → Nat → Prop
  | true => fun h i a n => h.IsListIter i a n
  | false => fun h i a n => h.IsTupleIter i a n
theorem ItB.at {b : Bool} {h h' : Heap} {it a : Addr} {n : Nat} (x : ItB b h it a n) (k : ∀ o, h.get? it = some o → h'.get? it = some o) : ItB b h' it a n := by
  cases b with
  | true => exact Heap.IsListIter.at x k
  | false => exact Heap.IsTupleIter.at x k
theorem ItB.obj {b : Bool} {h : Heap} {it a : Addr} {n : Nat} (x : ItB b h it a n) : ∃ o v w, h.get? it = some o ∧ o.data = .fields #[v, w] := by
  cases b with
  | true => obtain ⟨o, e, _, d⟩ := (x : h.IsListIter it a n); exact ⟨o, _, _, e, d⟩
  | false => obtain ⟨o, e, _, d⟩ := (x : h.IsTupleIter it a n); exact ⟨o, _, _, e, d⟩
theorem HsB.lt {b : Bool} {h : Heap} {a : Addr} {its : Array Value} (x : HsB b h a its) : a < h.objs.size := by
  cases b with
  | true => obtain ⟨o, e, _⟩ := (x : h.IsList a its); exact Heap.lt_size e
  | false => obtain ⟨o, e, _⟩ := (x : h.IsTuple a its); exact Heap.lt_size e
section
variable {prog : Program} {w : World} {A : Around} {E : Value → Shared → Prop} {s : Shared}
end
end Dn
end
section
set_option maxHeartbeats 4000000
namespace Dn
open PySem PySem.Spec L2
open PySem.AutoSeq1 (wpAny_loadPart')
theorem enumT_new (l : Addr) (its : Array Value) (n : Nat) (dct : Option Addr) (sl : Array (Option Value)) :
    Meets (Builtin.«enumerate.__new__» ⟨[.type "enumerate", .ref l], []⟩) (fun _ R s =>
      s.heap.get? l = some { cls := .type "tuple", dict := dct, data := .seq its n, slots := sl } ∧
      R (.ok (.ret (.ref (s.heap.push { cls := .type "tuple_iterator", data := .fields #[.ref l, .int 0 0] }).objs.size)))
        { s with heap := Heap.push (s.heap.push { cls := .type "tuple_iterator", data := .fields #[.ref l, .int 0 0] }) { cls := .type "enumerate", data := .fields #[.none, .bool false, .ref s.heap.objs.size, rawInt 0, .none, .none] } }) :=
  .of_wp fun prog w A R s h => by
    obtain ⟨hp, g, d, tk, os⟩ := s
    obtain ⟨hl, h⟩ := h
    have hsub := sub_enumerate
    have hL : Heap.IsTuple (Shared.heap ⟨hp, g, d, tk, os⟩) l its := ⟨_, hl, rfl, n, rfl⟩
    wp_walk using wpAny_loadPart' hl
    refine wpAny_stack_any fun st => wpAny_pure ?_
    split
    · rename_i c _ _ _ _ _
      cases (c == Value.type "enumerate") <;>
        (wp_walk using wpAny_loadPart' hl, wpAny_pyIter_tuple hL
         exact ⟨_, rfl, h⟩)
    · wp_walk using wpAny_loadPart' hl, wpAny_pyIter_tuple hL
      exact ⟨_, rfl, h⟩
section
variable {prog : Program} {w : World} {A : Around} {E : Value → Shared → Prop} {s : Shared}
theorem enumT_call {l : Addr} {its : Array Value} {Q : Value → Shared → Prop} (hL : s.heap.IsTuple l its)
    (h : ∀ G, IsEnum G (s.heap.objs.size + 1) s.heap.objs.size 0 .none → G.IsTupleIter s.heap.objs.size l 0 → (∀ b o, s.heap.get? b = some o → G.get? b = some o) →
      Q (.ref (s.heap.objs.size + 1)) { s with heap := G }) : wpAny (model prog w) A (call (.type "enumerate") [.ref l]) Q E s := by
  obtain ⟨⟨c, dct, dt, sl⟩, hl, hc, n, hd⟩ := hL
  obtain rfl : c = .type "tuple" := hc
  obtain rfl : dt = .seq its n := hd
  refine callType_new F.called_enumerate (by decide) (F.typeCall_enumerate_1 _) (F.newCall_enumerate_1 _)
    (fun obj => F.args_object_init_2 obj _) F.entry_enumerate_new (enumT_new l its n dct sl) ⟨hl, ?_⟩
  have hz : (s.heap.push { cls := .type "tuple_iterator", data := .fields #[.ref l, .int 0 0] }).objs.size = s.heap.objs.size + 1 := Heap.size_push ..
  have he := Heap.get?_push_size (s.heap.push { cls := .type "tuple_iterator", data := .fields #[.ref l, .int 0 0] })
    (o := { cls := .type "enumerate", data := .fields #[.none, .bool false, .ref s.heap.objs.size, rawInt 0, .none, .none] }) rfl
  show _ ∧ _
  rw [hz] at he ⊢
  exact ⟨⟨_, he, rfl⟩, h _ he ⟨_, Heap.get?_push_of_some _ (Heap.get?_push_size _ rfl), rfl, rfl⟩ fun b o x => Heap.get?_push_of_some _ (Heap.get?_push_of_some _ x)⟩
end
/-- the tuple at a, each item in a new pair -/
def IteT (K : PySem.W.Frag) (a : Addr) : It where
  go i H := ∃ (xs : List V) (x : V), SqT K H a xs ∧ xs[i]? = some x
  yld i H v G := ∃ T x, v = .ref T ∧ H T = none ∧ G = upd H T (.tup [.int (i : Nat), x]) ∧ ∀ xs, SqT K H a xs → xs[i]? = some x
  stop i H := ∃ xs : List V, SqT K H a xs ∧ xs.length = i
theorem turn_enumT {P : Program} {w : World} {K : PySem.W.Frag} {elts : List Expr} {kk : Nat} {tpos : Pos} (a e it : Addr) :
    Turn P w K (.Tuple elts kk tpos) (IteT K a) [e, it] e (fun i h => (∃ old, IsEnum h e it ((i : Nat) : Int) old) ∧ h.IsTupleIter it a i ∧ e ≠ it ∧ a ≠ it ∧ a ≠ e) where
  mem := by simp
  obj := fun i h st b hb => by
    obtain ⟨⟨old, he⟩, ⟨o, ho, hc, hd⟩, _⟩ := st
    rcases (by simpa using hb : b = e ∨ b = it) with z | z
    · subst z
      exact ⟨_, he, fun v q => nomatch q⟩
    · subst z
      exact ⟨o, ho, fun v q => by rw [hd] at q; cases q⟩
  keep := fun i h h2 st k => by
    obtain ⟨⟨old, he⟩, hi, hne⟩ := st
    exact ⟨⟨old, k e (by simp) _ he⟩, hi.at fun o q => k it (by simp) o q, hne⟩
  item := by
    intro X hP hw hK hc i pins s σ H E I hf st hg
    subst hP hw hK
    obtain ⟨⟨old, he⟩, hit, hne, ha1, ha2⟩ := st
    obtain ⟨xs, x, hq, hx⟩ := hg
    obtain ⟨its, rv, p, hz⟩ := I.tuple hq
    obtain ⟨u, hu, ru⟩ := rv.get hx
    have hel : e < s.heap.objs.size := Heap.lt_size he
    have hil : it < s.heap.objs.size := by
      obtain ⟨_, q, _⟩ := hit
      exact Heap.lt_size q
    have hlt : i < its.toArray.size := by
      rw [List.size_toArray]
      exact (List.getElem?_eq_some_iff.mp hu).1
    have hef : e ∉ [it, a] := fun m => by
      rcases (by simpa using m : e = it ∨ e = a) with z | z
      · exact hne z
      · exact ha2 z.symm
    refine wpAny_pyNext_enum_itemD (Draws.tuple (A := X.A.in1) (I.ok.hd hc) it a ha1 its.toArray) he ⟨hit, p⟩ hlt hne hef fun y G tk hy ho hit2 hT hsz hk => ?_
    have ey : y = u := by
      have h2 : its.toArray[i]? = some u := by simpa using hu
      rw [h2] at hy
      exact (Option.some.inj hy).symm
    subst ey
    refine ⟨_, rfl, wpAny_letOwnedTupleGo_enum (s := { s with heap := G, toks := tk + 1 }) ho fun G2 he2 sb => ?_⟩
    have hT2 : G2.get? s.heap.objs.size = some { cls := .type "tuple", data := .seq #[.int i tk, y] } := (sb.2 _ (Nat.ne_of_gt hel)).trans hT
    have new : ObjOk X.prog X.w (upd H s.heap.objs.size (.tup [.int (i : Nat), x])) G2 s.heap.objs.size (.tup [.int (i : Nat), x]) :=
      ⟨by show 2 ≤ sizeLine; decide, [.int i tk, y], .cons ⟨_, rfl⟩ (.cons ru .nil), ⟨_, hT2, rfl, _, rfl⟩⟩
    have I1 : Inv X pins σ (upd H s.heap.objs.size (.tup [.int (i : Nat), x])) { s with heap := G2, toks := tk + 1 } :=
      I.turnedNew (ch := [e, it]) (fun b ob hb q => (sb.2 b (fun z => hb (by simp [z]))).trans (hk b ob (fun z => hb (by simp [z])) (fun z => hb (by simp [z])) q)) hf (Nat.le_refl _) new
    refine ⟨.ref s.heap.objs.size, _, I1, rfl, ⟨_, x, rfl, I.hok.fresh (Nat.le_refl _), rfl, fun ys hy => by rw [I.tuple_inj hy hq]; exact hx⟩, ⟨⟨y, ?_⟩, hit2.1.at fun o q => (sb.2 it (Ne.symm hne)).trans q, hne, ha1, ha2⟩, fun b hb => ?_⟩
    · rw [show ((i + 1 : Nat) : Int) = (i : Int) + 1 by omega]
      exact he2
    · have hb2 : b < s.heap.objs.size := by
        rcases (by simpa using hb : b = e ∨ b = it) with z | z
        · rw [z]; exact hel
        · rw [z]; exact hil
      rw [upd_ne (Nat.ne_of_lt hb2)]
      exact (hf b hb).1
  done := by
    intro X hP hw hK hc i pins s σ H E I hf st hg
    subst hP hw hK
    obtain ⟨⟨old, he⟩, hit, hne, ha1, ha2⟩ := st
    obtain ⟨xs, hq, hx⟩ := hg
    obtain ⟨its, rv, p, hz⟩ := I.tuple hq
    obtain ⟨f0, f1, f2, f3, f4, f5⟩ := hf it (by simp)
    have hn : i = its.toArray.size := by
      rw [List.size_toArray, ← rv.length]
      exact hx.symm
    refine wpAny_pyNext_enum_endD (Draws.tuple (A := X.A.in1) (I.ok.hd hc) it a ha1 its.toArray) he ⟨by rw [← hn]; exact hit, p⟩ fun G eb => ⟨rfl, I.turned (t' := s.toks) (fun b o hb q => eb b o hb q) f0 f1 f3 f4 f5⟩
  self := fun A i s Q E st h => by
    obtain ⟨⟨_, he⟩, _⟩ := st
    exact wpAny_pyIter_enum he h
def iEnumA (K : PySem.W.Frag) (ta : TE) : TI := fun σ H Z => ta σ H fun v H1 => ∃ w, [v] = [w] ∧ ∃ a xs, w = .ref a ∧ ((SqL K H1 a xs ∧ Z (Ite K a) H1) ∨ (SqT K H1 a xs ∧ Z (IteT K a) H1))
theorem pi_enumA {X : Cx} {e : Expr} {ta : TE} {p pos tpos : Pos} {elts : List Expr} {kk : Nat} (hg : Gl X "enumerate") (hm : X.mg "enumerate" = none) (ha : PE X e ta) (hs : starEach [e] X.env = (false, eval e X.env) :: starEach [] X.env := by rfl) :
    PI X (.Tuple elts kk tpos) (.Call (.Name "enumerate" p) [e] [] pos) (iEnumA X.K ta) := by
  refine ⟨fun pins s σ H Z I h => ?_⟩
  have ha2 := (pa_cons ha pa_nil hs).run pos pins s σ H (fun vs G => ∃ v, vs = [v] ∧ ∃ a xs, v = .ref a ∧ ((SqL X.K G a xs ∧ Z (Ite X.K a) G) ∨ (SqT X.K G a xs ∧ Z (IteT X.K a) G))) I ?_
  · refine PyProof.Rows.Call_ (ld_blt I hg hm PyProof.Rows.boot_enumerate (PyProof.Rows.callWith_type1 (thn ha2 fun us s1 ⟨vs, H1, I1, r1, v, e1, a, xs, e2, q⟩ => ?_) hs rfl))
    subst e1
    subst e2
    obtain ⟨u, eu, ru⟩ := vals1 r1
    subst eu
    cases ru
    have fresh : ∀ b ∈ [s1.heap.objs.size + 1, s1.heap.objs.size], FpOk X pins H1 b := fun b hb => by
      have hle : s1.heap.objs.size ≤ b := by
        rcases (by simpa using hb : b = s1.heap.objs.size + 1 ∨ b = s1.heap.objs.size) with z | z
        · rw [z]; exact Nat.le_add_right _ _
        · rw [z]; exact Nat.le_refl _
      exact I1.fpOk hle (I1.hok.fresh hle)
    rcases q with ⟨hq, q⟩ | ⟨hq, q⟩
    · obtain ⟨its, rv, p', hz⟩ := I1.list hq
      refine call_enumerate_list p'.isList fun G he hit hsz hk => wpAny_pyIter_enum he ?_
      exact ⟨s1.heap.objs.size + 1, [s1.heap.objs.size + 1, s1.heap.objs.size], _, _, H1, rfl, I1.kept (t' := s1.toks) hk, turn_enum a (s1.heap.objs.size + 1) s1.heap.objs.size, ⟨⟨.none, he⟩, hit, Nat.succ_ne_self _⟩, fresh, q⟩
    · obtain ⟨its, rv, p', hz⟩ := I1.tuple hq
      have hlt : a < s1.heap.objs.size := by
        obtain ⟨o, ho, _⟩ := p'
        exact Heap.lt_size ho
      refine enumT_call (show s1.heap.IsTuple a its.toArray from p') fun G he hit hk => wpAny_pyIter_enum he ?_
      exact ⟨s1.heap.objs.size + 1, [s1.heap.objs.size + 1, s1.heap.objs.size], _, _, H1, rfl, I1.kept (t' := s1.toks) hk, turn_enumT a (s1.heap.objs.size + 1) s1.heap.objs.size, ⟨⟨.none, he⟩, hit, Nat.succ_ne_self _, Nat.ne_of_lt hlt, Nat.ne_of_lt (Nat.lt_succ_of_lt hlt)⟩, fresh, q⟩
  · exact h
def pairsD (ds : List PyData) : List PyData := ds.mapIdx fun i d => .tuple [.int (i : Nat), d]
theorem pairsD_get {ds : List PyData} {i : Nat} {d : PyData} (h : ds[i]? = some d) : (pairsD ds)[i]? = some (.tuple [.int (i : Nat), d]) := by
  unfold pairsD
  rw [List.getElem?_mapIdx, h]
  rfl
theorem pairsD_length (ds : List PyData) : (pairsD ds).length = ds.length := by
  unfold pairsD
  rw [List.length_mapIdx]
theorem new_pair {K : PySem.W.Frag} {I IF : Hp} {T : Addr} {xs : List V} {ds : List PyData} (l : Le IF I) (h : I T = none) (r : DRs K IF xs ds) : ∃ IF2, New I IF (upd I T (.tup xs)) IF2 ∧ DR K IF2 (.ref T) (.tuple ds) := by
  have hf : IF T = none := by
    cases z : IF T with
    | none => rfl
    | some o =>
      rw [l _ _ z] at h
      cases h
  have l2 : Le IF (upd IF T (.tup xs)) := fun a o e => by
    rw [upd_ne (ne_of_none e hf)]
    exact e
  refine ⟨upd IF T (.tup xs), ⟨fun a o e => ?_, l2, fun a x y => ?_, fun a o e => ?_⟩, .tup (.inl (.inl upd_same)) (r.mono l2)⟩
  · rw [upd_ne (ne_of_none e h)]
    exact e
  · rw [upd_ne (fun z => x.some (by rw [z]; exact h))]
    exact y
  · by_cases z : a = T
    · subst z
      rw [upd_same] at e ⊢
      exact e
    · rw [upd_ne z] at e ⊢
      exact l _ _ e
section
variable {K : PySem.W.Frag} {H : Hp} {a b : Addr} {vs ws : List V} {ds es : List PyData}
theorem yields_enumL (h : H a = some (.lst vs)) (r : DRs K H vs ds) : Yields K (Ite K a) H (pairsD ds) where
  go := fun i I IF l1 l2 hi => by
    rw [pairsD_length, ← r.length] at hi
    exact ⟨vs, vs[i], .inl (.inl (l2 _ _ (l1 _ _ h))), List.getElem?_eq_getElem hi⟩
  yld := fun i I IF x I2 l1 l2 hi y => by
    rw [pairsD_length] at hi
    obtain ⟨T, v, rfl, hT, rfl, fx⟩ := y
    obtain ⟨v2, e1, e2⟩ := r.get (List.getElem?_eq_getElem hi)
    have ex := fx vs (.inl (.inl (l2 _ _ (l1 _ _ h))))
    rw [e1] at ex
    cases ex
    obtain ⟨IF2, n, dr⟩ := new_pair l2 hT (.cons (.int (i : Nat)) (.cons (e2.mono l1) .nil))
    exact ⟨IF2, _, pairsD_get (List.getElem?_eq_getElem hi), n, dr⟩
  stop := fun i I IF l1 l2 hi => ⟨vs, .inl (.inl (l2 _ _ (l1 _ _ h))), by rw [r.length]; rw [pairsD_length] at hi; omega⟩
theorem yields_enumT (h : SqT K H a vs) (r : DRs K H vs ds) : Yields K (IteT K a) H (pairsD ds) where
  go := fun i I IF l1 l2 hi => by
    rw [pairsD_length, ← r.length] at hi
    exact ⟨vs, vs[i], (l1.trans l2).sqT h, List.getElem?_eq_getElem hi⟩
  yld := fun i I IF x I2 l1 l2 hi y => by
    rw [pairsD_length] at hi
    obtain ⟨T, v, rfl, hT, rfl, fx⟩ := y
    obtain ⟨v2, e1, e2⟩ := r.get (List.getElem?_eq_getElem hi)
    have ex := fx vs ((l1.trans l2).sqT h)
    rw [e1] at ex
    cases ex
    obtain ⟨IF2, n, dr⟩ := new_pair l2 hT (.cons (.int (i : Nat)) (.cons (e2.mono l1) .nil))
    exact ⟨IF2, _, pairsD_get (List.getElem?_eq_getElem hi), n, dr⟩
  stop := fun i I IF l1 l2 hi => ⟨vs, (l1.trans l2).sqT h, by rw [r.length]; rw [pairsD_length] at hi; exact hi.symm⟩
end
def zipD : List PyData → List PyData → List PyData
  | d :: ds, e :: es => .tuple [d, e] :: zipD ds es
  | _, _ => []
section
variable {K : PySem.W.Frag} {H : Hp} {a b : Addr} {vs ws : List V} {ds es : List PyData}
end
def iEnum (e : Ex) : Ix := fun ρ f => dt (e ρ f) fun d f1 => match seqOf d with
  | some ds => .ok (pairsD ds) f1
  | none => .no
def iZip (a b : Ex) : Ix := fun ρ f => dt (a ρ f) fun d f1 => dt (b ρ f1) fun e f2 => match d, e with
  | .list ds, .list es => .ok (zipD ds es) f2
  | .tuple ds, .tuple es => .ok (zipD ds es) f2
  | .tuple ds, .list es => .ok (zipD ds es) f2
  | .list ds, .tuple es => .ok (zipD ds es) f2
  | _, _ => .no
section
variable {X : Cx} {W : Wish} {e e2 : Expr} {x y : Ex} {pos p tpos : Pos} {elts : List Expr} {kk : Nat}
theorem di_enum (hg : Gl X "enumerate") (hm : X.mg "enumerate" = none) (h : DE X W e x) (hs : starEach [e] X.env = (false, eval e X.env) :: starEach [] X.env := by rfl) : DI X W (.Tuple elts kk tpos) (.Call (.Name "enumerate" p) [e] [] pos) (iEnum x) :=
  pi_mono (pi_enumA hg hm h hs) fun σ H Z ⟨g, HF, ρ, f, rel, q⟩ => tD_dt rel q fun d f1 v G GF r1 s1 dr q1 => by
    cases d <;> try exact (show False from q1).elim
    · cases dr with
      | lst h1 h2 => exact ⟨_, rfl, _, _, rfl, .inl ⟨.inl (.inl (r1.sub _ _ h1)), q1 _ G GF s1 r1.feed (yields_enumL h1 h2)⟩⟩
    · cases dr with
      | tup h1 h2 => exact ⟨_, rfl, _, _, rfl, .inr ⟨r1.sub.sqT h1, q1 _ G GF s1 r1.feed (yields_enumT h1 h2)⟩⟩
end
end Dn
end
section
set_option maxHeartbeats 4000000
namespace Dn
open PySem PySem.Spec L2
def shows (d : PyData) : Bool := d.showable && !d.hasDict && decide (d.depth ≤ 60) && decide (d.shown.length ≤ 10000000)
def tyName : PyData → String
  | .none => "NoneType"
  | .bool _ => "bool"
  | .int _ => "int"
  | .str _ => "str"
  | .list _ => "list"
  | .tuple _ => "tuple"
  | .dict _ => "dict"
/-- no exception -/
def okTy : PyData → Bool
  | .dict ((.none, _) :: _) => false
  | .dict ((.bool true, _) :: _) => false
  | _ => true
theorem Top.ty {K : PySem.W.Frag} {g : Gh} {H HF : Hp} {v : V} {d : PyData} (t : Top K g H HF v d) (l : Le HF H) (ok : okTy d = true) : TyX K H v (.type (tyName d)) := by
  rcases t with h | ⟨p, vs, ds, rfl, rfl, _, h4, h5⟩
  · cases h with
    | non => exact .base .non
    | bl b => exact .base (.bl b)
    | int i => exact .base (.int i)
    | str x => exact .base (.str x)
    | lst h r => exact .base (.lst (l _ _ h))
    | dic h _ _ => exact .base (.dK (l _ _ h))
    | exc _ _ _ _ => cases ok
    | dit _ _ _ => cases ok
    | tup h r =>
      rcases h with (h | ⟨o, h⟩) | ⟨o, its, n, h1, h2, _⟩
      · exact .base (.tup (l _ _ h))
      · exact .fTuple (l _ _ h)
      · exact .kTuple h1 h2
  · exact .base (.lst h4)
/-- T's own and what counts as one -/
def isOf (T : String) (d : PyData) : Bool := tyName d == T || (T == "int" && tyName d == "bool")
def known (T : String) : Bool := ["int", "bool", "str", "list", "tuple", "dict"].contains T
theorem isOf_kit {T : String} (h : known T = true) (d : PyData) : kitB (tyName d) T = some (isOf T d) := by
  have hT : T = "int" ∨ T = "bool" ∨ T = "str" ∨ T = "list" ∨ T = "tuple" ∨ T = "dict" := by
    simpa [known] using h
  rcases hT with rfl | rfl | rfl | rfl | rfl | rfl <;> cases d <;> (simp only [isOf, tyName]; decide +kernel)
def oIsi (T : String) : Op1 := fun d => if okTy d = true then some (.dat (.bool (isOf T d))) else none
section
variable {X : Cx} {W : Wish} {fa : Ex} {e : Expr} {p p2 pos : Pos}
theorem de_isi {T : String} (x : Str) (hT : known T = true) (hg : Gl X "isinstance") (hm : X.mg "isinstance" = none) (hg2 : Gl X x) (hm2 : X.mg x = none) (hv : bootBuiltins x = some (.type T)) (ha : DE X W e fa)
    (hn2 : x ≠ "__name__" := by decide) (hdb2 : (x == ("__debug__" : Str)) = false := by decide)
    (he : starEach [e, .Name x p2] X.env = (false, eval e X.env) :: starEach [.Name x p2] X.env := by rfl) (he2 : starEach [.Name x p2] X.env = (false, eval (.Name x p2) X.env) :: starEach [] X.env := by rfl)
    (hpl : (backTo pos (starEach [.Name x p2] X.env)).any (·.1) = false := by rfl) : DE X W (.Call (.Name "isinstance" p) [e, .Name x p2] [] pos) (cUn (oIsi T) fa) :=
  pe_mono (pe_callB call_isi hg hm (by decide +kernel) (pa_cons ha (pa_cons (pe_bltn (v := .ty T) hg2 hm2 hv rfl hn2 hdb2) pa_nil he2) he) (by decide) (by decide) he hpl) fun σ H Q h =>
    un_read (r := fun v H Q => rIsi X.K [v, .ty T] H Q) (fun g H HF f v d rv a t z Q k => by
      obtain ⟨c, rfl⟩ := ite_some z
      exact ⟨v, .ty T, _, _, _, rfl, .ty T, t.ty a.sub c, kit_ty (isOf_kit hT d), k.now a (.bl _)⟩) h
theorem de_glob {x : Str} {v : V} {u : Value} {d : PyData} (hg : Gl X x) (hm : X.mg x = some u) (r : RelV v u) (hd : ∀ HF, DR X.K HF v d) (hdb : (x == ("__debug__" : Str)) = false := by decide) : DE X W (.Name x p) (cC d) :=
  de_const (pe_glob hg hm r hdb) hd
end
theorem DR.ratK {K : PySem.W.Frag} {a : Addr} {od : Option Addr} {i j : Int} {t u : Tok} {n : Nat} {sl : Array (Option Value)} (h : K.lookup a = some ⟨.type "tuple", od, .seq #[.int i t, .int j u] n, sl⟩) (HF : Hp) : DR K HF (.ref a) (.tuple [.int i, .int j]) :=
  .tup (xs := [.int i, .int j]) (.inr ⟨_, #[.int i t, .int j u], n, h, rfl, rfl, by show 2 ≤ sizeLine; decide, .cons ⟨t, rfl⟩ (.cons ⟨u, rfl⟩ .nil)⟩) (.cons (.int i) (.cons (.int j) .nil))
def Feed.get (f : Feed) (k : Str) : Option RV :=
  if k = "turn" then some (.dat (.int f.turn)) else if k = "at" then some (.dat (.int f.spot)) else if k = "left" then some (.dat (.int f.left)) else if k = "cells" then some (.dat (.list (f.cells.map .int))) else none
def Feed.put (f : Feed) (k : Str) (i : Int) : Option Feed :=
  if k = "turn" then some { f with turn := i } else if k = "at" then some { f with spot := i } else if k = "left" then some { f with left := i } else none
def cFeed (k : Str) (e : Ex) : Ex := fun ρ f => (e ρ f).bind fun rv f1 => match rv with
  | .feed => give (f1.get k) f1
  | _ => .no
theorem kne {a b : Str} (h : ¬ a = b) : ¬ (Sum.inr a : Key) = Sum.inr b := fun e => h (Sum.inr.inj e)
theorem feed_at {g : Gh} {H HF : Hp} {f : Feed} (h : FeedAt g H HF f) : DGet H g.fa (.str "turn") (some (.int f.turn)) ∧ DGet H g.fa (.str "at") (some (.int f.spot)) ∧ DGet H g.fa (.str "left") (some (.int f.left)) ∧ DGet H g.fa (.str "cells") (some (.ref g.ca)) := by
  refine ⟨.inl ⟨_, Sum.inr "turn", .inl h.d, rfl, ?_⟩, .inl ⟨_, Sum.inr "at", .inl h.d, rfl, ?_⟩, .inl ⟨_, Sum.inr "left", .inl h.d, rfl, ?_⟩, .inl ⟨_, Sum.inr "cells", .inl h.d, rfl, ?_⟩⟩
  · rw [valV_neg (kne (a := "cells") (b := "turn") (by decide)), valV_neg (kne (a := "at") (b := "turn") (by decide)), valV_neg (kne (a := "left") (b := "turn") (by decide)), valV_pos rfl]
  · rw [valV_neg (kne (a := "cells") (b := "at") (by decide)), valV_pos rfl]
  · rw [valV_neg (kne (a := "cells") (b := "left") (by decide)), valV_neg (kne (a := "at") (b := "left") (by decide)), valV_pos rfl]
  · rw [valV_pos rfl]
theorem feed_get {K : PySem.W.Frag} {g : Gh} {H HF : Hp} {f : Feed} {k : Str} {rv : RV} (h : FeedAt g H HF f) (e : f.get k = some rv) : ∃ v d, rv = .dat d ∧ DGet H g.fa (.str k) (some v) ∧ DR K HF v d := by
  obtain ⟨h1, h2, h3, h4⟩ := feed_at h
  unfold Feed.get at e
  split at e
  · rename_i c
    cases e
    subst c
    exact ⟨_, _, rfl, h1, .int _⟩
  · split at e
    · rename_i c
      cases e
      subst c
      exact ⟨_, _, rfl, h2, .int _⟩
    · split at e
      · rename_i c
        cases e
        subst c
        exact ⟨_, _, rfl, h3, .int _⟩
      · split at e
        · rename_i c
          cases e
          subst c
          exact ⟨_, _, rfl, h4, .lst h.c (DRs.ints _)⟩
        · cases e
theorem feed_put {g : Gh} {H HF : Hp} {f f2 : Feed} {k : Str} {i : Int} (h : FeedAt g H HF f) (e : f.put k i = some f2) : DPut H g.fa (.str k) (.int i) (upd H g.fa (feedO g f2)) := by
  have go : ∀ kvs : List (Key × V), putK [((Sum.inr "cells" : Key), V.ref g.ca), (Sum.inr "at", .int f.spot), (Sum.inr "left", .int f.left), (Sum.inr "turn", .int f.turn)] (Sum.inr k) (.int i) = kvs → feedO g f2 = .dK kvs → DPut H g.fa (.str k) (.int i) (upd H g.fa (feedO g f2)) := fun kvs e1 e2 => by
    rw [e2]
    subst e1
    exact .inl ⟨_, Sum.inr k, h.d, rfl, by show 4 < sizeLine; decide, rfl⟩
  unfold Feed.put at e
  split at e
  · rename_i c
    cases e
    subst c
    exact go _ rfl rfl
  · split at e
    · rename_i c
      cases e
      subst c
      exact go _ rfl rfl
    · split at e
      · rename_i c
        cases e
        subst c
        exact go _ rfl rfl
      · cases e
theorem feed_read {K : PySem.W.Frag} {mg : Str → Option Value} {W : Wish} {k : Str} {x : Ex} {σ : St} {H : Hp} {Q : VK} (h : tD K mg W (cFeed k x) σ H Q) : tDGet (tD K mg W x) (tC (.str k)) σ H Q := by
  obtain ⟨g, HF, ρ, f, rel, q⟩ := h
  refine tD_bind rel q fun rv f1 v G GF r1 s1 rr q1 => ?_
  cases rv with
  | feed =>
    obtain ⟨rv2, z, k2⟩ := give_end r1.feed s1 q1
    obtain ⟨u, d, rfl, dg, dr⟩ := feed_get (K := K) r1.feed z
    exact ⟨g.fa, u, rr, dg, k2.now ⟨r1.sub, r1.feed⟩ dr⟩
  | _ => exact (show False from q1).elim
theorem de_feed {X : Cx} {W : Wish} {o : Expr} {x : Ex} {k : Str} {j : Nat} {kp pos : Pos} (hu : X.A.units + 1 < cLine) (ho : DE X W o x) (hs : NoSl (.Constant (.str k) j kp)) : DE X W (.Subscript o (.Constant (.str k) j kp) pos) (cFeed k x) :=
  pe_mono (pe_dget hu ho pe_str hs) fun _ _ _ h => feed_read h
/-- feed[k] = e -/
def sFeed (k : Str) (o e : Ex) : Sm := fun ρ f => pk (e ρ f) fun d f1 => (o ρ f1).bind fun rv f2 => match d, rv with
  | .int i, .feed => match f2.put k i with
    | some f3 => .ok (.nx ρ) f3
    | none => .no
  | _, _ => .no
theorem Feed.put_cells {f f2 : Feed} {k : Str} {i : Int} (e : f.put k i = some f2) : f2.cells = f.cells := by
  unfold Feed.put at e
  split at e
  · cases e; rfl
  · split at e
    · cases e; rfl
    · split at e
      · cases e; rfl
      · cases e
theorem fput_read {K : PySem.W.Frag} {mg : Str → Option Value} {E : XK} {k : Str} {x o : Ex} {D : Ends} {σ : St} {H : Hp} (h : tDS K mg E (sFeed k o x) D σ H) : sDPut (tD K mg (fun _ => E) o) (tC (.str k)) (tD K mg (fun _ => E) x) D σ H := by
  obtain ⟨g, HF, ρ, f, rel, q⟩ := h
  refine tD_Spk rel q fun d f1 v G GF r1 s1 t1 q1 => tD_S r1 q1 fun rv f2 w I IF r2 s2 rr q2 => ?_
  cases d <;> try exact (show False from q2).elim
  rename_i i
  cases rv with
  | feed =>
    simp only at q2
    cases z : f2.put k i with
    | none =>
      simp only [z] at q2
      exact (show False from q2).elim
    | some f3 =>
      simp only [z] at q2
      have ev := t1.int
      subst ev
      refine ⟨g.fa, _, rr, feed_put r2.feed z, (show FinS K g D (.nx ρ) f3 from q2) σ _ IF ⟨fun a y e => ?_, ⟨upd_same, r2.feed.nf, ?_⟩, fun a y na e => ?_, r2.le, r2.new, r2.len, fun j s e => ?_, r2.sep, r2.sepD, r2.bd.to (fun i dss e => ⟨⟨dss, e⟩, rfl⟩) (fun j ds e => ⟨⟨ds, e⟩, rfl⟩) fun a dss p2 qs e1 e2 e3 => by
        obtain ⟨p3, q3, z1, z2⟩ := r2.slot a _ e1
        rw [e2] at z1
        cases z1
        rw [upd_ne (ne_fa r2.feed z2.1)] at e3
        exact e3⟩⟩
      · rw [upd_ne (ne_of_none e r2.feed.nf)]
        exact r2.sub a y e
      · rw [Feed.put_cells z]
        exact r2.feed.c
      · rw [upd_ne na]
        exact r2.ext a y na e
      · have kk := r2.slot j s e
        cases s with
        | emp => trivial
        | dat d => exact kk
        | own ds =>
          obtain ⟨p, vs, z1, z2, z3, z4, z5⟩ := kk
          exact ⟨p, vs, z1, z2, z3, by rw [upd_ne (ne_fa r2.feed z4)]; exact z4, z5⟩
        | feed => exact kk
        | scr ns => exact kk
        | dct q =>
          obtain ⟨p, z1, z2, z3, z4⟩ := kk
          exact ⟨p, z1, z2, z3, z4.mono (fun o e => by rw [upd_ne (z4.ne r2.feed)]; exact e) (Le.refl _)⟩
        | key ks => exact kk
        | brd dss =>
          obtain ⟨p, qs, z1, z2⟩ := kk
          exact ⟨p, qs, z1, z2.upd (fun m => by
            obtain ⟨us, z⟩ := z2.live m
            exact ne_fa r2.feed z rfl)⟩
  | _ => exact (show False from q2).elim
theorem ds_feed {X : Cx} {E : XK} {o e : Expr} {x y : Ex} {k : Str} {j : Nat} {kp pos pos2 : Pos} (hu : X.A.units + 1 < cLine) (ho : DE X (fun _ => E) o x) (he : DE X (fun _ => E) e y)
    (hs : swapsWith e (some (.Subscript o (.Constant (.str k) j kp) pos2)) pos.line X.env = pure false := by rfl) : DS X E (.Assign [.Subscript o (.Constant (.str k) j kp) pos2] e pos) (sFeed k x y) :=
  ps_mono (ps_dput hu ho pe_str he hs) fun _ _ _ h => fput_read h
end Dn
end
section
set_option maxHeartbeats 4000000
namespace Dn
open PySem PySem.Spec L2
def spFeed (K : PySem.W.Frag) : Sp := fun vs H Q _ => ∃ (a : Addr) (ns : List Int), vs = [.ref a] ∧ SqL K H a (ns.map V.int) ∧ ns.length ≤ 63 ∧
  ∀ (fa ca : Addr) (G : Hp), Le H G → fa ≠ ca → G fa = some (.dK [(Sum.inr "cells", .ref ca), (Sum.inr "at", .int 0), (Sum.inr "left", .int 0), (Sum.inr "turn", .int 0)]) → G ca = some (.lst (ns.map V.int)) → Q (.ref fa) G
theorem le_new {H : Hp} {p : Addr} {o : HO} (h : H p = none) : Le H (upd H p o) := fun a x e => by
  rw [upd_ne (ne_of_none e h)]
  exact e
theorem cut63 {ns : List Int} (h : ns.length ≤ 63) : cutV (ns.map V.int) none (some 63) = ns.map V.int := by
  unfold cutV
  rw [HT.sIx_none]
  have e : HT.sIx (ns.map V.int).length (ns.map V.int).length (some 63) = (ns.map V.int).length := by
    have := HT.sIx_nat (ns.map V.int).length (ns.map V.int).length 63
    rw [show ((63 : Nat) : Int) = 63 from rfl] at this
    rw [this, List.length_map]
    omega
  rw [e, Nat.sub_zero, List.drop_zero, List.take_length]
theorem feed_made {K : PySem.W.Frag} {vs : List V} {H : Hp} {Q : VK} {E : XK} (h : spFeed K vs H Q E) :
    tRet (tDisp [(tC (.str "cells"), tCB (fun xs H Q => ∃ p ys, xs = [.ref p] ∧ (SqL K H p ys ∨ SqT K H p ys) ∧ ∀ l, H l = none → Q (.ref l) (upd H l (.lst ys))) (tCons (tSl (rSlL K) (tVar 0) tNoPart (tPart (tC (.int 63)))) tNil)),
      (tC (.str "at"), tC (.int 0)), (tC (.str "left"), tC (.int 0)), (tC (.str "turn"), tC (.int 0))]) { nx := fun _ G => Q .non G, rt := Q } (L2.start ["_law_script"] vs) H := by
  obtain ⟨a, ns, rfl, hs, hl, q⟩ := h
  intro p hp
  have l1 : Le H (upd H p (.dK [])) := le_new hp
  have hs1 : SqL K (upd H p (.dK [])) a (ns.map V.int) := by
    rcases hs with (h | ⟨o, h⟩) | h
    · exact .inl (.inl (l1 _ _ h))
    · exact .inl (.inr ⟨o, l1 _ _ h⟩)
    · exact .inr h
  refine ⟨.ref a, rfl, 63, rfl, a, ns.map V.int, rfl, hs1, fun c hc => ⟨c, _, rfl, .inl (.inl (.inl upd_same)), fun l hl2 => ?_⟩⟩
  rw [cut63 hl] at hl2 ⊢
  have l2 := le_new (o := .lst (ns.map V.int)) hc
  have l3 := le_new (o := .lst (ns.map V.int)) hl2
  have ep := l3 _ _ (l2 _ _ (upd_same (H := H) (a := p) (o := .dK [])))
  have npl : p ≠ l := fun z => by
    have e2 := l2 _ _ (upd_same (H := H) (a := p) (o := .dK []))
    exact ne_of_none e2 hl2 z
  refine ⟨ep, [(Sum.inr "cells", .ref l), (Sum.inr "at", .int 0), (Sum.inr "left", .int 0), (Sum.inr "turn", .int 0)], rfl, by show 4 ≤ 15; decide, ?_⟩
  have em : mergeK [] [((Sum.inr "cells" : Key), V.ref l), (Sum.inr "at", .int 0), (Sum.inr "left", .int 0), (Sum.inr "turn", .int 0)] = [((Sum.inr "cells" : Key), V.ref l), (Sum.inr "at", .int 0), (Sum.inr "left", .int 0), (Sum.inr "turn", .int 0)] := rfl
  rw [em]
  refine q p l _ (fun x o e => ?_) npl upd_same ?_
  · have e2 := l3 _ _ (l2 _ _ (l1 _ _ e))
    rw [upd_ne (ne_of_none e hp)]
    exact e2
  · rw [upd_ne npl.symm]
    exact upd_same
def spLaw (K : PySem.W.Frag) : Sp := fun vs H Q _ => ∃ (a : Addr) (ns : List Int), vs = [.ref a] ∧ SqL K H a (ns.map V.int) ∧ ns.length ≤ 63 ∧ ∀ G, Q (.bl true) G
def feed0 (ns : List Int) : Feed := ⟨ns, 0, 0, 0⟩
theorem law_rest {K : PySem.W.Frag} {mg : Str → Option Value} {s : Sm} {n : Nat} {fa ca a : Addr} {ns : List Int} {H : Hp} {Q : VK} (N : List Str) (hN : N.length = n + 2) (hfc : fa ≠ ca)
    (h1 : H fa = some (.dK [(Sum.inr "cells", .ref ca), (Sum.inr "at", .int 0), (Sum.inr "left", .int 0), (Sum.inr "turn", .int 0)])) (h2 : H ca = some (.lst (ns.map V.int)))
    (fin : ∃ f, s (.emp :: .feed :: List.replicate n .emp) (feed0 ns) = .ok (.rt (.dat (.bool true))) f) (q : ∀ G, Q (.bl true) G) :
    tDS K mg (fun _ _ _ => False) s { nx := fun _ G => Q .non G, rt := Q } ((L2.start N [.ref a]).set 1 (some (.ref fa))) H := by
  obtain ⟨f, e⟩ := fin
  have hs : (L2.start N [.ref a]).set 1 (some (.ref fa)) = some (.ref a) :: some (.ref fa) :: List.replicate n none := by
    unfold L2.start
    rw [hN]
    rfl
  rw [hs]
  refine ⟨⟨fa, ca, H, fun b => if b = ca then H ca else none⟩, fun b => if b = ca then H ca else none, .emp :: .feed :: List.replicate n .emp, feed0 ns, ⟨fun b o z => ?_, ⟨h1, ?_, ?_⟩, fun _ _ _ z => z, Le.refl _, fun _ _ z => z, ?_, fun i x z => ?_, fun i j ds es z => ?_, fun i j ds es z => ?_, BdSep.noBd fun i ds z => ?_⟩, ?_⟩
  · by_cases c : b = ca
    · rw [if_pos c] at z
      rw [c]
      exact z
    · rw [if_neg c] at z
      cases z
  · exact if_neg hfc
  · show (if ca = ca then H ca else none) = _
    rw [if_pos rfl]
    exact h2
  · simp
  · match i, z with
    | 0, z => cases z; trivial
    | 1, z => cases z; rfl
    | i + 2, z =>
      have z2 : (List.replicate n Slot.emp)[i]? = some x := z
      rw [rep_get z2]
      trivial
  · match i, z with
    | 0, z => cases z
    | 1, z => cases z
    | i + 2, z =>
      have z2 : (List.replicate n Slot.emp)[i]? = some (.own ds) := z
      cases rep_get z2
  · match i, z with
    | 0, z => cases z
    | 1, z => cases z
    | i + 2, z =>
      have z2 : (List.replicate n Slot.emp)[i]? = some (.dct ds) := z
      cases rep_get z2
  · match i, z with
    | 0, z => cases z
    | 1, z => cases z
    | i + 2, z =>
      have z2 : (List.replicate n Slot.emp)[i]? = some (.brd ds) := z
      cases rep_get z2
  · rw [e]
    intro v G GF r
    cases (show DR K GF v (.bool true) from r.val)
    exact q G
section
variable {P : Program} {w : World} {K : PySem.W.Frag} {mg mb : Str → Option Value} {k : Nat} {fa a : Addr} {fd : FuncData} {x : Str} {s : Shared} {vs : List Value} {ns : List Int}
/-- the call of the law's def, at the heap behind the top -/
theorem law_go (KX : K.In s.heap) (hns : s.heap.Ns mainGlobals mg) (hb : s.heap.Ns builtinsNs mb) (hbb : ∀ x : Str, x ≠ "__name__" → mb x = bootBuiltins x) (hlim : s.heap.NoLimit) (hg : s.gens = #[])
    (ha : s.heap.get? a = some { cls := .type "list", data := .seq vs.toArray }) (hi : PyProof.Rows.IntsAre vs ns) (hl : ns.length ≤ 63) (hr : Room k callerA)
    (F : ∀ base : Heap, K.In base → base.Ns mainGlobals mg → FnG P w K mg base CX0 k fa fd [x] (spLaw K)) (bnd : ∀ (s : Shared) (u : Value), BindsTo s fd ⟨[u], []⟩ [(x, u)]) :
    codeAny (model P w) callerA (.call (.ref fa) ⟨[.ref a], []⟩) (fun r s2 => r = .ok (.ret (.bool true)) ∧ OldK s.heap s2.heap ∧ s2.os = s.os ∧ PyProof.Rows.AllBare s2.gens) s := by
  have rv := L2.vals_ints hi
  have go : ∀ H : Hp, Only H → SqL K H a (ns.map V.int) → HOk P w H s.heap → (∀ b, H b ≠ none → b = a ∧ K.lookup a = none) →
      codeAny (model P w) callerA (.call (.ref fa) ⟨[.ref a], []⟩) (fun r s2 => r = .ok (.ret (.bool true)) ∧ OldK s.heap s2.heap ∧ s2.os = s.os ∧ PyProof.Rows.AllBare s2.gens) s := by
    intro H hO hS hok hA
    have nodict : ∀ {b : Addr} {o : Obj} {es : Array DictEntry} {ep : Nat}, s.heap.get? b = some o → o.data = .dict es ep → H b = none := by
      intro b o es ep e d
      cases q : H b with
      | none => rfl
      | some u =>
        obtain ⟨e2, _⟩ := hA b (by rw [q]; exact Option.some_ne_none _)
        subst e2
        rw [ha] at e
        cases e
        cases (show Data.seq vs.toArray _ = Data.dict es ep from d)
    have nsB : ∀ {b : Addr} {m : Str → Option Value}, s.heap.Ns b m → (hidT s.heap H).Ns b m := by
      rintro b m ⟨o, es, ep, e, d, r⟩
      exact ⟨o, es, ep, hidT_get e (nodict e d), d, r⟩
    have KB : K.In (hidT s.heap H) := by
      intro b o e
      refine hidT_get (KX b o e) ?_
      cases q : H b with
      | none => rfl
      | some u =>
        obtain ⟨e2, e3⟩ := hA b (by rw [q]; exact Option.some_ne_none _)
        subst e2
        rw [e3] at e
        cases e
    obtain ⟨mc, n1, n2⟩ := hlim
    have env : Env0 P w K mg (hidT s.heap H) callerA [] s H := {
      frames := rfl
      mod := ⟨KB, nsB hns, ⟨mb, nsB hb, hbb⟩, ⟨mc, nsB n1, n2⟩⟩
      bs := fun b o e => of_hidT e
      bsz := Nat.le_of_eq (hidT_size _ _)
      funs := trivial
      frf := fun b hb => by cases (show b ∈ ([] : List Addr) from hb)
      hok := hok
      bare := .of_eq hg }
    refine codeAny_mono ((F _ KB (nsB hns)).go callerA [] s H ⟨[.ref a], []⟩ [.ref a] [.ref a] (fun v _ => v = .bl true) (fun _ _ _ => False) rfl hr env (bnd s (.ref a)) (.cons rfl .nil) ⟨a, ns, rfl, hS, hl, fun _ => rfl⟩) ?_
    intro r s2 h
    cases r with
    | error e => exact (show False from h).elim
    | ok fl =>
      cases fl with
      | next => exact (show False from h).elim
      | brk => exact (show False from h).elim
      | cont => exact (show False from h).elim
      | ret u =>
        obtain ⟨v, G, os, bare, un, hok2, r2, q⟩ := h
        obtain rfl : v = .bl true := q
        obtain rfl : u = Value.bool true := r2
        refine ⟨rfl, OldK.of_keep ?_, os, bare⟩
        intro b o e
        cases q : H b with
        | none => exact un.keep b o e q (fun z => by cases (show b ∈ ([] : List Addr) from z)) (fun z => by cases z)
        | some u =>
          rcases hO b with z | ⟨ob, xs, z⟩
          · rw [q] at z
            cases z
          · have e1 := (hok b _ z).1
            have e2 := (hok2 b _ (un.frzs b ob _ z)).1
            rw [e] at e1
            cases e1
            exact e2
  cases hk : K.lookup a with
  | some o =>
    have e := KX a o hk
    rw [ha] at e
    cases e
    refine go (fun _ => none) (fun _ => .inl rfl) (.inr ⟨_, vs.toArray, _, hk, rfl, rfl, rfl, ?_, rv⟩) (fun b u z => by cases z) (fun b z => absurd rfl z)
    rw [List.size_toArray, hi.length]
    exact Nat.le_trans hl (by decide)
  | none =>
    let o : Obj := { cls := .type "list", data := .seq vs.toArray }
    refine go (fun b => if b = a then some (.frz o (.lst (ns.map V.int))) else none) (fun b => ?_) (.inl (.inr ⟨o, if_pos rfl⟩)) (fun b u z => ?_) (fun b z => ?_)
    · by_cases c : b = a
      · exact .inr ⟨_, _, if_pos c⟩
      · exact .inl (if_neg c)
    · by_cases c : b = a
      · subst c
        replace z : (if b = b then some (HO.frz o (.lst (ns.map V.int))) else none) = some u := z
        rw [if_pos rfl] at z
        cases z
        exact ⟨ha, by rw [List.length_map]; exact Nat.le_trans hl (by decide), vs, _, rv, ha⟩
      · replace z : (if b = a then some (HO.frz o (.lst (ns.map V.int))) else none) = some u := z
        rw [if_neg c] at z
        cases z
    · by_cases c : b = a
      · exact ⟨c, hk⟩
      · exact absurd (if_neg c) z
end
/-- what k_head leaves -/
theorem walkG {l : PySem.W.OpenLaw} {k : Nat} {q : Program} {loose : List Str} {XP : (Str → Option Value) → Heap → Prop} {YP : World → Heap → Prop} {d : DefRec} {K : Params → PySem.W.Frag} {x : Str}
    (hn : l.most = some 63) (hdf : d.params.defaults = []) (hr : Room k callerA) (hY : ∀ (w : World) (h : Heap), YP w h → (K w.params).In h)
    (F : ∀ (w : World) (mg : Str → Option Value) (fa : Addr) (h : Heap), (K w.params).In h → h.Ns mainGlobals mg → mg d.name = some (.ref fa) →
      ∃ fd : FuncData, (∀ (s : Shared) (u : Value), BindsTo s fd ⟨[u], []⟩ [(x, u)]) ∧
        ∀ base : Heap, (K w.params).In base → base.Ns mainGlobals mg → FnG l.prog w (K w.params) mg base CX0 k fa fd [x] (spLaw (K w.params))) :
    PySem.W.WalkO q loose XP YP l.row.toRowW d [] (fun f vs => PySem.call f vs) := by
  refine Att.attach_call hn hdf ?_
  intro w s0 s1 mg mb fa o pm cd doc a vs ns G Y ho hd hcd hmg hobj hints hlen hg
  obtain ⟨fd, hb, hF⟩ := F w mg fa _ (hY w _ Y) G.T.g hmg
  exact law_go (hY w _ Y) G.T.g G.T.b G.T.builtins G.T.nolimit hg hobj hints hlen hr hF hb
end Dn
end
section
set_option maxHeartbeats 4000000
namespace Dn
open PySem PySem.Spec L2
section
variable {X : Cx} {W : Wish} {a b : Expr} {fa fb : Ex} {pos : Pos}
theorem de_add (ha : DE X W a fa) (hb : DE X W b fb) : DE X W (.BinOp a .Add b pos) (cBin oAdd fa fb) := de_bin (op_add.or (op_cat.or (op_catA.or op_add_str))) (intsI_ok.or (catL_ok.or (catT_ok.or catS_ok))) ha hb
theorem de_sub (ha : DE X W a fa) (hb : DE X W b fb) : DE X W (.BinOp a .Sub b pos) (cBin oSub fa fb) := de_bin op_sub intsI_ok ha hb
theorem mulC_of {i j : Int} (h : mulC i j = true) : CMulW i j := show i.natAbs.log2 + j.natAbs.log2 < 1000000 from of_decide_eq_true h
theorem divC_of {i j : Int} (h : divC i j = true) : CDivW i j := by
  obtain ⟨h1, h2⟩ := Bool.and_eq_true_iff.mp h
  exact ⟨of_decide_eq_true h1, of_decide_eq_true h2⟩
theorem powC_of {i j : Int} (h : powC i j = true) : CPow i j := by
  obtain ⟨h1, h2⟩ := Bool.and_eq_true_iff.mp h
  obtain ⟨h3, h4⟩ := Bool.and_eq_true_iff.mp h1
  exact ⟨of_decide_eq_true h3, of_decide_eq_true h4, of_decide_eq_true h2⟩
theorem de_mul (ha : DE X W a fa) (hb : DE X W b fb) : DE X W (.BinOp a .Mult b pos) (cBin oMul fa fb) := de_bin (op_mulW.or (op_rep.or op_repA)) ((intsOp_ok fun _ _ => mulC_of).or (repL_ok.or repT_ok)) ha hb
theorem de_fdiv (ha : DE X W a fa) (hb : DE X W b fb) : DE X W (.BinOp a .FloorDiv b pos) (cBin oDiv fa fb) := de_bin op_fdivW (intsOp_ok fun _ _ => divC_of) ha hb
theorem de_mod (ha : DE X W a fa) (hb : DE X W b fb) : DE X W (.BinOp a .Mod b pos) (cBin oMod fa fb) := de_bin op_mod (intsOp_ok fun _ _ h => of_decide_eq_true h) ha hb
theorem de_pow (ha : DE X W a fa) (hb : DE X W b fb) : DE X W (.BinOp a .Pow b pos) (cBin oPow fa fb) := de_bin op_pow (intsOp_ok fun _ _ => powC_of) ha hb
theorem de_neg (ha : DE X W a fa) : DE X W (.UnaryOp .USub a pos) (cUn oNeg fa) := de_un un_neg oNeg_ok ha
theorem op_eqA (hu : X.A.units + 64 < cLine) : OpR X (compareOp .Eq) (fun x y H Q => rEq x y H Q ∨ rEqD X.K x y H Q) := op_eq.or (op_eqD hu)
theorem op_neA (hu : X.A.units + 64 < cLine) : OpR X (compareOp .NotEq) (fun x y H Q => rNe x y H Q ∨ rNeD X.K x y H Q) := op_ne.or (op_neD hu)
theorem de_eq (hu : X.A.units + 64 < cLine) (ha : DE X W a fa) (hb : DE X W b fb) : DE X W (.Compare a [.Eq] [b] pos) (cBin oEq fa fb) := de_cmp (op_eqA hu) oEq_ok ha hb (nomark _)
theorem de_ne (hu : X.A.units + 64 < cLine) (ha : DE X W a fa) (hb : DE X W b fb) : DE X W (.Compare a [.NotEq] [b] pos) (cBin oNe fa fb) := de_cmp (op_neA hu) oNe_ok ha hb (nomark _)
theorem de_lt (ha : DE X W a fa) (hb : DE X W b fb) : DE X W (.Compare a [.Lt] [b] pos) (cBin oLt fa fb) := de_cmp op_lt intsB_ok ha hb (nomark _)
theorem de_gt (ha : DE X W a fa) (hb : DE X W b fb) : DE X W (.Compare a [.Gt] [b] pos) (cBin oGt fa fb) := de_cmp op_gt intsB_ok ha hb (nomark _)
theorem de_ge (ha : DE X W a fa) (hb : DE X W b fb) : DE X W (.Compare a [.GtE] [b] pos) (cBin oGe fa fb) := de_cmp op_ge intsB_ok ha hb (nomark _)
theorem de_in (ha : DE X W a fa) (hb : DE X W b fb) (hm : behindInMarks .In b = false := by rfl) : DE X W (.Compare a [.In] [b] pos) (cBin (oInF false) fa fb) := de_cmp op_in_seq oInF_ok ha hb hm
theorem dt_eq (hu : X.A.units + 64 < cLine) (ha : DE X W a fa) (hb : DE X W b fb) : DT X W (.Compare a [.Eq] [b] pos) (cT (cBin oEq fa fb)) := dt_cmp (op_eqA hu) oEq_ok ha hb (nomark _)
theorem dt_ne (hu : X.A.units + 64 < cLine) (ha : DE X W a fa) (hb : DE X W b fb) : DT X W (.Compare a [.NotEq] [b] pos) (cT (cBin oNe fa fb)) := dt_cmp (op_neA hu) oNe_ok ha hb (nomark _)
theorem dt_lt (ha : DE X W a fa) (hb : DE X W b fb) : DT X W (.Compare a [.Lt] [b] pos) (cT (cBin oLt fa fb)) := dt_cmp op_lt intsB_ok ha hb (nomark _)
theorem dt_gt (ha : DE X W a fa) (hb : DE X W b fb) : DT X W (.Compare a [.Gt] [b] pos) (cT (cBin oGt fa fb)) := dt_cmp op_gt intsB_ok ha hb (nomark _)
theorem dt_ge (ha : DE X W a fa) (hb : DE X W b fb) : DT X W (.Compare a [.GtE] [b] pos) (cT (cBin oGe fa fb)) := dt_cmp op_ge intsB_ok ha hb (nomark _)
theorem dt_in (ha : DE X W a fa) (hb : DE X W b fb) (hm : behindInMarks .In b = false := by rfl) : DT X W (.Compare a [.In] [b] pos) (cT (cBin (oInF false) fa fb)) := dt_cmp op_in_seq oInF_ok ha hb hm
theorem dt_nin (ha : DE X W a fa) (hb : DE X W b fb) (hm : behindInMarks .NotIn b = false := by rfl) : DT X W (.Compare a [.NotIn] [b] pos) (cT (cBin (oInF true) fa fb)) := dt_cmp op_notIn_seq oInF_ok ha hb hm
end
section
variable {X : Cx} {W : Wish} {a b : Expr} {fa fb : Ex} {p pos : Pos}
theorem de_abs (hg : Gl X "abs") (hm : X.mg "abs" = none) (ha : DE X W a fa) (he : starEach [a] X.env = (false, eval a X.env) :: starEach [] X.env := by rfl) : DE X W (.Call (.Name "abs" p) [a] [] pos) (cUn oAbs fa) :=
  de_call1 call_abs oAbs_ok hg hm (by decide +kernel) ha (by decide) (by decide) he
theorem de_len (hg : Gl X "len") (hm : X.mg "len" = none) (ha : DE X W a fa) (he : starEach [a] X.env = (false, eval a X.env) :: starEach [] X.env := by rfl) : DE X W (.Call (.Name "len" p) [a] [] pos) (cUn oLen fa) :=
  de_call1 call_len_seq oLen_ok hg hm (by decide +kernel) ha (by decide) (by decide) he
theorem de_sum (hc : X.calm = true) (hg : Gl X "sum") (hm : X.mg "sum" = none) (ha : DE X W a fa) (he : starEach [a] X.env = (false, eval a X.env) :: starEach [] X.env := by rfl) : DE X W (.Call (.Name "sum" p) [a] [] pos) (cUn oSum fa) :=
  de_call1 (cr_sum hc) oSum_ok hg hm (by decide +kernel) ha (by decide) (by decide) he
theorem de_int1 (hg : Gl X "int") (hm : X.mg "int" = none) (ha : DE X W a fa) (he : starEach [a] X.env = (false, eval a X.env) :: starEach [] X.env := by rfl) : DE X W (.Call (.Name "int" p) [a] [] pos) (cUn oInt fa) :=
  de_callTy1 call_int1 oInt_ok hg hm (by decide +kernel) ha (by decide) (by decide) he
theorem de_tuple (hg : Gl X "tuple") (hm : X.mg "tuple" = none) (ha : DE X W a fa) (he : starEach [a] X.env = (false, eval a X.env) :: starEach [] X.env := by rfl) : DE X W (.Call (.Name "tuple" p) [a] [] pos) (cUn oTuple fa) :=
  de_callTy1 call_tuple_of oTuple_ok hg hm (by decide +kernel) ha (by decide) (by decide) he
theorem de_list (hg : Gl X "list") (hm : X.mg "list" = none) (ha : DE X W a fa) (he : starEach [a] X.env = (false, eval a X.env) :: starEach [] X.env := by rfl) : DE X W (.Call (.Name "list" p) [a] [] pos) (cUn oList fa) :=
  de_callTy1 call_list_of oList_ok hg hm (by decide +kernel) ha (by decide) (by decide) he
theorem de_min2 (hc : X.calm = true) (hg : Gl X "min") (hm : X.mg "min" = none) (ha : DE X W a fa) (hb : DE X W b fb) (he : starEach [a, b] X.env = (false, eval a X.env) :: starEach [b] X.env := by rfl)
    (he2 : starEach [b] X.env = (false, eval b X.env) :: starEach [] X.env := by rfl) (hpl : (backTo pos (starEach [b] X.env)).any (·.1) = false := by rfl) : DE X W (.Call (.Name "min" p) [a, b] [] pos) (cBin oMin fa fb) :=
  de_call2 (call_min2 hc) oMin_ok hg hm (by decide +kernel) ha hb (by decide) (by decide) he he2 hpl
end
def boolsOf : List PyData → Option (List Bool)
  | [] => some []
  | .bool b :: r => (boolsOf r).map (b :: ·)
  | _ :: _ => none
theorem boolsOf_some : ∀ {ds : List PyData} {bs : List Bool}, boolsOf ds = some bs → ds = bs.map PyData.bool
  | [], bs, h => by cases h; rfl
  | d :: r, bs, h => by
    cases d <;> try cases h
    rename_i b
    cases q : boolsOf r with
    | none =>
      simp only [boolsOf, q] at h
      cases h
    | some ms =>
      simp only [boolsOf, q] at h
      cases h
      rw [List.map_cons, ← boolsOf_some q]
theorem DRs.toBools {K : PySem.W.Frag} {H : Hp} : ∀ {bs : List Bool} {vs : List V}, DRs K H vs (bs.map PyData.bool) → vs = bs.map V.bl
  | [], _, .nil => rfl
  | b :: r, _, .cons h t => by
    cases h
    rw [List.map_cons, ← DRs.toBools t]
def oAll : Op1 := fun d => match d with
  | .list xs => (boolsOf xs).map fun bs => .dat (.bool (bs.all id))
  | _ => none
theorem oAll_ok {K : PySem.W.Frag} : UnOk K (fun v H Q => rAll K [v] H Q) oAll := fun g H HF f x d rv a t z Q k => by
  cases d <;> try cases z
  rename_i xs
  unfold oAll at z
  cases q : boolsOf xs with
  | none => simp only [q] at z; cases z
  | some bs =>
    simp only [q] at z
    cases z
    have e1 := boolsOf_some q
    subst e1
    obtain ⟨p, vs, rfl, hp, rp⟩ := t.lst a.sub
    have v1 := rp.toBools
    subst v1
    exact ⟨p, bs, rfl, .inl (.inl hp), k.now a (.bl _)⟩
theorem de_all {X : Cx} {W : Wish} {a : Expr} {fa : Ex} {p pos : Pos} (hc : X.calm = true) (hg : Gl X "all") (hm : X.mg "all" = none) (ha : DE X W a fa) (he : starEach [a] X.env = (false, eval a X.env) :: starEach [] X.env := by rfl) : DE X W (.Call (.Name "all" p) [a] [] pos) (cUn oAll fa) :=
  de_call1 (cr_all hc) oAll_ok hg hm (by decide +kernel) ha (by decide) (by decide) he
section
variable {X : Cx} {es : List Expr} {l : List Nat} {i : Nat} {y : Str} {pos : Pos}
abbrev DG (X : Cx) (tg : Expr) (T : Tgt) : Prop := PG X tg (T.rd X.K)
theorem dg_one (hN : X.N.Nodup) (hi : X.N[i]? = some y) (hx : Loc X.env.scope y) (hf : X.fn y = true ∨ X.env.scope.names.lookup y = some .local := by first | exact .inl rfl | exact .inr rfl | assumption) : DG X (.Name y pos) (.one i) := pg_name hN hi hx hf
theorem dga_nil : PGs X [] (gAll []) := pgs_nil
theorem dga_cons {e : Expr} (h : PG X e (gName i)) (h2 : PGs X es (gAll l)) (hs : (assignEach (e :: es) X.env).map (·.2) = assign e X.env :: (assignEach es X.env).map (·.2) := by rfl) : PGs X (e :: es) (gAll (i :: l)) := pgs_cons h h2 hs
theorem dg_many {k : Nat} (hc : X.calm = true) (h : PGs X es (gAll l)) (hn : (assignEach es X.env).length = l.length := by rfl) (hst : (assignEach es X.env).findIdx? (·.1) = none := by rfl) : DG X (.Tuple es k pos) (.many l) := pg_tup hc h hn hst
end
def Has (P : Program) (w : World) (K : PySem.W.Frag) (mg : Str → Option Value) (base : Heap) (k : Nat) (x : Str) (ps : List Str) (F : Fn) : Prop :=
  ∃ f fd, mg x = some (.ref f) ∧ PySem.W.keepIn K (.ref f) = true ∧ Binds K fd ps [] ∧ FnG P w K mg base CX0 k f fd ps (spD K mg ps.length F) ∧ ∀ as f c v f2, F as f ≠ .ex c v f2
/-- its text as it stands behind the top -/
structure Src (K : PySem.W.Frag) (mg : Str → Option Value) (x qual : Str) (st : Stmt) (ps : List Str) : Prop where
  src : ∃ f fd, mg x = some (.ref f) ∧ Fun K qual qual st f fd ∧ Binds K fd ps []
theorem Has.named {P : Program} {w : World} {K : PySem.W.Frag} {mg : Str → Option Value} {base : Heap} {k : Nat} {x y : Str} {ps : List Str} {F : Fn} (h : Has P w K mg base k x ps F) (e : mg y = mg x) : Has P w K mg base k y ps F := by
  obtain ⟨f, fd, h1, h2⟩ := h
  exact ⟨f, fd, e.trans h1, h2⟩
theorem has_mk {P : Program} {w : World} {K : PySem.W.Frag} {mg : Str → Option Value} {base : Heap} {x qual : Str} {st : Stmt} {N ps : List Str} {k : Nat} {s : Sm} (T : Src K mg x qual st ps) (S : FnScope N ps (defScope st))
    (body : ∀ (f : Addr) (cdv : Value) (A : Around) (outer : List Env) (s0 : Shared) (H : Hp) (E : XK), A.guards = some [] → Room k (A.deeper (PyProof.Rows.envOfC qual (defScope st) s0.heap.objs.size f cdv)) →
      DSs (cxOf CX0 P w K mg base N qual (defScope st) f cdv A outer s0 H E).nox (fun _ _ _ => False) (defBody st) s) : Has P w K mg base (k + 1) x ps (dBody N.length s) := by
  obtain ⟨f, fd, hm, F, hb⟩ := T.src
  exact ⟨f, fd, hm, F.kp, hb, fnD F S fun X _ _ _ _ _ _ ⟨cdv, A, outer, s0, H, E, gd, room, e⟩ => e ▸ body f cdv A outer s0 H E gd room, dBody_noex _ _⟩
theorem de_has {X : Cx} {W : Wish} {k : Nat} {x : Str} {ps : List Str} {F : Fn} {p pos : Pos} {e : Expr} {es : List Expr} {xs : List Ex} (h : Has X.prog X.w X.K X.mg X.base k x ps F) (gd : X.A.guards = some []) (hr : Room k X.A) (hg : Gl X x)
    (ha : DA X W (e :: es) xs) (hn : xs.length = ps.length := by rfl) (hdb : (x == ("__debug__" : Str)) = false := by decide) (he : starEach (e :: es) X.env = (false, eval e X.env) :: starEach es X.env := by rfl) (hpl : (backTo pos (starEach es X.env)).any (·.1) = false := by rfl) :
    DE X W (.Call (.Name x p) (e :: es) [] pos) (cCall F xs) := by
  obtain ⟨f, fd, hm, hk, hb, G, hno⟩ := h
  exact de_call G gd hr hg hm hk hb ha hno hn hdb he hpl
end Dn
end
section
set_option maxHeartbeats 4000000
namespace Dn
open PySem PySem.Spec L2
theorem hu1 {n : Nat} (h : n + 64 < cLine) : n + 1 < cLine := by omega
theorem src_mk {K : PySem.W.Frag} {h : Heap} {mg : Str → Option Value} {x qual : Str} {st : Stmt} {ps : List Str} {f : Addr} {od an : Option Addr} {sl : Array (Option Value)} {oc kV dc pm cd ct : Value} (X : K.In h) (G : h.Ns mainGlobals mg)
    (a1 : PySem.W.nsIn K mainGlobals x = some (some (.ref f))) (l1 : K.lookup f = some ⟨oc, od, .func (PySem.W.fnOf qual qual (defArgs st) (defBody st) (defScope st) .none kV dc pm an cd ct), sl⟩) (c1 : PySem.W.codeIn K cd qual = true) (k1 : PySem.W.keepIn K (.ref f) = true)
    (hb : ∀ (kV doc pm : Value) (an : Option Addr) (cdv ct : Value) (us : List Value), us.length = ps.length → bindArgs (PySem.W.fnOf qual qual (defArgs st) (defBody st) (defScope st) .none kV doc pm an cdv ct) ⟨us, []⟩ = pure (ps.zip us)) : Src K mg x qual st ps :=
  ⟨⟨f, _, PySem.W.mg_of X G a1, fun_mk l1 c1 k1, (fun_mk l1 c1 k1).binds hb⟩⟩
theorem same_mk {K : PySem.W.Frag} {h : Heap} {mg : Str → Option Value} {x y : Str} {f : Value} (X : K.In h) (G : h.Ns mainGlobals mg) (a : PySem.W.nsIn K mainGlobals x = some (some f)) (b : PySem.W.nsIn K mainGlobals y = some (some f)) : mg x = mg y :=
  (PySem.W.mg_of X G a).trans (PySem.W.mg_of X G b).symm
theorem rat_mk {K : PySem.W.Frag} {h : Heap} {mg : Str → Option Value} {x : Str} {a : Addr} {od : Option Addr} {i j : Int} {t u : Tok} {n : Nat} {sl : Array (Option Value)} (X : K.In h) (G : h.Ns mainGlobals mg) (e : PySem.W.nsIn K mainGlobals x = some (some (.ref a))) (l : K.lookup a = some ⟨.type "tuple", od, .seq #[.int i t, .int j u] n, sl⟩) :
    ∃ a, mg x = some (.ref a) ∧ ∀ HF, DR K HF (.ref a) (.tuple [.int i, .int j]) := ⟨a, PySem.W.mg_of X G e, DR.ratK l⟩
theorem int_mk {K : PySem.W.Frag} {h : Heap} {mg : Str → Option Value} {x : Str} {i : Int} {t : Tok} (X : K.In h) (G : h.Ns mainGlobals mg) (e : PySem.W.nsIn K mainGlobals x = some (some (.int i t))) : ∃ t, mg x = some (.int i t) := ⟨t, PySem.W.mg_of X G e⟩
end Dn
end
section
set_option maxHeartbeats 4000000
namespace Dn
open PySem PySem.Spec L2
def oShl : Op2 := intsOp powC fun i j => .int (i * 2 ^ j.toNat)
section
variable {X : Cx} {W : Wish} {a b : Expr} {fa fb : Ex} {pos : Pos}
theorem de_shl (ha : DE X W a fa) (hb : DE X W b fb) : DE X W (.BinOp a .LShift b pos) (cBin oShl fa fb) := de_bin op_shl (intsOp_ok fun _ _ => powC_of) ha hb
end
def sPar3 (i j l : Nat) (a b c : Ex) : Sm := fun ρ f => (cArgs [a, b, c] ρ f).bind fun ds f1 => match ds with
  | [d, e, h] => .ok (.nx (((ρ.set i (.dat d)).set j (.dat e)).set l (.dat h))) f1
  | _ => .no
section
variable {X : Cx} {E : XK} {pos : Pos}
end
def downD (lo : Int) (n : Nat) : List PyData := (List.range n).map fun (k : Nat) => .int (lo + (k : Nat) * (-1))
def iDown (a b c : Ex) : Ix := fun ρ f => pk (a ρ f) fun d f1 => pk (b ρ f1) fun d2 f2 => pk (c ρ f2) fun d3 f3 => match d, d2, d3 with
  | .int i, .int j, .int k => if (smallI i && smallI j && decide (k = -1)) = true then .ok (downD i (i - j).toNat) f3 else .no
  | _, _, _ => .no
section
variable {X : Cx} {W : Wish} {tg : Expr} {p pos : Pos} {e e2 e3 : Expr} {x y z : Ex}
end
def popped (i : Nat) (ρ : Rho) : Option (PyData × Rho) := match ρ[i]? with
  | some (.own ds) => match ds[ds.length - 1]? with
    | some d => some (d, ρ.set i (.own ds.dropLast))
    | none => none
  | _ => none
def sPop (i : Nat) (T : Tgt) : Sm := fun ρ f => match popped i ρ with
  | some (d, ρ1) => match T.put d ρ1 with
    | some ρ2 => .ok (.nx ρ2) f
    | none => .no
  | none => .no
def sPopD (i : Nat) : Sm := fun ρ f => match popped i ρ with
  | some (_, ρ1) => .ok (.nx ρ1) f
  | none => .no
theorem DRs.dropLast {K : PySem.W.Frag} {H : Hp} {vs : List V} {ds : List PyData} (r : DRs K H vs ds) : DRs K H vs.dropLast ds.dropLast := by
  rw [List.dropLast_eq_take, List.dropLast_eq_take, r.length]
  exact r.take _
section
variable {X : Cx} {E : XK} {o : Expr} {i : Nat} {apos cpos pos : Pos}
end
theorem vals_ints : ∀ {ns : List Int} {us : List Value}, Vals (ns.map V.int) us → ∃ ps : List (Int × Tok), ps.map (·.1) = ns ∧ us = ps.map fun p => .int p.1 p.2
  | [], _, .nil => ⟨[], rfl, rfl⟩
  | n :: ns, _, .cons h t => by
    obtain ⟨ps, e1, e2⟩ := vals_ints t
    obtain ⟨tk, rfl⟩ := h
    exact ⟨(n, tk) :: ps, by rw [List.map_cons, e1], by rw [List.map_cons, e2]⟩
end Dn
end
section
set_option maxHeartbeats 4000000
namespace Dn
open PySem PySem.Spec L2
mutual
/-- no list in it -/
def flat : PyData → Bool
  | .list _ => false
  | .tuple ds => flatAll ds
  | .dict (_ :: _) => false
  | _ => true
def flatAll : List PyData → Bool
  | [] => true
  | d :: ds => flat d && flatAll ds
end
section
variable {K : PySem.W.Frag} {G G2 : Hp} {p : Addr}
end
def keepF : RV → Feed → R RV
  | .dat d, f => if flat d then .ok (.dat d) f else .no
  | .own ds, f => if flatAll ds then .ok (.own ds) f else .no
  | _, _ => .no
/-- a call: xs, then the growing list i -/
def cCallL (F : Fn) (xs : List Ex) (i : Nat) : Ex := fun ρ f => (cVals xs ρ f).bind fun as f1 => match ρ[i]? with
  | some (.own ds) => (F (as ++ [.dat (.list ds)]) f1).bind keepF
  | _ => .no
section
variable {K : PySem.W.Frag} {mg : Str → Option Value} {W : Wish}
end
section
variable {X : Cx} {W : Wish} {k : Nat} {f : Addr} {fd : FuncData} {ps : List Str} {F : Fn} {x : Str} {p pos : Pos} {e : Expr} {es : List Expr} {xs : List Ex} {i : Nat}
end
end Dn
end
section
set_option maxHeartbeats 4000000
namespace Dn
open PySem PySem.Spec L2
def oShr : Op2 := intsOp (fun _ j => decide (0 ≤ j)) fun i j => .int (i / 2 ^ j.toNat)
def oAnd : Op2 := intsOp (fun _ _ => true) fun i j => .int (Builtin.bitAnd i j)
def oRev : Op1
  | .list xs => some (.own xs.reverse)
  | _ => none
section
variable {X : Cx} {W : Wish} {a b : Expr} {fa fb : Ex} {pos : Pos}
theorem de_shr (ha : DE X W a fa) (hb : DE X W b fb) : DE X W (.BinOp a .RShift b pos) (cBin oShr fa fb) := de_bin op_shr (intsOp_ok fun _ _ h => of_decide_eq_true h) ha hb
theorem de_bitand (ha : DE X W a fa) (hb : DE X W b fb) : DE X W (.BinOp a .BitAnd b pos) (cBin oAnd fa fb) := de_bin op_and intsI_ok ha hb
theorem bitAnd_one (n : Nat) : Builtin.bitAnd (n : Int) 1 = ((n % 2 : Nat) : Int) := by
  rw [PyProof.Rows.bitAnd_m1]
  omega
end
end Dn
end
section
set_option maxHeartbeats 4000000
namespace Dn
open PySem PySem.Spec L2
section
variable {X : Cx} {e : Expr} {es : List Expr} {ta : TA} {p1 p2 pos : Pos}
theorem pe_finit {y : Str} {B : Addr} {pl : Sem Bool} (hg : Gl X y) (hm : X.mg y = some (.ref B)) (sg : PySem.W.specialIn X.K (.ref B) "__getattribute__" = some (some (.builtin "type.__getattribute__"))) (rd : PySem.W.readsIn X.K B (.type "type") = true)
    (vV : PySem.W.findCls X.K (.ref B) (.type "type") "__init__" = some (.val (.builtin "ValueError.__init__"))) (ha : PA X (e :: es) ta) (hdb : (y == ("__debug__" : Str)) = false := by decide)
    (hc : eval (.Call (.Attribute (.Name y p1) "__init__" p2) (e :: es) [] pos) X.env = (do
      let ov ← eval (.Name y p1) X.env
      standAt p2.atName
      let (f, first) ← holding [ov] (getMethod ov "__init__" pl)
      callWith pos f first (backTo pos (starEach (e :: es) X.env)) (backToKw pos (keywordEach [] X.env))) := by rfl)
    (he : starEach (e :: es) X.env = (false, eval e X.env) :: starEach es X.env := by rfl) (hpl : (backTo pos (starEach es X.env)).any (·.1) = false := by rfl) :
    PE X (.Call (.Attribute (.Name y p1) "__init__" p2) (e :: es) [] pos) (tVeI X.K ta) := by
  refine ⟨fun pins s σ H Q I h => ?_⟩
  refine PySem.W.methodCall_KW (ld_glob I hg hm ?_ hdb) hc
  refine PySem.W.method_cls I.kIn sg (PySem.W.cls_value I.kIn rd vV (by decide +kernel) ?_)
  show wpAny _ _ (callWith pos (Value.builtin "ValueError.__init__") [] (backTo pos (starEach (e :: es) X.env)) []) _ _ _
  refine PyProof.Rows.callWith_method1 (thn (ha.run pos pins _ σ H _ (I.tok _) h) fun us s1 ⟨vs, H1, I1, r1, a, C, ws, ev, hl, T, ea, q⟩ => ?_) he hpl
  subst ev
  cases r1 with
  | @cons _ u0 _ ur ra rw' =>
    obtain rfl : u0 = Value.ref a := ra
    have hlen : ur.length ≤ sizeLine := by
      rw [← Paired.length rw', sizeLine_eq]
      omega
    exact oinit_ok T I1 ea hlen fun s' J => ⟨.non, H1, J, rfl, q⟩
end
theorem at_ne' {H : Hp} {a b : Addr} {o u : HO} (ha : H a = some o) (hb : H b = some u) (d : o ≠ u) : b ≠ a := fun z => by
  rw [z, ha] at hb
  exact d (Option.some.inj hb)
section
variable {X : Cx} {pins : List (Addr × Obj)} {σ : St} {H1 H2 : Hp} {Q : XK} {hp hp2 h2 : Heap} {g1 g2 : Array GenState} {d1 d2 : Drawn} {t1 t2 : Nat} {os1 os2 : OsState} {a C : Addr}
theorem mk_endN (T : Raises X (.ref C)) (I1 : Inv X pins σ H1 ⟨hp, g1, d1, t1, os1⟩)
    (ha : hp.objs.size ≤ a) (k : ∀ b o, hp.get? b = some o → hp2.get? b = some o) (un : Un (frs X.stack) [] (upd H1 a (exo a C none)) H2 hp2 h2) (hok : HOk X.prog X.w H2 h2) (ho : os2 = os1) (hb : PyProof.Rows.AllBare g2)
    (ea : H2 a = some (exo a C none)) (q : Q (.ref C) none (del H2 a)) : MkP X pins σ Q (.ref a) ⟨h2, g2, d2, t2, os2⟩ := by
  obtain ⟨t0, hoe⟩ := exo_at hok ea
  have hn : H1 a = none := I1.hok.fresh ha
  obtain ⟨G, g1', g2'⟩ := restrict h2 fun b => decide (b ≠ a)
  have gk : ∀ b, b ≠ a → G.get? b = h2.get? b := fun b hb => g1' b (decide_eq_true hb)
  have ge : G.get? a = none := g2' a (by simp)
  have nha : ∀ {b : Addr} {o : Obj}, hp.get? b = some o → b ≠ a := fun {b o} z => Nat.ne_of_lt (Nat.lt_of_lt_of_le (Heap.lt_size z) ha)
  have up : ∀ {b : Addr}, b ≠ a → H1 b = none → upd H1 a (exo a C none) b = none := fun {b} hb n => by rw [upd_ne hb]; exact n
  have U : Un (frs X.stack) [] H1 (del H2 a) hp G := {
    keep := fun b o z n hf hx => by
      rw [gk b (nha z)]
      exact un.keep b o (k b o z) (up (nha z) n) hf hx
    slot := fun b o z n hf hx => by
      rw [gk b (nha z)]
      exact un.slot b o (k b o z) (up (nha z) n) hf hx
    free := fun b o z n hx => by
      rw [del_ne (nha z)]
      exact un.free b o (k b o z) (up (nha z) n) hx
    there := fun b o z hx => by
      rw [gk b (nha z)]
      exact un.there b o (k b o z) hx
    tups := fun b xs z => by
      rw [del_ne (ne_of_none z hn)]
      exact un.tups b xs (by rw [upd_ne (ne_of_none z hn)]; exact z)
    frzs := fun b o v z => by
      rw [del_ne (ne_of_none z hn)]
      exact un.frzs b o v (by rw [upd_ne (ne_of_none z hn)]; exact z)
    tbls := fun b ps z => by
      rw [del_ne (ne_of_none z hn)]
      exact un.tbls b ps (by rw [upd_ne (ne_of_none z hn)]; exact z) }
  have hok3 : HOk X.prog X.w (del H2 a) G := fun b o z => by
    have hba : b ≠ a := fun e => by
      rw [e, del_same] at z
      cases z
    rw [del_ne hba] at z
    have noa : ∀ {c : Addr}, H2 c = some (.own b) → c ≠ a := fun {c} hc => at_ne' ea hc exo_own
    exact (hok b o z).stay (fun c v hc y => by
        have hca : c ≠ a := by
          rcases hc with hc | hc
          · rw [hc]
            exact hba
          · exact noa hc
        rw [gk c hca]
        exact y)
      (fun c hc => by rw [del_ne (noa hc)]; exact hc) (fun c xs hc => by rw [del_ne (at_ne' ea hc exo_tup)]; exact hc)
  have J : Inv X pins σ (del H2 a) ⟨G, g2, d2, t2, os2⟩ := I1.call' (ch := []) ho U hok3 hb (fun b z => absurd z (by simp))
  refine ⟨a, _, _, ⟨G, g2, d2, t2, os2⟩, _, .ref C, none, rfl, J, fun b o z => ?_, ge, hoe, ⟨rfl, rfl⟩, rfl, rfl, del_same, rfl, hb, T, q⟩
  by_cases hba : b = a
  · rw [hba] at z
    rw [ge] at z
    cases z
  · exact (gk b hba).symm.trans z
end
/-- C(e, ..), C's own __init__ keeping sp, fields or none -/
def tMkE (C : Addr) (sp : Sp) (ta : TA) : St → Hp → XK → Prop := fun σ H Q => ta σ H fun vs H1 => vs.length ≤ 1000 ∧ ∀ a, H1 a = none → sp (.ref a :: vs) (upd H1 a (exo a C none))
  (fun v H2 => v = .non ∧ ((∃ (d : Addr) (fs : List (Str × V)), H2 a = some (exo a C (some d)) ∧ H2 d = some (exd d fs) ∧ H1 d = none ∧ Q (.ref C) (some d) (upd (del H2 a) d (.xd fs))) ∨ (H2 a = some (exo a C none) ∧ Q (.ref C) none (del H2 a)))) (fun _ _ _ => False)
section
variable {X : Cx} {x : Str} {e : Expr} {es : List Expr} {ta : TA} {p pos : Pos} {C fI : Addr} {k : Nat} {fd : FuncData} {ps : List Str} {sp : Sp}
theorem mk_goes {pins : List (Addr × Obj)} {σ : St} {H1 : Hp} {Q : XK} {s1 : Shared} {us : List Value} {vs : List V} (T : OexC X.K C) (iC : PySem.W.findIn X.K (.ref C) "__init__" = some (some (.ref fI))) (tI : PySem.W.typeIn X.K (.ref fI) = some (.type "function"))
    (F1 : FnOk X.prog X.w X.K X.mg X.base CX0 k fI fd ps sp) (hr : Room (k + 1) X.A) (hb : Binds X.K fd ps []) (I1 : Inv X pins σ H1 s1) (r1 : Vals vs us) (hz : vs.length ≤ 1000)
    (q1 : ∀ a, H1 a = none → sp (.ref a :: vs) (upd H1 a (exo a C none)) (fun v H2 => v = .non ∧ ((∃ (d : Addr) (fs : List (Str × V)), H2 a = some (exo a C (some d)) ∧ H2 d = some (exd d fs) ∧ H1 d = none ∧ Q (.ref C) (some d) (upd (del H2 a) d (.xd fs))) ∨ (H2 a = some (exo a C none) ∧ Q (.ref C) none (del H2 a)))) (fun _ _ _ => False)) :
    wpAny (model X.prog X.w) X.A (call (.ref C) us) (MkP X pins σ Q) X.xe s1 := by
  obtain ⟨nm, q, N, bs, bm, sn, sub, ab, col, dd, k0, k1, k2, k3, k5, hC, hbm⟩ := T.cls
  obtain ⟨hp, g, dr, tk, os⟩ := s1
  have hsz : hp.objs.size ≤ hp.objs.size + 1 := Nat.le_succ _
  have hn : H1 (hp.objs.size + 1) = none := I1.hok.fresh hsz
  have hq := q1 (hp.objs.size + 1) hn
  have kk : ∀ b o, hp.get? b = some o → ((hp.push (PySem.W.kdv_tup us)).push (PySem.HandSPX.excO C hp.objs.size)).get? b = some o := fun b o e => Heap.get?_push_of_some _ (Heap.get?_push_of_some _ e)
  have hget : ((hp.push (PySem.W.kdv_tup us)).push (PySem.HandSPX.excO C hp.objs.size)).get? (hp.objs.size + 1) = some (PySem.HandSPX.excO C hp.objs.size) := by heap_get
  have I2 : Inv X pins σ (upd H1 (hp.objs.size + 1) (exo (hp.objs.size + 1) C none)) ⟨(hp.push (PySem.W.kdv_tup us)).push (PySem.HandSPX.excO C hp.objs.size), g, dr, tk, os⟩ :=
    I1.laid (t' := tk) (a := hp.objs.size + 1) (o := exo (hp.objs.size + 1) C none) (h' := (hp.push (PySem.W.kdv_tup us)).push (PySem.HandSPX.excO C hp.objs.size)) kk hsz (exo_ok hget)
  have r2 : Vals (V.ref (hp.objs.size + 1) :: vs) (Value.ref (hp.objs.size + 1) :: us ++ []) := by
    rw [List.append_nil]
    exact .cons rfl r1
  have hl : (Value.ref (hp.objs.size + 1) :: us ++ []).length = ps.length := by
    have e := r2.length
    rw [F1.len _ _ _ _ hq] at e
    exact e.symm
  have hus : us.length ≤ sizeLine := by
    rw [← Paired.length r1, sizeLine_eq]
    omega
  refine wpAny_call (PySem.HandSPX.call_own F.excBase_ValueError (fun Y => PySem.HandSPX.refsVE_contains Y bm hbm) (I1.kIn _ _ hC) (PySem.W.looks_findIn I1.kIn iC) (fun self => PySem.W.bind_fn I1.kIn self tI) hus
    (codeAny_mono (F1.run _ X.stack _ _ ⟨Value.ref (hp.objs.size + 1) :: us, []⟩ (Value.ref (hp.objs.size + 1) :: us ++ []) _ _ (fun _ _ _ => False) (hr.make C us []) (I2.env0.make C us []) (hb _ (Value.ref (hp.objs.size + 1) :: us) I2.kIn hl) r2 hq) fun r s' hq' => ?_))
  cases r with
  | error er => exact (pass0 pins σ _ _ er s' I2 hq')
  | ok fl =>
    cases fl with
    | ret u =>
      obtain ⟨v, H2, os2, bare2, un2, hok2, rv, ev, q2⟩ := hq'
      subst ev
      obtain ⟨h2, g2, d2, t2, os'⟩ := s'
      rcases q2 with ⟨d, fs, ea, ed, hd1, q2⟩ | ⟨ea, q2⟩
      · exact ⟨rv, mk_end (raises_own T.exC T.tyC) I1 hsz kk un2 hok2 os2 bare2 ea ed hd1 q2⟩
      · exact ⟨rv, mk_endN (raises_own T.exC T.tyC) I1 hsz kk un2 hok2 os2 bare2 ea q2⟩
    | next => exact False.elim hq'
    | brk => exact False.elim hq'
    | cont => exact False.elim hq'
theorem pmk_e (T : OexC X.K C) (iC : PySem.W.findIn X.K (.ref C) "__init__" = some (some (.ref fI))) (tI : PySem.W.typeIn X.K (.ref fI) = some (.type "function"))
    (F1 : FnOk X.prog X.w X.K X.mg X.base CX0 k fI fd ps sp) (hr : Room (k + 1) X.A) (hb : Binds X.K fd ps []) (hg : Gl X x) (hm : X.mg x = some (.ref C)) (ha : PA X (e :: es) ta)
    (hdb : (x == ("__debug__" : Str)) = false := by decide) (he : starEach (e :: es) X.env = (false, eval e X.env) :: starEach es X.env := by rfl) (hpl : (backTo pos (starEach es X.env)).any (·.1) = false := by rfl) :
    PMk X (.Call (.Name x p) (e :: es) [] pos) (tMkE C sp ta) := by
  intro pins s σ H Q I h
  refine wpAny_Call_Name_kw (ld_glob I hg hm ?_ hdb)
  refine PySem.W.callWith_K (h₀ := X.base) I.ok.mod.kin T.kC (thn (ha.run pos pins s σ H _ I h) fun us s1 ⟨vs, H1, I1, r1, hz, q1⟩ => ⟨I1.kIn, ?_⟩) he hpl
  exact mk_goes T iC tI F1 hr hb I1 r1 hz q1
end
def spIni (K : PySem.W.Frag) (C : Addr) (fs : List Str) : Sp := fun vs H Q _ => ∃ a ws, vs = .ref a :: ws ∧ ws.length = fs.length ∧ OexC K C ∧ (∀ f ∈ fs, PySem.W.findIn K (.ref C) f = some none) ∧ H a = some (exo a C none) ∧
  (match fs with
  | [] => Q .non H
  | _ => ∀ d, H d = none → d ≠ a → Q .non (upd (upd H d (exd d (fs.zip ws).reverse)) a (exo a C (some d))))
def tI0 (K : PySem.W.Frag) (s : Str) : TS := tDrop (tVeI K (tCons (tVar 0) (tCons (tC (.str s)) tNil)))
def tI2 (K : PySem.W.Frag) (s f g : Str) : TS := tSeq (tI0 K s) (tSeq (tOst K f (tVar 0) (tVar 1)) (tOst K g (tVar 0) (tVar 2)))
section
variable {K : PySem.W.Frag} {C : Addr} {vs : List V} {H : Hp} {Q : VK} {E : XK} {s x y : Str}
theorem upd_two {H : Hp} {a d : Addr} {o u v : HO} (h : d ≠ a) : upd (upd (upd H d o) a u) d v = upd (upd H d v) a u := by
  funext b
  by_cases e1 : b = a
  · subst e1
    rw [upd_ne (Ne.symm h), upd_same, upd_same]
  · by_cases e2 : b = d
    · subst e2
      rw [upd_same, upd_ne e1, upd_same]
    · rw [upd_ne e2, upd_ne e1, upd_ne e2, upd_ne e1, upd_ne e2]
theorem ini2 (h : spIni K C [x, y] vs H Q E) : tI2 K s x y { nx := fun _ G => Q .non G, rt := Q } (L2.start ["self", x, y] vs) H := by
  obtain ⟨a, ws, rfl, hl, T, no, ha, q⟩ := h
  match ws, hl with
  | [v, w], _ =>
    refine ⟨_, rfl, a, C, _, rfl, Nat.le_add_left 1 999, T, ha, v, rfl, _, rfl, a, C, rfl, T, no x (by simp), .inl ⟨ha, fun d hd hne => ?_⟩⟩
    refine ⟨w, rfl, _, rfl, a, C, rfl, T, no y (by simp), .inr ⟨d, _, upd_same, by rw [upd_ne hne, upd_same], by show 1 ≤ 900; decide, ?_⟩⟩
    rw [upd_two hne]
    exact q d hd hne
end
/-- a class of errors as it stands behind the top: x its name, fs its fields -/
structure ErrI (P : Program) (w : World) (K : PySem.W.Frag) (mg : Str → Option Value) (base : Heap) (x : Str) (fs : List Str) : Prop where
  ex : ∃ C fI fd, mg x = some (.ref C) ∧ OexC K C ∧ (∀ f ∈ fs, PySem.W.findIn K (.ref C) f = some none) ∧ PySem.W.findIn K (.ref C) "__init__" = some (some (.ref fI)) ∧ PySem.W.typeIn K (.ref fI) = some (.type "function") ∧
    FnOk P w K mg base CX0 1 fI fd ("self" :: fs) (spIni K C fs) ∧ Binds K fd ("self" :: fs) []
def sRaise (x : Str) (fs : List Str) (xs : List Ex) : Sm := fun ρ f => (cArgs xs ρ f).bind fun ds f1 => if ds.length = fs.length ∧ fs.length ≤ 900 then .ex x (fs.zip ds).reverse f1 else .no
theorem lay_new {g : Gh} {H HF : Hp} {f : Feed} {p : Addr} {o : HO} (sub : Le HF H) (h : FeedAt g H HF f) (hp : H p = none) : Step g H HF (upd H p o) (upd HF p o) ∧ FeedAt g (upd H p o) (upd HF p o) f := by
  have hf : HF p = none := by
    cases z : HF p with
    | none => rfl
    | some o => rw [sub _ _ z] at hp; cases hp
  have l : Le HF (upd HF p o) := fun b o e => by
    rw [upd_ne (ne_of_none e hf)]
    exact e
  refine ⟨⟨fun b o _ e => ?_, l, fun b x y => ?_, fun b o e => ?_⟩, ⟨?_, ?_, ?_⟩⟩
  · rw [upd_ne (ne_of_none e hp)]
    exact e
  · rw [upd_ne (fun z => x.some (by rw [z]; exact hp))]
    exact y
  · by_cases z : b = p
    · subst z
      rw [upd_same] at e ⊢
      exact e
    · rw [upd_ne z] at e ⊢
      exact sub _ _ e
  · rw [upd_ne (ne_of_none h.d hp)]
    exact h.d
  · rw [upd_ne (ne_of_none h.d hp)]
    exact h.nf
  · exact l _ _ h.c
theorem map_zip1 : ∀ {fs : List Str} {α : Type} {vs : List α}, vs.length = fs.length → (fs.zip vs).map (·.1) = fs
  | [], _, _, _ => rfl
  | _ :: _, _, [], h => by cases h
  | f :: fs, _, v :: vs, h => by
    exact congrArg (f :: ·) (map_zip1 (by simpa using h))
theorem map_zip2 : ∀ {fs : List Str} {α : Type} {vs : List α}, vs.length = fs.length → (fs.zip vs).map (·.2) = vs
  | [], _, [], _ => rfl
  | [], _, _ :: _, h => by cases h
  | _ :: _, _, [], h => by cases h
  | f :: fs, _, v :: vs, h => by
    exact congrArg (v :: ·) (map_zip2 (by simpa using h))
section
variable {X : Cx} {E : XK} {x : Str} {fs : List Str} {e : Expr} {es : List Expr} {xs : List Ex} {p pos pos2 : Pos}
theorem raise_read {D : Ends} {σ : St} {H : Hp} {C : Addr} (hm : X.mg x = some (.ref C)) (T : OexC X.K C) (no : ∀ f ∈ fs, PySem.W.findIn X.K (.ref C) f = some none)
    (q : tDS X.K X.mg E (sRaise x fs xs) D σ H) : tMkE C (spIni X.K C fs) (argT X.K X.mg (fun _ => E) xs) σ H fun cls d H' => E cls d H' := by
  obtain ⟨g, HF, ρ, f, rel, q⟩ := q
  unfold sRaise at q
  refine args_read xs rel (rel.toE q) fun ds f1 vs G GF r1 s1 drs q1 => ?_
  by_cases c : ds.length = fs.length ∧ fs.length ≤ 900
  · rw [if_pos c] at q1
    have hl : vs.length = fs.length := drs.length.trans c.1
    refine ⟨by omega, fun a ha => ⟨a, vs, rfl, hl, T, no, upd_same, ?_⟩⟩
    have go : ∀ od G2 GF2, Step g G GF G2 GF2 → FeedAt g G2 GF2 f1 → Xd X.K G2 GF2 od (fs.zip ds).reverse → E (.ref C) od G2 := fun od G2 GF2 s2 h2 xd => q1 C od G2 GF2 hm s2 h2 xd
    match fs, hl with
    | [], hl =>
      obtain rfl : vs = [] := List.eq_nil_of_length_eq_zero hl
      refine ⟨rfl, .inr ⟨upd_same, ?_⟩⟩
      have e : del (upd G a (exo a C none)) a = G := by
        funext b
        by_cases z : b = a
        · rw [z, del_same, ha]
        · rw [del_ne z, upd_ne z]
      rw [e]
      exact go none G GF (Step.refl r1.sub) r1.feed ⟨[], .inl ⟨rfl, rfl⟩, by simp, by simpa using DRs.nil⟩
    | w :: ws, hl =>
      intro d hd hne
      have hd1 : G d = none := by rw [upd_ne hne] at hd; exact hd
      refine ⟨rfl, .inl ⟨d, _, upd_same, by rw [upd_ne hne, upd_same], hd1, ?_⟩⟩
      have e : upd (del (upd (upd (upd G a (exo a C none)) d (exd d ((w :: ws).zip vs).reverse)) a (exo a C (some d))) a) d (.xd ((w :: ws).zip vs).reverse) = upd G d (.xd ((w :: ws).zip vs).reverse) := by
        funext b
        by_cases z : b = d
        · rw [z, upd_same, upd_same]
        · rw [upd_ne z, upd_ne z]
          by_cases y : b = a
          · rw [y, del_same, ha]
          · rw [del_ne y, upd_ne y, upd_ne z, upd_ne y]
      rw [e]
      obtain ⟨s2, h2⟩ := lay_new (o := .xd ((w :: ws).zip vs).reverse) r1.sub r1.feed hd1
      refine go (some d) _ _ s2 h2 ⟨((w :: ws).zip vs).reverse, .inr ⟨d, rfl, upd_same⟩, ?_, ?_⟩
      · rw [List.map_reverse, List.map_reverse, map_zip1 hl, map_zip1 c.1]
      · rw [List.map_reverse, List.map_reverse, map_zip2 hl, map_zip2 c.1]
        exact (drs.mono s2.le).rev
  · rw [if_neg c] at q1
    exact (show False from q1).elim
theorem ds_raise (h : ErrI X.prog X.w X.K X.mg X.base x fs) (hc : X.calm = true) (tk : Takes X fun cls d _ H => E cls d H) (hr : Room 2 X.A) (hg : Gl X x) (ha : DA X (fun _ => E) (e :: es) xs)
    (hdb : (x == ("__debug__" : Str)) = false := by decide) (he : starEach (e :: es) X.env = (false, eval e X.env) :: starEach es X.env := by rfl) (hpl : (backTo pos (starEach es X.env)).any (·.1) = false := by rfl) :
    DS X E (.Raise (some (.Call (.Name x p) (e :: es) [] pos)) none pos2) (sRaise x fs xs) := by
  obtain ⟨C, fI, fd, hm, T, no, iC, tI, F, hb⟩ := h.ex
  exact ps_mono (ps_raise hc tk (pmk_e (k := 1) T iC tI F hr hb hg hm ha hdb he hpl)) fun D σ H q => raise_read hm T no q
end
section
variable {P : Program} {w : World} {K : PySem.W.Frag} {mg : Str → Option Value} {base : Heap}
theorem fnX_ok {x qual : Str} {st : Stmt} {f : Addr} {fd : FuncData} {N ps : List Str} {k : Nat} {sp : Sp} (F : Fun K x qual st f fd) (S : FnScope N ps (defScope st)) (size : ∀ vs H Q E, sp vs H Q E → vs.length = ps.length)
    (body : ∀ (cdv : Value) (A : Around) (outer : List Env) (s : Shared) (H : Hp) (vs : List V) (Q : VK) (E : XK), A.guards = some [] → Room k (A.deeper (PyProof.Rows.envOfC qual (defScope st) s.heap.objs.size f cdv)) → sp vs H Q E →
      ∃ t, PSs (cxOf (L2.CX P w) P w K mg base N qual (defScope st) f cdv A outer s H E) (defBody st) t ∧ t { nx := fun _ G => Q .non G, rt := Q } (L2.start N vs) H) : FnG P w K mg base (L2.CX P w) (k + 1) f fd ps sp := by
  obtain ⟨oc, od, kV, doc, pm, an, cdv, ct, osl, rfl, lk, hcd⟩ := F.ex
  refine ⟨size, fun A outer s H args us vs Q E gd room e0 bnd rel hsp => ?_⟩
  have KX : K.In s.heap := e0.mod.kin.keeps (fun b o e => (e0.bs b o e).1)
  have par : ∀ y ∈ ps.zip us, (defScope st).names.lookup y.1 = some .local ∨
      ((defScope st).names.lookup y.1 = some .cell ∧ ((cellsFrom (s.heap.objs.size + 1) (defScope st).names []).lookup y.1).isSome = true) := by
    intro y hy
    rcases S.par y.1 (List.of_mem_zip hy).1 with q | q
    · exact .inl q
    · exact .inr ⟨q, PySem.W.cellsFrom_some _ _ _ (.inl q)⟩
  refine codeAny_call_function room.depth (KX _ _ lk) rfl S.co S.gen rfl
    (PySem.W.codeRec_of KX hcd) (bnd _ _ _ _ ?_)
  refine wpAny_newFunctionEnv_cells S.kind par ?_
  intro env he s1 x
  subst he
  have lim : s.heap.NoLimit := e0.mod.nolimit.keeps (fun b o e => (e0.bs b o e).1)
  refine ⟨lim.keeps x.toInCall.keep, codeAny_func ?_⟩
  obtain ⟨t, ht, hq⟩ := body cdv A outer s H vs Q E gd (room.deeper _) hsp
  have J0 := inv_start (CX := L2.CX P w) (E := E) S room.hd e0 (size _ _ _ _ hsp) rel x
  refine wpAny_mono (ht.run [] s1 (L2.start N vs) H _ J0 hq) ?_ (fun e s' hs => hs)
  intro fl s' hs
  cases fl with
  | next =>
    obtain ⟨σ2, H2, J, q⟩ := hs
    exact ⟨.non, H2, J.os, J.bare, J.base, J.hok, rfl, q⟩
  | ret u =>
    obtain ⟨v, σ2, H2, J, rv, q⟩ := hs
    exact ⟨v, H2, J.os, J.bare, J.base, J.hok, rv, q⟩
  | brk =>
    obtain ⟨_, _, _, q⟩ := hs
    exact q.elim
  | cont =>
    obtain ⟨_, _, _, q⟩ := hs
    exact q.elim
end
def dEndX : R Ctl → R RV := fun r => r.bind fun c f1 => match c with
  | .nx _ => .ok (.dat .none) f1
  | .rt v => .ok v.up f1
  | _ => .no
def dBodyX (n : Nat) (s : Sm) : Fn := fun as f => dEndX (s (as.map fnSlot ++ List.replicate (n - as.length) .emp) f)
def HasX (P : Program) (w : World) (K : PySem.W.Frag) (mg : Str → Option Value) (base : Heap) (k : Nat) (x : Str) (ps : List Str) (F : Fn) : Prop :=
  ∃ f fd, mg x = some (.ref f) ∧ PySem.W.keepIn K (.ref f) = true ∧ Binds K fd ps [] ∧ FnG P w K mg base (L2.CX P w) k f fd ps (spD K mg ps.length F)
theorem HasX.named {P : Program} {w : World} {K : PySem.W.Frag} {mg : Str → Option Value} {base : Heap} {k : Nat} {x y : Str} {ps : List Str} {F : Fn} (h : HasX P w K mg base k x ps F) (e : mg y = mg x) : HasX P w K mg base k y ps F := by
  obtain ⟨f, fd, h1, h2⟩ := h
  exact ⟨f, fd, e.trans h1, h2⟩
theorem has_mkX {P : Program} {w : World} {K : PySem.W.Frag} {mg : Str → Option Value} {base : Heap} {x qual : Str} {st : Stmt} {N ps : List Str} {k : Nat} {s : Sm} (T : Src K mg x qual st ps) (S : FnScope N ps (defScope st))
    (body : ∀ (f : Addr) (cdv : Value) (A : Around) (outer : List Env) (s0 : Shared) (H : Hp) (E : XK), A.guards = some [] → Room k (A.deeper (PyProof.Rows.envOfC qual (defScope st) s0.heap.objs.size f cdv)) →
      DSs (cxOf (L2.CX P w) P w K mg base N qual (defScope st) f cdv A outer s0 H E) E (defBody st) s) : HasX P w K mg base (k + 1) x ps (dBodyX N.length s) := by
  obtain ⟨f, fd, hm, F, hb⟩ := T.src
  refine ⟨f, fd, hm, F.kp, hb, fnX_ok F S (fun vs H Q E h => h.1) fun cdv A outer s0 H vs Q E gd room h => ?_⟩
  obtain ⟨hl, g, HF, as, fe, hG, hR⟩ := h
  refine ⟨_, body f cdv A outer s0 H E gd room, { g with H0 := H, HF0 := HF }, HF, _, fe, start_rel N hG, ?_⟩
  unfold dBodyX dEndX at hR
  cases z : s (as.map fnSlot ++ List.replicate (N.length - as.length) .emp) fe with
  | no =>
    rw [z] at hR
    exact (show False from hR).elim
  | ex c v f =>
    rw [z] at hR
    exact fun C od G GF q r xd => hR C od G GF q ⟨r.ext, r.le, r.new, r.sub⟩ ⟨r.feed.d, r.feed.nf, r.feed.c⟩ xd
  | ok c f1 =>
    rw [z] at hR
    cases c with
    | nx ρ => exact fun σ G GF r => (show Back K g H HF Q (.dat .none) f1 from hR) .non G GF ⟨r.ext, r.le, r.new, r.sub⟩ ⟨r.feed.d, r.feed.nf, r.feed.c⟩ .non
    | rt rv => exact fun v G GF r => (show Back K g H HF Q rv.up f1 from hR) v G GF ⟨r.ext, r.le, r.new, r.sub⟩ ⟨r.feed.d, r.feed.nf, r.feed.c⟩ (by
        have q := r.val
        cases hq : rv.up with
        | dat d =>
          rw [hq] at q
          exact q
        | own ds =>
          rw [hq] at q
          exact q
        | lent i ds => cases rv <;> cases hq
        | feed =>
          rw [hq] at q
          exact q)
    | bk ρ => exact (show False from hR).elim
    | ct ρ => exact (show False from hR).elim
section
variable {X : Cx} {k : Nat} {x : Str} {ps : List Str} {F : Fn} {p pos : Pos} {e : Expr} {es : List Expr} {xs : List Ex} {W : Wish}
theorem de_hasX (h : HasX X.prog X.w X.K X.mg X.base k x ps F) (tk : Takes X fun cls d σ H => W σ cls d H) (gd : X.A.guards = some []) (hr : Room k X.A) (hg : Gl X x)
    (ha : DA X W (e :: es) xs) (hn : xs.length = ps.length := by rfl) (hdb : (x == ("__debug__" : Str)) = false := by decide) (he : starEach (e :: es) X.env = (false, eval e X.env) :: starEach es X.env := by rfl) (hpl : (backTo pos (starEach es X.env)).any (·.1) = false := by rfl) :
    DE X W (.Call (.Name x p) (e :: es) [] pos) (cCall F xs) := by
  obtain ⟨f, fd, hm, hk, hb, G⟩ := h
  refine pe_mono (t := fun σ H Q => argT X.K X.mg W xs σ H fun vs I => spD X.K X.mg ps.length F vs I Q (W σ)) ⟨fun pins s σ H Q I h => wpAny_Call_Name_kw (ld_glob I hg hm ?_ hdb)⟩ ?_
  · refine PySem.W.callWith_K (h₀ := X.base) I.ok.mod.kin hk (thn (ha.run pos pins s σ H _ I h) ?_) he hpl
    rintro us s1 ⟨vs, H1, I1, r, q⟩
    refine ⟨I1.kIn, ?_⟩
    have hl : (us ++ []).length = ps.length := by
      rw [List.append_nil, ← r.length]
      exact G.size _ _ _ _ q
    have hb2 := hb s1 us I1.kIn hl
    rw [List.append_nil] at hb2
    refine wpAny_call (codeAny_mono (G.go X.A X.stack s1 H1 ⟨us, []⟩ us vs Q (W σ) gd hr I1.env0 hb2 r q) ?_)
    intro res s' hq
    cases res with
    | error e => exact tk e s' (XE.of_call I1 (fun _ _ _ h => h) hq)
    | ok fl =>
      cases fl with
      | ret u => exact I1.after hq
      | next => exact hq.elim
      | brk => exact hq.elim
      | cont => exact hq.elim
  · intro σ H Q ⟨g, HF, ρ, fe, rel, q⟩
    refine vals_read xs rel q fun as f1 vs I IF hl r1 s1 drs q1 => ⟨hl.trans hn, g, IF, as, f1, ⟨r1.sub, r1.feed, drs⟩, ?_⟩
    exact ROk.mono q1 fun rv f2 q2 v J JF s2 h2 rr => (show Fin X.K g σ H HF Q rv f2 from q2) v J JF (s1.trans r1.feed s2) h2 (rr.any.back r1.feed s1)
end
end Dn
end
section
set_option maxHeartbeats 4000000
namespace Dn
open PySem PySem.Spec L2
def sTryS0 (i : Nat) (x : Ex) (names : List Str) (su : Sm) : Sm := fun ρ f => match x ρ f with
  | .no => .no
  | .ok rv f1 => match slotOf rv with
    | some s => .ok (.nx (ρ.set i s)) f1
    | none => .no
  | .ex c _ f1 => if names.contains c then noEx (su ρ f1) else .no
section
variable {K : PySem.W.Frag} {mg : Str → Option Value} {g : Gh} {E E2 : XK}
end
section
variable {X : Cx} {E : XK} {n y : Str} {e : Expr} {pn2 pos pos' pos2 np : Pos} {b₀ : Stmt} {suite : List Stmt} {x : Ex} {i : Nat} {su : Sm} {cv : Value} {names : List Str}
end
def excD (c : Str) (vs : List (Str × PyData)) : PyData := .dict ((.none, .str c) :: vs.map fun p => (.str p.1, p.2))
theorem fld_map : ∀ {xs : List (Str × V)} {vs : List (Str × PyData)}, xs.map (·.1) = vs.map (·.1) → fldD xs (vs.map (·.2)) = vs.map fun p => (.str p.1, p.2)
  | [], [], _ => rfl
  | [], _ :: _, h => by cases h
  | _ :: _, [], h => by cases h
  | x :: xs, v :: vs, h => by
    have h1 : x.1 = v.1 ∧ xs.map (·.1) = vs.map (·.1) := by simpa using h
    show (PyData.str x.1, v.2) :: fldD xs (vs.map (·.2)) = (PyData.str v.1, v.2) :: _
    rw [fld_map h1.2, h1.1]
/-- the name goes -/
def drp (j : Nat) (r : R Ctl) : R Ctl := r.bind fun c f => match c with
  | .nx ρ => .ok (.nx (ρ.set j .emp)) f
  | .bk ρ => .ok (.bk (ρ.set j .emp)) f
  | .ct ρ => .ok (.ct (ρ.set j .emp)) f
  | .rt v => .ok (.rt v) f
def caught (j : Nat) (names : List Str) (su : Sm) (c : Str) (vs : List (Str × PyData)) (ρ : Rho) (f : Feed) : R Ctl :=
  if names.contains c then drp j (noEx (su (ρ.set j (.dat (excD c vs))) f)) else .no
def sTryS (i j : Nat) (x : Ex) (names : List Str) (su : Sm) : Sm := fun ρ f => match x ρ f with
  | .no => .no
  | .ok rv f1 => match slotOf rv with
    | some s => .ok (.nx (ρ.set i s)) f1
    | none => .no
  | .ex c vs f1 => caught j names su c vs ρ f1
def sTryR (j : Nat) (x : Ex) (names : List Str) (su : Sm) : Sm := fun ρ f => match x ρ f with
  | .no => .no
  | .ok rv f1 => .ok (.rt rv) f1
  | .ex c vs f1 => caught j names su c vs ρ f1
section
variable {X : Cx} {pins : List (Addr × Obj)} {σ : St} {H : Hp} {sI s s' : Shared} {B : Heap}
/-- back on the ground, the error's object tracked -/
theorem landedT {a C : Addr} {d : Option Addr} (I : Inv X pins σ H sI) (nb : ∀ b o, sI.heap.get? b = some o → b ∉ frs X.stack → B.get? b = some o) (st : B.StaysIn s'.heap) (up : sI.heap.UpToSlots s'.heap) (os : s'.os = sI.os) (ag : PyProof.Rows.AllBare s'.gens)
    (na : H a = none) (gone : sI.heap.get? a = none) (ha : ∃ oe vs, s'.heap.get? a = some oe ∧ Zc (.ref C) d oe ∧ oe.data = .fields vs) : Inv X pins σ (upd H a (ExH a C d)) s' := by
  have nf : ∀ b ∈ frs X.stack, ∀ o, sI.heap.get? b = some o → ∃ sl, s'.heap.get? b = some { o with slots := sl } := fun b hb o e => by
    obtain ⟨_, o', e', hd⟩ := I.stack.mem hb
    rw [e] at e'; cases e'
    exact up b o e hd
  have hok : HOk X.prog X.w (upd H a (ExH a C d)) s'.heap := by
    have h1 : HOk X.prog X.w H s'.heap := (I.inGround nb).kept st
    intro b u e
    by_cases hb : b = a
    · subst hb
      rw [upd_same] at e
      cases e
      obtain ⟨oe, vs, e1, e2, e3⟩ := ha
      exact ⟨⟨oe, vs, e1, e2, e3⟩, ⟨oe, e1⟩, fun h1 h2 ⟨o, v, q1, q2, q3⟩ k => ⟨o, v, k o q1, q2, q3⟩⟩
    · rw [upd_ne hb] at e
      exact (h1 b u e).stay (fun c v _ q => q) (fun c q => by rw [upd_ne (ne_of_none q na)]; exact q) fun c xs q => by rw [upd_ne (ne_of_none q na)]; exact q
  have J := I.call (ch := []) (h' := s'.heap) (g' := s'.gens) (t' := s'.toks) (d' := s'.drawn) (H' := upd H a (ExH a C d))
    ⟨fun b o e _ hb _ => st b o (nb b o e hb), fun b o e _ hb _ => nf b hb o e, fun b o e n _ => by
      rw [upd_ne (fun z => by rw [z, gone] at e; cases e)]
      exact n, fun b o e _ => by
      by_cases hb : b ∈ frs X.stack
      · obtain ⟨sl, q⟩ := nf b hb o e
        exact ⟨_, q⟩
      · exact ⟨o, st b o (nb b o e hb)⟩, fun b xs e => by rw [upd_ne (ne_of_none e na)]; exact e, fun b o u e => by rw [upd_ne (ne_of_none e na)]; exact e, fun b ps e => ⟨#[], by rw [upd_ne (ne_of_none e na), e]; simp⟩⟩
    hok ag (fun _ z => nomatch z)
  obtain ⟨a1, a2, a3, a4, a5⟩ := s'
  have e5 : a5 = sI.os := os
  subst e5
  exact J
theorem suiteT (I : Inv X pins σ H s) (a : Addr) : Inv (X.suite a (X.pn ++ pins)) [] σ H s :=
  ⟨I.ok.suite _ _, I.os, I.bare, I.base, I.loc, I.cell, I.free, I.freeC, fun p hp => by
    rw [List.append_nil] at hp
    exact I.pin p hp, I.hok, I.len⟩
theorem unsuiteT {a : Addr} {pn' : List (Addr × Obj)} (I : Inv (X.suite a (X.pn ++ pins)) pn' σ H s) (ok : X.Ok) : Inv X pins σ H s :=
  ⟨ok, I.os, I.bare, I.base, I.loc, I.cell, I.free, I.freeC, fun p hp => I.pin p (List.mem_append_left _ hp), I.hok, I.len⟩
end
/-- what the clause wishes of an exception of the body; every one is caught -/
def wT (K : PySem.W.Frag) (c : Value) (i : Nat) (ts : TS) (D : Ends) : WX := fun cls d σ H =>
  ∃ C, cls = .ref C ∧ PySem.W.exmOne K (.ref C) c = some true ∧ ∀ a, H a = none → ts { nx := fun σ' H' => D.nx (σ'.set i none) H', rt := D.rt, bk := fun σ' H' => D.bk (σ'.set i none) H', ct := fun σ' H' => D.ct (σ'.set i none) H' } (σ.set i (some (.ref a))) (upd H a (ExH a C d))
section
variable {X : Cx} {x n : Str} {c : Value} {i : Nat} {body suite : List Stmt} {b₀ : Stmt} {np pos pos' : Pos} {tb : WX → TS} {ts : TS}
theorem ps_tryT (hs : X.stack = X.env :: X.outer) (hf : X.env.frame = some X.env.locals) (hN : X.N.Nodup) (hi : X.N[i]? = some n) (hln : X.env.kindOf n = some .local) (hc : Names X x c)
    (hb : ∀ (W : WX) (pn : List (Addr × Obj)) (xe : Value → Shared → Prop), Takes (X.tr pn xe) W → PassesOwn (model X.prog X.w) X.A X.env xe → PSs (X.tr pn xe) body (tb W))
    (hsu : ∀ (a : Addr) (pn : List (Addr × Obj)), PSs (X.suite a pn) (b₀ :: suite) ts) :
    PS X (.Try body [.ExceptHandler (some (.Name x np)) (some n) (b₀ :: suite) pos'] [] [] pos) (fun D σ H => tb (wT X.K c i ts D) D σ H) := by
  refine ⟨fun pins s σ H D I h => ?_⟩
  have ok := I.ok
  have hfr : X.A.frames = some (X.env :: X.outer) := by rw [ok.frames, hs]
  have hloc : Loc X.env.scope n := .inl hln
  refine wpAny_Try_except ?_
  refine wpAny_mono ((hb (wT X.K c i ts D) (X.pn ++ pins) (fun e s₁ => wpAny (model X.prog X.w) X.A (noteFrame e X.env) (fun _ s₂ => wpAny (model X.prog X.w) X.A (setFlight e none) (fun _ s₃ =>
    wpAny (model X.prog X.w) X.A (handleBy e X.env [.ExceptHandler (some (.Name x np)) (some n) (b₀ :: suite) pos']) (SP X pins D) X.xe s₃) X.xe s₂) X.xe s₁) (fun u s' xx => ?_) PassesOwn.looking).run [] s σ H D (I.toTry _) h) (fun f s1 hsp => ?_) (fun e s1 he => he)
  · -- the catch
    obtain ⟨a, B, sI, pins', σ', H', cls, d, rfl, J', nb, up, sky, na, os, ag, C, rfl, hb1, hyes⟩ := xx
    have J : Inv X pins σ' H' sI := J'.ofTry ok
    have sky' : Sky B (X.env :: X.outer) a (Zc (.ref C) d) X.env.locals s'.heap := by rw [← hs]; exact sky
    show wpAny (model X.prog X.w) X.A (noteFrame (.ref a) X.env) _ _ _
    refine Sky.land Zc.steady hfr hf sky' fun h3 fl3 up3 => ?_
    have J3 : Inv X pins σ' H' { s' with heap := h3 } := J.landed nb fl3.1 (up.trans up3) os ag
    obtain ⟨oe3, vs3, he3, hz3, hd3⟩ := fl3.there
    have notFr : ∀ {h : Heap} {o : Obj} {vs : Array Value}, h.FunFrames B (X.env :: X.outer) → h.get? a = some o → o.data = .fields vs → a ∉ frs (X.env :: X.outer) := fun {h o vs} ff e dd hm => by
      obtain ⟨_, o', e', hnf⟩ := ff.mem hm
      rw [e] at e'; cases e'
      exact hnf _ dd
    have nfr := notFr fl3.2.2.1 he3 hd3
    have nL : a ≠ X.env.locals := fun z => nfr (List.mem_filterMap.mpr ⟨X.env, List.mem_cons_self, by rw [hf, z]⟩)
    have nF : a ∉ X.fs := fun hm => by
      obtain ⟨e, he, q⟩ := List.mem_filterMap.mp hm
      exact nfr (List.mem_filterMap.mpr ⟨e, List.mem_cons_of_mem _ he, q⟩)
    have gone : sI.heap.get? a = none := by
      cases z : sI.heap.get? a with
      | none => rfl
      | some o =>
        have z2 := nb a o z (by rw [hs]; exact nfr)
        rw [fl3.2.1] at z2
        cases z2
    have S3 := J3.suite he3 hd3 na nL nF
    refine wpAny_handleBy_cons (codeAny_handlers_test ?_) (by intro q; cases q)
    have LT : PySem.W.Looks (model X.prog X.w) h3 (typeOf (.ref a)) (.ref C) := fun A Q E s k q => wpAny_typeOf_ref (k _ _ he3) (by rw [hz3.1]; exact q)
    have LM := PySem.W.exm_one (M := model X.prog X.w) (J3.kIn) LT hb1
    have test : ∀ {Q : Value → Shared → Prop} {E : Value → Shared → Prop}, Q c { s' with heap := h3 } → wpAny (model X.prog X.w) (X.A.mark (some (.ref a))) (eval (.Name x np) X.env) Q E { s' with heap := h3 } := fun {Q E} q => by
      obtain ⟨hg, hdbg, hm | ⟨hm, hv, hnn⟩⟩ := hc
      · exact ld_glob (X := X.suite a ((a, oe3) :: (X.pn ++ pins))) S3 hg hm q hdbg
      · exact ld_blt (X := X.suite a ((a, oe3) :: (X.pn ++ pins))) S3 hg hm hv q hnn hdbg
    refine test (LM.here ?_)
    refine codeAny_handlers_suite_as ?_
    refine HandSPX.lands_againZ fl3 fun h4 fl4 up4 => ?_
    obtain ⟨oe4, vs4, he4, hz4, hd4⟩ := fl4.there
    have J4 : Inv X pins σ' (upd H' a (ExH a C d)) { s' with heap := h4 } := landedT J nb fl4.1 ((up.trans up3).trans up4) os ag na gone ⟨oe4, vs4, he4, hz4, hd4⟩
    have S4 := suiteT J4 a
    refine store_ok (X := X.suite a (X.pn ++ pins)) (v := .ref a) S4 hN hi hloc rfl (fun s5 S5 => ?_) (.inr hln)
    refine wpAny_mono ((hsu a (X.pn ++ pins)).run [] s5 _ _ _ S5 (hyes a na)) (fun f s6 hsp => ?_) (fun _ _ z => False.elim z)
    have end_ : ∀ {σ6 : St} {H6 : Hp} {Q : Shared → Prop}, Inv (X.suite a (X.pn ++ pins)) [] σ6 H6 s6 → (∀ s7, Inv X pins (σ6.set i none) H6 s7 → Q s7) →
        wpAny (model X.prog X.w) X.A (do bindName X.env n .none; unbindBehindTheSuite X.env n pos') (fun _ s7 => Q s7) X.xe s6 := fun {σ6 H6 Q} S6 hq => gone_ok (unsuiteT S6 ok) hN hi hln hq
    cases f with
    | next =>
      obtain ⟨σ6, H6, S6, q6⟩ := hsp
      exact end_ S6 fun s7 J7 => ⟨_, _, J7, q6⟩
    | brk =>
      obtain ⟨σ6, H6, S6, q6⟩ := hsp
      exact end_ S6 fun s7 J7 => ⟨_, _, J7, q6⟩
    | cont =>
      obtain ⟨σ6, H6, S6, q6⟩ := hsp
      exact end_ S6 fun s7 J7 => ⟨_, _, J7, q6⟩
    | ret u =>
      obtain ⟨v6, σ6, H6, S6, r6, q6⟩ := hsp
      exact end_ S6 fun s7 J7 => ⟨_, _, _, J7, r6, q6⟩
  · cases f with
    | next =>
      obtain ⟨σ', H', J', q⟩ := hsp
      exact wpAny_execs_nil ⟨σ', H', J'.ofTry ok, q⟩
    | brk =>
      obtain ⟨σ', H', J', q⟩ := hsp
      exact ⟨σ', H', J'.ofTry ok, q⟩
    | cont =>
      obtain ⟨σ', H', J', q⟩ := hsp
      exact ⟨σ', H', J'.ofTry ok, q⟩
    | ret u =>
      obtain ⟨v, σ', H', J', r, q⟩ := hsp
      exact ⟨v, σ', H', J'.ofTry ok, r, q⟩
end
end Dn
end
section
set_option maxHeartbeats 4000000
namespace Dn
open PySem PySem.Spec L2
def errNames : List Str := ["NoRatio", "NoAge", "NoBeat", "NoPaper", "TooMany", "NoText", "NoLines", "NoName", "NoRow", "FreshError"]
def errFields : List Str := ["age", "beat", "word", "place", "at", "row", "name"]
def exSub (c t : Str) : Bool := t == "ValueError" || t == "FreshError" || c == t
def excOk (K : PySem.W.Frag) (C : Addr) : Bool := decide (PySem.W.findIn K (.ref C) "__getattribute__" = some (some (.builtin "BaseException.__getattribute__"))) && decide (PySem.W.findIn K (.ref C) "__getattr__" = some none) &&
  decide (PySem.W.subIn K (.ref C) (.type "BaseException") = some true) && PySem.W.hasDictIn K C && decide (PySem.W.findIn K (.ref C) "__class__" = some (some (.builtin "object.__class__"))) && decide (PySem.W.mroIn K C (.type "object") = some true) &&
  decide (PySem.W.typeIn K (.ref C) = some (.type "type")) && errFields.all fun f => decide (PySem.W.findIn K (.ref C) f = some none)
def excAll (K : PySem.W.Frag) : Bool := decide (PySem.W.specialIn K (.builtin "object.__class__") "__get__" = some (some (.builtin "getset_descriptor.__get__"))) && decide (PySem.W.takesIn K (.builtin "object.__class__") = some true) &&
  K.all fun p => match errNm K p.1 with
    | some c => !(errNames.contains c) || excOk K p.1
    | none => true
def isAll (K : PySem.W.Frag) (t : Str) (cv : Value) : Bool := K.all fun p => match errNm K p.1 with
    | some c => !(errNames.contains c) || (decide (PySem.W.kitOne K (.ref p.1) cv = some (exSub c t)) && decide (PySem.W.exmOne K (.ref p.1) cv = some (exSub c t)))
    | none => true
/-- what is asked of a class by its name -/
structure ErrT (K : PySem.W.Frag) (mg : Str → Option Value) (t : Str) (cv : Value) : Prop where
  nm : mg t = some cv ∨ (mg t = none ∧ bootBuiltins t = some cv ∧ t ≠ "__name__")
  all : isAll K t cv = true
theorem errNm_mem {K : PySem.W.Frag} {C : Addr} {c : Str} (h : errNm K C = some c) : ∃ o, (C, o) ∈ K := by
  unfold errNm at h
  cases z : K.lookup C with
  | none =>
    unfold PySem.W.clsIn at h
    rw [z] at h
    cases h
  | some o =>
    refine ⟨o, ?_⟩
    clear h
    induction K with
    | nil => cases z
    | cons p K ih =>
      obtain ⟨b, u⟩ := p
      by_cases e : C = b
      · subst e
        simp [List.lookup] at z
        subst z
        exact List.mem_cons_self
      · have e2 : (C == b) = false := by simpa using e
        simp only [List.lookup, e2] at z
        exact List.mem_cons_of_mem _ (ih z)
theorem excAll_of {K : PySem.W.Frag} {C : Addr} {c : Str} (h : excAll K = true) (e : errNm K C = some c) (hc : errNames.contains c = true) : excOk K C = true := by
  obtain ⟨o, m⟩ := errNm_mem e
  unfold excAll at h
  have h2 := List.all_eq_true.mp (Bool.and_eq_true_iff.mp h).2 _ m
  simp only [e, hc, Bool.not_true, Bool.false_or] at h2
  exact h2
theorem isAll_of {K : PySem.W.Frag} {C : Addr} {c t : Str} {cv : Value} (h : isAll K t cv = true) (e : errNm K C = some c) (hc : errNames.contains c = true) : PySem.W.kitOne K (.ref C) cv = some (exSub c t) ∧ PySem.W.exmOne K (.ref C) cv = some (exSub c t) := by
  obtain ⟨o, m⟩ := errNm_mem e
  unfold isAll at h
  have h2 := List.all_eq_true.mp h _ m
  simp only [e, hc, Bool.not_true, Bool.false_or, Bool.and_eq_true, decide_eq_true_eq] at h2
  exact h2
theorem excOk_of {K : PySem.W.Frag} {C : Addr} (h : excOk K C = true) : PySem.W.findIn K (.ref C) "__getattribute__" = some (some (.builtin "BaseException.__getattribute__")) ∧ PySem.W.findIn K (.ref C) "__getattr__" = some none ∧ PySem.W.subIn K (.ref C) (.type "BaseException") = some true ∧
    PySem.W.hasDictIn K C = true ∧ PySem.W.findIn K (.ref C) "__class__" = some (some (.builtin "object.__class__")) ∧ PySem.W.mroIn K C (.type "object") = some true ∧ ∀ f ∈ errFields, PySem.W.findIn K (.ref C) f = some none := by
  unfold excOk at h
  simp only [Bool.and_eq_true, decide_eq_true_eq, List.all_eq_true] at h
  exact ⟨h.1.1.1.1.1.1.1, h.1.1.1.1.1.1.2, h.1.1.1.1.1.2, h.1.1.1.1.2, h.1.1.1.2, h.1.1.2, h.2⟩
theorem excAll_g {K : PySem.W.Frag} (h : excAll K = true) : PySem.W.specialIn K (.builtin "object.__class__") "__get__" = some (some (.builtin "getset_descriptor.__get__")) ∧ PySem.W.takesIn K (.builtin "object.__class__") = some true := by
  unfold excAll at h
  have h1 := (Bool.and_eq_true_iff.mp h).1
  simpa only [Bool.and_eq_true, decide_eq_true_eq] using h1
theorem errNm_cls {K : PySem.W.Frag} {C : Addr} {c : Str} (h : errNm K C = some c) : (PySem.W.clsIn K C).isSome = true := by
  unfold errNm at h
  cases z : PySem.W.clsIn K C with
  | none => rw [z] at h; cases h
  | some o => rfl
section
variable {X : Cx} {pins : List (Addr × Obj)} {σ : St} {H : Hp} {s : Shared} {a C : Addr} {od : Option Addr} {xs : List (Str × V)} {c : Str}
/-- the instance as the library looks at it -/
theorem inst_at (I : Inv X pins σ H s) (ha : H a = some (ExH a C od)) (hx : XdH H od xs) : ∃ (ox : Obj) (oo : Option Obj), PySem.W.InstAt s.heap a ox C oo := by
  have h1 : ObjOk X.prog X.w H s.heap a (.ext fun h => ∃ oe vs, h.get? a = some oe ∧ Zc (.ref C) od oe ∧ oe.data = .fields vs) := I.hok a _ ha
  obtain ⟨⟨oe, vs, e1, e2, e3⟩, _, _⟩ := h1
  have hn : PySem.W.notCls oe = true := by unfold PySem.W.notCls; rw [e3] <;> rfl
  rcases hx with ⟨rfl, _⟩ | ⟨d, rfl, hd⟩
  · exact ⟨oe, none, e1, e2.1, hn, by rw [e2.2]; trivial⟩
  · have h2 : ObjOk X.prog X.w H s.heap d (.xd xs) := I.hok d _ hd
    obtain ⟨mA, hns, hr⟩ := h2
    obtain ⟨oD, ho, _⟩ := lookIn_ns hns
    exact ⟨oe, some oD, e1, e2.1, hn, by rw [e2.2]; exact ho⟩
end
/-- isinstance(e, c) -/
def rIsX (K : PySem.W.Frag) : List V → Hp → VK → Prop := fun xs H Q => ∃ (a C : Addr) (od : Option Addr) (fs : List (Str × V)) (c : Str) (cl : V) (cv : Value) (b : Bool), xs = [.ref a, cl] ∧ H a = some (ExH a C od) ∧ XdH H od fs ∧ excAll K = true ∧ errNm K C = some c ∧ errNames.contains c = true ∧
  (∀ u, RelV cl u → u = cv) ∧ PySem.W.kitOne K (.ref C) cv = some b ∧ Q (.bl b) H
theorem call_isX {X : Cx} : CallR X (.builtin "isinstance") (rIsX X.K) := by
  intro pins s σ H xs us Q I r h
  obtain ⟨a, C, od, fs, c, cl, cv, b, rfl, ha, hx, al, en, hc, hcv, e, q⟩ := h
  obtain ⟨u1, u2, rfl, r1, r2⟩ := vals2 r
  cases (show u1 = Value.ref a from r1)
  obtain rfl := hcv _ r2
  obtain ⟨h1, h2, h3, h4, h5, h6, h7⟩ := excOk_of (excAll_of al en hc)
  obtain ⟨g1, g2⟩ := excAll_g al
  obtain ⟨ox, oo, J⟩ := inst_at I ha hx
  exact PySem.W.kia_one (PySem.W.kitx_exc (errNm_cls en) h1 h2 h3 h5 g1 g2 h6) I.kIn J e (fun z => nomatch z) fun tk => ⟨.bl b, H, I.tok tk, rfl, q⟩
/-- isinstance(e, (c, d, ..)), classes of the program -/
def rIsXT (K : PySem.W.Frag) : List V → Hp → VK → Prop := fun xs H Q => ∃ (a C tp : Addr) (od : Option Addr) (fs : List (Str × V)) (c : Str) (Cs : List Addr) (b : Bool), xs = [.ref a, .ref tp] ∧ H a = some (ExH a C od) ∧ XdH H od fs ∧ excAll K = true ∧ errNm K C = some c ∧ errNames.contains c = true ∧
  H tp = some (.tup (Cs.map V.ref)) ∧ PySem.W.kitAny K (.ref C) (Cs.map Value.ref) = some b ∧ Q (.bl b) H
theorem vals_refs : ∀ {Cs : List Addr} {us : List Value}, Vals (Cs.map V.ref) us → us = Cs.map Value.ref
  | [], _, .nil => rfl
  | C :: Cs, _, .cons r rs => by
    rw [vals_refs rs, show _ = Value.ref C from r]
    rfl
theorem call_isXT {X : Cx} : CallR X (.builtin "isinstance") (rIsXT X.K) := by
  intro pins s σ H xs us Q I r h
  obtain ⟨a, C, tp, od, fs, c, Cs, b, rfl, ha, hx, al, en, hc, ht, e, q⟩ := h
  obtain ⟨u1, u2, rfl, r1, r2⟩ := vals2 r
  cases (show u1 = Value.ref a from r1)
  cases (show u2 = Value.ref tp from r2)
  obtain ⟨h1, h2, h3, h4, h5, h6, h7⟩ := excOk_of (excAll_of al en hc)
  obtain ⟨g1, g2⟩ := excAll_g al
  obtain ⟨ox, oo, J⟩ := inst_at I ha hx
  obtain ⟨_, its, rv, o, p1, p2, n, p3⟩ := (show ObjOk X.prog X.w H s.heap tp (.tup (Cs.map V.ref)) from I.hok tp _ ht)
  have e3 := vals_refs rv
  subst e3
  obtain ⟨oc, od, dt, sl⟩ := o
  simp only at p2 p3
  subst p2 p3
  exact PySem.W.kia_tup (PySem.W.kitx_exc (errNm_cls en) h1 h2 h3 h5 g1 g2 h6) I.kIn J p1 e (fun z => nomatch z) fun tk => ⟨.bl b, H, I.tok tk, rfl, q⟩
def excNm : PyData → Option Str
  | .dict ((.none, .str c) :: _) => if errNames.contains c then some c else none
  | _ => none
def oIsE (t : Str) : Op1 := fun d => (excNm d).map fun c => .dat (.bool (exSub c t))
def oIsEs (ts : List Str) : Op1 := fun d => (excNm d).map fun c => .dat (.bool (ts.any (exSub c)))
def fldGet (k : Str) : List (PyData × PyData) → Option PyData
  | (.str n, d) :: r => if k = n then some d else fldGet k r
  | _ => none
def oFld (k : Str) : Op1 := fun d => match d with
  | .dict ((.none, .str c) :: r) => if errNames.contains c ∧ errFields.contains k then (fldGet k r).map .dat else none
  | _ => none
theorem excNm_some {d : PyData} {c : Str} (h : excNm d = some c) : ∃ r, d = .dict ((.none, .str c) :: r) ∧ errNames.contains c = true := by
  unfold excNm at h
  split at h
  · rename_i c2 r
    by_cases q : errNames.contains c2 = true
    · rw [if_pos q] at h
      cases h
      exact ⟨r, rfl, q⟩
    · rw [if_neg q] at h
      cases h
  · cases h
theorem Top.exc {K : PySem.W.Frag} {g : Gh} {H HF : Hp} {v : V} {c : Str} {r : List (PyData × PyData)} (t : Top K g H HF v (.dict ((.none, .str c) :: r))) (l : Le HF H) : ∃ a C od xs ds, v = .ref a ∧ H a = some (ExH a C od) ∧ errNm K C = some c ∧ XdH H od xs ∧ DRs K HF (xs.map (·.2)) ds ∧ r = fldD xs ds := by
  rcases t with h | ⟨p, vs, ds, rfl, e, _⟩
  · cases h with
    | @dic _ xs _ h e r =>
      clear r
      cases xs with
      | nil => simp at e
      | cons x xs =>
        obtain ⟨x1 | x1, x2⟩ := x <;> simp [keyD] at e
    | exc h1 h2 h3 h4 => exact ⟨_, _, _, _, _, rfl, l _ _ h1, h2, h3.mono l, h4, rfl⟩
  · cases e
section
variable {X : Cx} {W : Wish} {fa : Ex} {e : Expr} {p p2 pos : Pos}
theorem de_isE {t : Str} {cv : Value} {cl : V} (al : excAll X.K = true) (T : ErrT X.K X.mg t cv) (hcl : (∃ C, cv = .ref C ∧ cl = .ref C) ∨ (∃ n, cv = .type n ∧ cl = .ty n)) (hg : Gl X "isinstance") (hm : X.mg "isinstance" = none) (hg2 : Gl X t) (ha : DE X W e fa) (hdb2 : (t == ("__debug__" : Str)) = false := by decide)
    (he : starEach [e, .Name t p2] X.env = (false, eval e X.env) :: starEach [.Name t p2] X.env := by rfl) (he2 : starEach [.Name t p2] X.env = (false, eval (.Name t p2) X.env) :: starEach [] X.env := by rfl)
    (hpl : (backTo pos (starEach [.Name t p2] X.env)).any (·.1) = false := by rfl) : DE X W (.Call (.Name "isinstance" p) [e, .Name t p2] [] pos) (cUn (oIsE t) fa) := by
  have hr : RelV cl cv := by
    rcases hcl with ⟨C, rfl, rfl⟩ | ⟨n, rfl, rfl⟩ <;> rfl
  have hu : ∀ u, RelV cl u → u = cv := by
    rcases hcl with ⟨C, rfl, rfl⟩ | ⟨n, rfl, rfl⟩ <;> exact fun u q => q
  have hn : PE X (.Name t p2) (tC cl) := by
    rcases T.nm with h | ⟨h1, h2, h3⟩
    · exact pe_glob hg2 h hr hdb2
    · exact pe_bltn hg2 h1 h2 hr h3 hdb2
  exact pe_mono (pe_callB call_isX hg hm (by decide +kernel) (pa_cons ha (pa_cons hn pa_nil he2) he) (by decide) (by decide) he hpl) fun σ H Q h =>
    un_read (r := fun v H Q => rIsX X.K [v, cl] H Q) (fun g H HF f v d rv a t2 z Q k => by
      unfold oIsE at z
      cases y : excNm d with
      | none => rw [y] at z; cases z
      | some c =>
        rw [y] at z
        cases z
        obtain ⟨r, rfl, hc⟩ := excNm_some y
        obtain ⟨b, C, od, xs, ds, rfl, q1, q2, q3, _, _⟩ := t2.exc a.sub
        exact ⟨b, C, od, xs, c, cl, cv, _, rfl, q1, q3, al, q2, hc, hu, (isAll_of T.all q2 hc).1, k.now a (.bl _)⟩) h
end
/-- classes of the program, by name -/
def ErrP (K : PySem.W.Frag) (mg : Str → Option Value) (t : Str) : Prop := ∃ C, mg t = some (.ref C) ∧ isAll K t (.ref C) = true
inductive ClsE (X : Cx) : List Expr → List Str → List Addr → Prop where
  | nil : ClsE X [] [] []
  | cons {t : Str} {p : Pos} {C : Addr} {es : List Expr} {ts : List Str} {Cs : List Addr} : Gl X t → X.mg t = some (.ref C) → isAll X.K t (.ref C) = true → (t == ("__debug__" : Str)) = false →
      starEach (.Name t p :: es) X.env = (false, eval (.Name t p) X.env) :: starEach es X.env → ClsE X es ts Cs → ClsE X (.Name t p :: es) (t :: ts) (C :: Cs)
def ClsN (X : Cx) (es : List Expr) (ts : List Str) : Prop := ∃ Cs, ClsE X es ts Cs
theorem cls_nil {X : Cx} : ClsN X [] [] := ⟨[], .nil⟩
theorem cls_cons {X : Cx} {t : Str} {p : Pos} {es : List Expr} {ts : List Str} (h : ErrP X.K X.mg t) (hg : Gl X t) (r : ClsN X es ts) (hdb : (t == ("__debug__" : Str)) = false := by decide)
    (he : starEach (.Name t p :: es) X.env = (false, eval (.Name t p) X.env) :: starEach es X.env := by rfl) : ClsN X (.Name t p :: es) (t :: ts) := by
  obtain ⟨C, h1, h2⟩ := h
  obtain ⟨Cs, r⟩ := r
  exact ⟨C :: Cs, .cons hg h1 h2 hdb he r⟩
theorem ClsE.pa {X : Cx} : ∀ {es : List Expr} {ts : List Str} {Cs : List Addr}, ClsE X es ts Cs → PA X es fun _ H Q => Q (Cs.map V.ref) H
  | _, _, _, .nil => pa_nil
  | _, _, _, .cons hg hm _ hdb he r => pa_cons (pe_glob (v := .ref _) hg hm rfl hdb) r.pa he
theorem ClsE.any {X : Cx} {C : Addr} {c : Str} (en : errNm X.K C = some c) (hc : errNames.contains c = true) : ∀ {es : List Expr} {ts : List Str} {Cs : List Addr}, ClsE X es ts Cs → PySem.W.kitAny X.K (.ref C) (Cs.map Value.ref) = some (ts.any (exSub c))
  | _, _, _, .nil => rfl
  | _, _, _, .cons (t := t) (ts := ts) hg hm al _ _ r => by
    have ih := r.any en hc
    have k := (isAll_of al en hc).1
    show PySem.W.kitAny X.K (.ref C) (Value.ref _ :: _) = some (exSub c t || ts.any (exSub c))
    unfold PySem.W.kitAny
    rw [k]
    cases exSub c t with
    | true => rfl
    | false => exact ih
section
variable {X : Cx} {W : Wish} {fa : Ex} {e : Expr} {p p2 p3 pos : Pos} {es : List Expr} {ts : List Str}
theorem de_isEs {k : Nat} (al : excAll X.K = true) (T : ClsN X es ts) (hz : es.length ≤ 1000) (hg : Gl X "isinstance") (hm : X.mg "isinstance" = none) (ha : DE X W e fa)
    (ht : ∀ {ta : TA}, PA X es ta → PE X (.Tuple es k p2) (tTup ta))
    (he : starEach [e, .Tuple es k p2] X.env = (false, eval e X.env) :: starEach [.Tuple es k p2] X.env := by rfl) (he2 : starEach [.Tuple es k p2] X.env = (false, eval (.Tuple es k p2) X.env) :: starEach [] X.env := by rfl)
    (hpl : (backTo pos (starEach [.Tuple es k p2] X.env)).any (·.1) = false := by rfl) : DE X W (.Call (.Name "isinstance" p) [e, .Tuple es k p2] [] pos) (cUn (oIsEs ts) fa) := by
  obtain ⟨Cs, T⟩ := T
  have hlen : (Cs.map V.ref).length ≤ sizeLine := by
    have hl : ∀ {es : List Expr} {ts : List Str} {Cs : List Addr}, ClsE X es ts Cs → Cs.length = es.length := fun {es ts Cs} h => by
      induction h with
      | nil => rfl
      | cons _ _ _ _ _ _ ih => simp [ih]
    rw [List.length_map, hl T]
    exact Nat.le_trans hz (by decide)
  refine pe_mono (pe_callB call_isXT hg hm (by decide +kernel) (pa_cons ha (pa_cons (ht T.pa) pa_nil he2) he) (by decide) (by decide) he hpl) fun σ H Q ⟨g, HF, ρ, f, rel, q⟩ => ?_
  refine tD_pk rel q fun d f1 v G GF r1 s1 t1 q1 => ?_
  unfold oIsEs give at q1
  cases y : excNm d with
  | none =>
    rw [y] at q1
    exact (show False from q1).elim
  | some c =>
    rw [y] at q1
    obtain ⟨r, rfl, hc⟩ := excNm_some y
    obtain ⟨b, C, od, xs, ds, rfl, h1, h2, h3, _, _⟩ := t1.exc r1.sub
    refine ⟨hlen, fun tp ntp => ?_⟩
    obtain ⟨s2, f2⟩ := lay_new (o := .tup (Cs.map V.ref)) r1.sub r1.feed ntp
    refine ⟨b, C, tp, od, xs, c, Cs, _, rfl, by rw [upd_ne (ne_of_none h1 ntp)]; exact h1, ?_, al, h2, hc, upd_same, T.any h2 hc, ?_⟩
    · rcases h3 with ⟨e1, e2⟩ | ⟨dd, e1, e2⟩
      · exact .inl ⟨e1, e2⟩
      · exact .inr ⟨dd, e1, by rw [upd_ne (ne_of_none e2 ntp)]; exact e2⟩
    · exact (show Fin X.K g σ H HF Q (.dat (.bool _)) f1 from q1) _ _ _ (s1.trans r1.feed s2) f2 (.bl _)
/-- e.f -/
theorem de_fld {n : Str} (al : excAll X.K = true) (ha : DE X W e fa) (hb : attributeBase e n X.env (eval e X.env) = eval e X.env := by rfl) : DE X W (.Attribute e n pos) (cUn (oFld n) fa) := by
  refine ⟨fun pins s σ H Q I ⟨g, HF, ρ, f, rel, q⟩ => ?_⟩
  have hh : tD X.K X.mg W fa σ H fun v G => ∃ (a C : Addr) (od : Option Addr) (xs : List (Str × V)) (c : Str) (w : V), v = .ref a ∧ G a = some (ExH a C od) ∧ errNm X.K C = some c ∧ errNames.contains c = true ∧ errFields.contains n = true ∧ XdH G od xs ∧ xs.lookup n = some w ∧ Q w G := by
    refine tD_pk rel q fun d f1 v G GF r1 s1 t1 q1 => ?_
    cases y : oFld n d with
    | none =>
      rw [y] at q1
      exact (show False from q1).elim
    | some rv =>
      rw [y] at q1
      unfold oFld at y
      split at y
      · rename_i c r
        by_cases c1 : errNames.contains c = true ∧ errFields.contains n = true
        · rw [if_pos c1] at y
          obtain ⟨b, C, od, xs, ds, rfl, h1, h2, h3, h4, rfl⟩ := t1.exc r1.sub
          cases yy : fldGet n (fldD xs ds) with
          | none => rw [yy] at y; cases y
          | some d2 =>
            rw [yy] at y
            cases y
            have look : ∀ {xs : List (Str × V)} {ds : List PyData}, DRs X.K GF (xs.map (·.2)) ds → fldGet n (fldD xs ds) = some d2 → ∃ w, xs.lookup n = some w ∧ DR X.K GF w d2 := by
              intro xs
              induction xs with
              | nil =>
                intro ds _ e
                cases e
              | cons x xs ih =>
                intro ds hd e
                obtain ⟨k, u⟩ := x
                cases hd with
                | @cons _ _ d3 ds3 hd1 hd2 =>
                  have e2 : (if n = k then some d3 else fldGet n (fldD xs ds3)) = some d2 := e
                  by_cases z : n = k
                  · rw [if_pos z] at e2
                    cases e2
                    exact ⟨u, by subst z; simp [List.lookup], hd1⟩
                  · rw [if_neg z] at e2
                    obtain ⟨w, w1, w2⟩ := ih hd2 e2
                    have z2 : (n == k) = false := by simpa using z
                    exact ⟨w, by simp only [List.lookup, z2]; exact w1, w2⟩
            obtain ⟨w, w1, w2⟩ := look h4 yy
            exact ⟨b, C, od, xs, c, w, rfl, h1, h2, c1.1, c1.2, h3, w1, (show Fin X.K g σ H HF Q (.dat d2) f1 from q1) w G GF s1 r1.feed w2⟩
        · rw [if_neg c1] at y
          cases y
      · cases y
  refine attr_of hb (thn (ha.run pins s σ H _ I hh) fun u s1 hq => ?_)
  obtain ⟨x, H1, I1, rx, a, C, od, xs, c, w, rfl, h1, h2, hc, hf, h3, hw, q2⟩ := hq
  obtain rfl : u = Value.ref a := rx
  obtain ⟨k1, k2, k3, k4, k5, k6, k7⟩ := excOk_of (excAll_of al h2 hc)
  have h0 : ObjOk X.prog X.w H1 s1.heap a (.ext fun h => ∃ oe vs, h.get? a = some oe ∧ Zc (.ref C) od oe ∧ oe.data = .fields vs) := I1.hok a _ h1
  obtain ⟨⟨oe, vs, e1, e2, e3⟩, _, _⟩ := h0
  have hn : PySem.W.notCls oe = true := by unfold PySem.W.notCls; rw [e3] <;> rfl
  rcases h3 with ⟨_, rfl⟩ | ⟨d, rfl, hd⟩
  · cases hw
  · have h2' : ObjOk X.prog X.w H1 s1.heap d (.xd xs) := I1.hok d _ hd
    obtain ⟨mA, hns, hr⟩ := h2'
    obtain ⟨oD, ho, hl⟩ := lookIn_ns hns
    obtain ⟨u2, hu, ru⟩ := RelO.some_of (v := w) (o := mA n) (by rw [← hw]; exact hr n)
    have J : PySem.W.InstAt s1.heap a oe C (some oD) := ⟨e1, e2.1, hn, by rw [e2.2]; exact ho⟩
    exact HandSPX.exc_get I1.kIn J k1 k2 k3 (PySem.W.findObj_own k4 (k7 n (by simpa using hf)) rfl (by rw [hl, hu])) (handed_of ru) ⟨w, H1, I1.tok _, ru, q2⟩
end
theorem Rel.drop {K : PySem.W.Frag} {g : Gh} {σ : St} {H HF : Hp} {ρ : Rho} {f : Feed} (r : Rel K g σ H HF ρ f) (j : Nat) : Rel K g (σ.set j none) H HF (ρ.set j .emp) f := r.wiped [j]
section
variable {X : Cx} {E : XK} {n y t : Str} {e : Expr} {pn2 pos pos' pos2 np : Pos} {b₀ : Stmt} {suite : List Stmt} {x : Ex} {i j : Nat} {su : Sm} {cv : Value} {names : List Str}
theorem caught_read {g : Gh} {σ : St} {G GF : Hp} {ρ : Rho} {f1 : Feed} {D : Ends} {C : Addr} {c : Str} {od : Option Addr} {vs : List (Str × PyData)} (T : ErrT X.K X.mg t cv) (hh : ∀ c ∈ names, (∃ C, X.mg c = some (.ref C) ∧ errNm X.K C = some c) ∧ errNames.contains c = true ∧ exSub c t = true)
    (r1 : Rel X.K g σ G GF ρ f1) (hm : X.mg c = some (.ref C)) (xd : Xd X.K G GF od vs) (q : XF X.K X.mg g E (caught j names su c vs ρ f1) (FinS X.K g D)) :
    wT X.K cv j (tDS X.K X.mg (fun _ _ _ => False) su) D (.ref C) od σ G := by
  unfold caught at q
  by_cases c1 : names.contains c = true
  · rw [if_pos c1] at q
    obtain ⟨⟨C2, m2, en⟩, hc, ex⟩ := hh c (by simpa using c1)
    obtain rfl : C2 = C := by
      rw [m2] at hm
      cases hm
      rfl
    refine ⟨C2, rfl, by rw [(isAll_of T.all en hc).2, ex], fun a na => ?_⟩
    obtain ⟨s2, h2⟩ := lay_new (o := ExH a C2 od) r1.sub r1.feed na
    obtain ⟨xs, x1, x2, x3⟩ := xd
    have dr : DR X.K (upd GF a (ExH a C2 od)) (.ref a) (excD c vs) := by
      have := DR.exc (a := a) (C := C2) (od := od) (c := c) (xs := xs) upd_same en (x1.mono s2.le) (x3.mono s2.le)
      rw [fld_map x2] at this
      exact this
    refine ⟨g, _, ρ.set j (.dat (excD c vs)), f1, (r1.step s2 h2).putD dr, ?_⟩
    cases z : su (ρ.set j (.dat (excD c vs))) f1 with
    | no =>
      rw [z] at q
      exact q
    | ex _ _ _ =>
      rw [z] at q
      exact (show False from q).elim
    | ok k f2 =>
      rw [z] at q
      cases k with
      | nx ρ2 => exact fun σ2 G2 GF2 r2 => (show FinS X.K g D (.nx (ρ2.set j .emp)) f2 from q) _ G2 GF2 (r2.drop j)
      | bk ρ2 => exact fun σ2 G2 GF2 r2 => (show FinS X.K g D (.bk (ρ2.set j .emp)) f2 from q) _ G2 GF2 (r2.drop j)
      | ct ρ2 => exact fun σ2 G2 GF2 r2 => (show FinS X.K g D (.ct (ρ2.set j .emp)) f2 from q) _ G2 GF2 (r2.drop j)
      | rt v => exact q
  · rw [if_neg c1] at q
    exact (show False from q).elim
theorem ds_tryS (hs : X.stack = X.env :: X.outer) (hf : X.env.frame = some X.env.locals) (hN : X.N.Nodup) (hi : X.N[i]? = some n) (hx : Loc X.env.scope n) (hj : X.N[j]? = some y) (hy : X.env.kindOf y = some .local) (hg : Gl X t) (T : ErrT X.K X.mg t cv)
    (hh : ∀ c ∈ names, (∃ C, X.mg c = some (.ref C) ∧ errNm X.K C = some c) ∧ errNames.contains c = true ∧ exSub c t = true)
    (he : ∀ (W : WX) (pn : List (Addr × Obj)) (xe : Value → Shared → Prop), Takes (X.tr pn xe) W → PassesOwn (model X.prog X.w) X.A X.env xe → DE (X.tr pn xe) (fun σ cls d H => W cls d σ H) e x)
    (hsu : ∀ (a : Addr) (pn : List (Addr × Obj)), DSs (X.suite a pn) (fun _ _ _ => False) (b₀ :: suite) su) (hdb : (t == ("__debug__" : Str)) = false := by decide)
    (hsw : swapsWith e (some (.Name n pn2)) pos2.line X.env = pure false := by rfl)
    (hl : X.fn n = true ∨ X.env.scope.names.lookup n = some .local := by first | exact .inl rfl | exact .inr rfl | assumption) :
    DS X E (.Try [.Assign [.Name n pn2] e pos2] [.ExceptHandler (some (.Name t np)) (some y) (b₀ :: suite) pos'] [] [] pos) (sTryS i j x names su) := by
  refine ps_mono (ps_tryT (tb := fun W => tAsg (tD X.K X.mg (fun σ cls d H => W cls d σ H) x) (gName i)) (ts := tDS X.K X.mg (fun _ _ _ => False) su) hs hf hN hj hy ⟨hg, hdb, T.nm⟩
    (fun W pn xe tk po => pss_one (ps_set (X := X.tr pn xe) hN hi hx (he W pn xe tk po) hsw hl)) hsu) fun D σ H q => ?_
  obtain ⟨g, HF, ρ, f, rel, q⟩ := q
  refine ⟨g, HF, ρ, f, rel, ?_⟩
  unfold sTryS at q
  cases z : x ρ f with
  | no =>
    rw [z] at q
    exact q
  | ok rv f1 =>
    rw [z] at q
    intro v G GF s1 h1 rr
    cases z2 : slotOf rv with
    | none =>
      simp only [z2] at q
      exact (show False from q).elim
    | some s =>
      simp only [z2] at q
      exact (show FinS X.K g D (.nx (ρ.set i s)) f1 from q) _ G GF (rel.put s1 (rel.step s1 h1) rr z2)
  | ex c vs f1 =>
    rw [z] at q
    exact fun C od G GF hm s1 h1 xd => caught_read T hh (rel.step s1 h1) hm xd q
end
theorem errT_p {K : PySem.W.Frag} {mg : Str → Option Value} {t : Str} (h : ErrP K mg t) : ∃ C, ErrT K mg t (.ref C) := by
  obtain ⟨C, h1, h2⟩ := h
  exact ⟨C, .inl h1, h2⟩
end Dn
namespace Dn
open PySem PySem.Spec L2
/-- the class above all refusals -/
structure ErrB (K : PySem.W.Frag) (mg : Str → Option Value) : Prop where
  ex : ∃ B, mg "FreshError" = some (.ref B) ∧ PySem.W.specialIn K (.ref B) "__getattribute__" = some (some (.builtin "type.__getattribute__")) ∧ PySem.W.readsIn K B (.type "type") = true ∧
    PySem.W.findCls K (.ref B) (.type "type") "__init__" = some (.val (.builtin "ValueError.__init__"))
/-- a class of refusals and its __init__, as they stand behind the top -/
structure ErrS (K : PySem.W.Frag) (mg : Str → Option Value) (x : Str) (fs : List Str) (q : Str) (st : Stmt) : Prop where
  ex : ∃ C fI fd, mg x = some (.ref C) ∧ OexC K C ∧ (∀ f ∈ fs, PySem.W.findIn K (.ref C) f = some none) ∧ PySem.W.findIn K (.ref C) "__init__" = some (some (.ref fI)) ∧ PySem.W.typeIn K (.ref fI) = some (.type "function") ∧
    Fun K "__init__" q st fI fd ∧ Binds K fd (("self" : Str) :: fs) [] ∧ errNm K C = some x
theorem errB_mk {K : PySem.W.Frag} {h : Heap} {mg : Str → Option Value} {B : Addr} (X : K.In h) (G : h.Ns mainGlobals mg) (a : PySem.W.nsIn K mainGlobals "FreshError" = some (some (.ref B))) (s : PySem.W.specialIn K (.ref B) "__getattribute__" = some (some (.builtin "type.__getattribute__")))
    (r : PySem.W.readsIn K B (.type "type") = true) (f : PySem.W.findCls K (.ref B) (.type "type") "__init__" = some (.val (.builtin "ValueError.__init__"))) : ErrB K mg := ⟨⟨B, PySem.W.mg_of X G a, s, r, f⟩⟩
theorem errS_mk {K : PySem.W.Frag} {h : Heap} {mg : Str → Option Value} {x q0 q : Str} {fs : List Str} {st : Stmt} {C B f1 : Addr} {N bs sn sub ab col dd k0 k1 k2 k3 k5} {oc kV dc pm cd ct : Value} {od an : Option Addr} {sl : Array (Option Value)} (X : K.In h) (G : h.Ns mainGlobals mg)
    (a : PySem.W.nsIn K mainGlobals x = some (some (.ref C)))
    (l : K.lookup C = some (excClassObj x q0 C N bs [.ref B, .type "ValueError", .type "Exception", .type "BaseException", .type "object"] true sn sub ab col dd k0 k1 k2 k3 k5 "ValueError.__new__"))
    (s : PySem.W.findIn K (.ref C) "__setattr__" = some (some (.builtin "object.__setattr__"))) (e : PySem.W.subIn K (.ref C) (.type "BaseException") = some true) (t : PySem.W.typeIn K (.ref C) = some (.type "type")) (k : PySem.W.keepIn K (.ref C) = true)
    (n : (fs.all fun f => decide (PySem.W.findIn K (.ref C) f = some none)) = true) (i : PySem.W.findIn K (.ref C) "__init__" = some (some (.ref f1))) (j : PySem.W.typeIn K (.ref f1) = some (.type "function"))
    (m : K.lookup f1 = some ⟨oc, od, .func (PySem.W.fnOf "__init__" q (defArgs st) (defBody st) (defScope st) .none kV dc pm an cd ct), sl⟩) (c : PySem.W.codeIn K cd q = true) (y : PySem.W.keepIn K (.ref f1) = true)
    (hb : ∀ (kV doc pm : Value) (an : Option Addr) (cdv ct : Value) (us : List Value), us.length = (("self" : Str) :: fs).length → bindArgs (PySem.W.fnOf "__init__" q (defArgs st) (defBody st) (defScope st) .none kV doc pm an cdv ct) ⟨us, []⟩ = pure ((("self" : Str) :: fs).zip us)) : ErrS K mg x fs q st := by
  refine ⟨⟨C, f1, _, PySem.W.mg_of X G a, ⟨⟨_, _, _, _, _, _, _, _, _, _, _, _, _, _, _, l, by unfold PySem.HandSPX.refsVE; decide +kernel⟩, s, e, t, k⟩, fun f hf => of_decide_eq_true (List.all_eq_true.mp n f hf), i, j, fun_mk m c y, (fun_mk m c y).binds hb, ?_⟩⟩
  unfold errNm PySem.W.clsIn
  rw [l]
  rfl
theorem errP_mk {K : PySem.W.Frag} {h : Heap} {mg : Str → Option Value} {x : Str} {C : Addr} (X : K.In h) (G : h.Ns mainGlobals mg) (a : PySem.W.nsIn K mainGlobals x = some (some (.ref C))) (b : isAll K x (.ref C) = true) : ErrP K mg x := ⟨C, PySem.W.mg_of X G a, b⟩
section
variable {P : Program} {w : World} {K : PySem.W.Frag} {mg : Str → Option Value} {base : Heap} {x q : Str} {st : Stmt}
theorem errI_mk {fs : List Str} {tt : TS} (B : ErrB K mg) (S : ErrS K mg x fs q st) (sc : FnScope (("self" : Str) :: fs) (("self" : Str) :: fs) (defScope st))
    (pure_ : ∀ {C : Addr} {vs : List V} {H : Hp} {Q : VK} {E : XK}, spIni K C fs vs H Q E → tt { nx := fun _ G => Q .non G, rt := Q } (L2.start (("self" : Str) :: fs) vs) H)
    (body : ∀ {B : Addr} (_ : mg "FreshError" = some (.ref B)) (_ : PySem.W.specialIn K (.ref B) "__getattribute__" = some (some (.builtin "type.__getattribute__"))) (_ : PySem.W.readsIn K B (.type "type") = true)
      (_ : PySem.W.findCls K (.ref B) (.type "type") "__init__" = some (.val (.builtin "ValueError.__init__"))) (f : Addr) (cdv : Value) (A : Around) (outer : List Env) (s : Shared) (H : Hp) (E : XK),
      PSs (cxOf CX0 P w K mg base (("self" : Str) :: fs) q (defScope st) f cdv A outer s H E).nox (defBody st) tt) : ErrI P w K mg base x fs := by
  obtain ⟨C, fI, fd, h1, h2, h3, h4, h5, F, hb, _⟩ := S.ex
  obtain ⟨B, b1, b2, b3, b4⟩ := B.ex
  exact ⟨C, fI, fd, h1, h2, h3, h4, h5, F.ok (k := 0) sc (fun vs H Q E h => by
    obtain ⟨a, ws, rfl, hl, _⟩ := h
    simp [hl]) fun cdv A outer s H vs Q E hr h => ⟨tt, body b1 b2 b3 b4 fI cdv A outer s H E, pure_ h⟩, hb⟩
end
theorem ErrS.nm {K : PySem.W.Frag} {mg : Str → Option Value} {x q : Str} {fs : List Str} {st : Stmt} (S : ErrS K mg x fs q st) : ∃ C, mg x = some (.ref C) ∧ errNm K C = some x := by
  obtain ⟨C, _, _, h, _, _, _, _, _, _, e⟩ := S.ex
  exact ⟨C, h, e⟩
/-- what try wants of the names that it catches -/
theorem names_nil {K : PySem.W.Frag} {mg : Str → Option Value} {t : Str} : ∀ c ∈ ([] : List Str), (∃ C, mg c = some (.ref C) ∧ errNm K C = some c) ∧ errNames.contains c = true ∧ exSub c t = true := fun c h => nomatch h
theorem names_cons {K : PySem.W.Frag} {mg : Str → Option Value} {t x : Str} {l : List Str} (h : ∃ C, mg x = some (.ref C) ∧ errNm K C = some x) (r : ∀ c ∈ l, (∃ C, mg c = some (.ref C) ∧ errNm K C = some c) ∧ errNames.contains c = true ∧ exSub c t = true)
    (h1 : errNames.contains x = true := by decide) (h2 : exSub x t = true := by decide) : ∀ c ∈ x :: l, (∃ C, mg c = some (.ref C) ∧ errNm K C = some c) ∧ errNames.contains c = true ∧ exSub c t = true := fun c hc => by
  rcases List.mem_cons.mp hc with rfl | hc
  · exact ⟨h, h1, h2⟩
  · exact r c hc
end Dn
end
namespace Dn
open PySem PySem.Spec L2
section
variable {α β : Type}
theorem nr {γ : Sort _} {a b : γ} (h : a = b) : a = b := h
theorem nri {a b : Prop} (h : a ↔ b) : a ↔ b := h
/-- it comes to something of this kind -/
def Ev (r : R α) (P : α → Feed → Prop) : Prop := ∃ a f, r = .ok a f ∧ P a f
theorem Ev.mono {r : R α} {P Q : α → Feed → Prop} (h : Ev r P) (m : ∀ a f, P a f → Q a f) : Ev r Q := by
  obtain ⟨a, f, e, p⟩ := h
  exact ⟨a, f, e, m a f p⟩
@[simp] theorem ev_ok {a : α} {f : Feed} {P : α → Feed → Prop} : Ev (.ok a f) P ↔ P a f := by
  constructor
  · rintro ⟨b, g, e, p⟩
    cases e
    exact p
  · exact fun p => ⟨a, f, rfl, p⟩
@[simp] theorem ev_no {P : α → Feed → Prop} : Ev (.no) P ↔ False := by
  constructor
  · rintro ⟨b, g, e, p⟩
    cases e
  · exact False.elim
@[simp] theorem ev_bind {r : R α} {k : α → Feed → R β} {P : β → Feed → Prop} : Ev (r.bind k) P ↔ Ev r fun a f => Ev (k a f) P := by
  cases r with
  | no => exact ⟨fun ⟨_, _, e, _⟩ => (by cases e), fun ⟨_, _, e, _⟩ => (by cases e)⟩
  | ex c v f => exact ⟨fun ⟨_, _, e, _⟩ => (by cases e), fun ⟨_, _, e, _⟩ => (by cases e)⟩
  | ok a f => exact ⟨fun h => ev_ok.mpr h, fun h => ev_ok.mp h⟩
@[simp] theorem bind_ok {a : α} {f : Feed} {k : α → Feed → R β} : (R.ok a f).bind k = k a f := nr rfl
@[simp] theorem pk_ok_dat {d : PyData} {f : Feed} {k : PyData → Feed → R β} : pk (.ok (.dat d) f) k = k d f := nr rfl
@[simp] theorem pk_ok_own {d : List PyData} {f : Feed} {k : PyData → Feed → R β} : pk (.ok (.own d) f) k = k (.list d) f := nr rfl
@[simp] theorem pk_ok_lent {i : Nat} {d : List PyData} {f : Feed} {k : PyData → Feed → R β} : pk (.ok (.lent i d) f) k = k (.list d) f := nr rfl
@[simp] theorem dt_ok_dat {d : PyData} {f : Feed} {k : PyData → Feed → R β} : dt (.ok (.dat d) f) k = k d f := nr rfl
@[simp] theorem dt_ok_own {d : List PyData} {f : Feed} {k : PyData → Feed → R β} : dt (.ok (.own d) f) k = k (.list d) f := nr rfl
section
variable {γ : Type} {r : R RV} {k : PyData → Feed → R RV} {k2 : PyData → Feed → R γ} {q : α → Feed → R RV} {k3 : RV → Feed → R γ} {ra : R α}
@[simp] theorem pk_pk : pk (pk r k) k2 = pk r fun d f => pk (k d f) k2 := by
  unfold pk
  cases r with
  | no => rfl
  | ex c v f => rfl
  | ok a f =>
    simp only [R.bind]
    cases a.peek <;> rfl
@[simp] theorem pk_dt : pk (dt r k) k2 = dt r fun d f => pk (k d f) k2 := by
  unfold pk dt
  cases r with
  | no => rfl
  | ex c v f => rfl
  | ok a f =>
    simp only [R.bind]
    cases a.data <;> rfl
@[simp] theorem dt_pk : dt (pk r k) k2 = pk r fun d f => dt (k d f) k2 := by
  unfold pk dt
  cases r with
  | no => rfl
  | ex c v f => rfl
  | ok a f =>
    simp only [R.bind]
    cases a.peek <;> rfl
@[simp] theorem dt_dt : dt (dt r k) k2 = dt r fun d f => dt (k d f) k2 := by
  unfold dt
  cases r with
  | no => rfl
  | ex c v f => rfl
  | ok a f =>
    simp only [R.bind]
    cases a.data <;> rfl
@[simp] theorem pk_bind2 : pk (ra.bind q) k2 = ra.bind fun a f => pk (q a f) k2 := by
  cases ra <;> rfl
@[simp] theorem dt_bind2 : dt (ra.bind q) k2 = ra.bind fun a f => dt (q a f) k2 := by
  cases ra <;> rfl
@[simp] theorem bind_bind2 {k4 : β → Feed → R γ} {q4 : α → Feed → R β} : (ra.bind q4).bind k4 = ra.bind fun a f => (q4 a f).bind k4 := by
  cases ra <;> rfl
@[simp] theorem bind_pk {k4 : β → Feed → R γ} {k5 : PyData → Feed → R β} : (pk r k5).bind k4 = pk r fun d f => (k5 d f).bind k4 := by
  unfold pk
  cases r with
  | no => rfl
  | ex c v f => rfl
  | ok a f =>
    simp only [R.bind]
    cases a.peek <;> rfl
@[simp] theorem bind_dt {k4 : β → Feed → R γ} {k5 : PyData → Feed → R β} : (dt r k5).bind k4 = dt r fun d f => (k5 d f).bind k4 := by
  unfold dt
  cases r with
  | no => rfl
  | ex c v f => rfl
  | ok a f =>
    simp only [R.bind]
    cases a.data <;> rfl
end
theorem ev_dt {r : R RV} {k : PyData → Feed → R β} {P : β → Feed → Prop} : Ev (dt r k) P ↔ Ev r fun rv f => Ev (dt (.ok rv f) k) P := by
  cases r with
  | no => exact ⟨fun ⟨_, _, e, _⟩ => (by cases e), fun ⟨_, _, e, _⟩ => (by cases e)⟩
  | ex c v f => exact ⟨fun ⟨_, _, e, _⟩ => (by cases e), fun ⟨_, _, e, _⟩ => (by cases e)⟩
  | ok a f => exact ⟨fun h => ev_ok.mpr h, fun h => ev_ok.mp h⟩
@[simp] theorem noEx_ok2 {a : α} {f : Feed} : noEx (.ok a f) = .ok a f := nr rfl
end
section
variable {ρ : Rho} {f : Feed} {d : PyData} {ds : List PyData} {i : Nat} {a b c : Ex} {β : Type}
@[simp] theorem give_some {rv : RV} : give (some rv) f = .ok rv f := nr rfl
@[simp] theorem give_none : give none f = .no := nr rfl
@[simp] theorem give_ite {p : Prop} [Decidable p] {x y : Option RV} : give (if p then x else y) f = if p then give x f else give y f := by
  split <;> rfl
variable {x y : Int} {s t : Str} {p q : Bool} {xs ys : List PyData}
@[simp] theorem oAdd_int : oAdd (.int x) (.int y) = some (.dat (.int (x + y))) := nr rfl
@[simp] theorem oAdd_list : oAdd (.list xs) (.list ys) = if xs.length + ys.length ≤ 100000 then some (.own (xs ++ ys)) else none := by
  unfold oAdd catL
  simp [intsOp]
  split <;> rfl
@[simp] theorem oAdd_tuple : oAdd (.tuple xs) (.tuple ys) = if xs.length + ys.length ≤ 100000 then some (.dat (.tuple (xs ++ ys))) else none := by
  unfold oAdd catT
  simp [intsOp, catL]
  split <;> rfl
@[simp] theorem oAdd_str : oAdd (.str s) (.str t) = if s.length + t.length ≤ 100000 then some (.dat (.str (s ++ t))) else none := by
  unfold oAdd catS
  simp [intsOp, catL, catT]
@[simp] theorem oSub_int : oSub (.int x) (.int y) = some (.dat (.int (x - y))) := nr rfl
theorem oMul_int (h : mulC x y = true) : oMul (.int x) (.int y) = some (.dat (.int (x * y))) := by
  unfold oMul intsOp
  simp [h]
@[simp] theorem oMul_list : oMul (.list xs) (.int x) = if -1000 ≤ x ∧ x ≤ 1000 ∧ xs.length ≤ 1000 then some (.own (List.replicate x.toNat xs).flatten) else none := by
  unfold oMul repL
  simp [intsOp, repT]
@[simp] theorem oMul_tuple : oMul (.tuple xs) (.int x) = if -1000 ≤ x ∧ x ≤ 1000 ∧ xs.length ≤ 1000 then some (.dat (.tuple (List.replicate x.toNat xs).flatten)) else none := by
  unfold oMul repT
  simp [intsOp, repL]
theorem oDiv_int (h : 0 < y) (h2 : y.natAbs.log2 < 9000) : oDiv (.int x) (.int y) = some (.dat (.int (x / y))) := by
  unfold oDiv intsOp divC
  simp [h, h2]
theorem oMod_int (h : 0 < y) : oMod (.int x) (.int y) = some (.dat (.int (x % y))) := by
  unfold oMod intsOp modC
  simp [h]
theorem oPow_int (h : 0 ≤ y) (h2 : y ≤ 1000000) (h3 : x.natAbs < 2 ^ 64) : oPow (.int x) (.int y) = some (.dat (.int (x ^ y.toNat))) := by
  unfold oPow intsOp powC
  simp only [h, h2, h3, decide_true, Bool.and_self, if_true]
theorem oShl_int (h : 0 ≤ y) (h2 : y ≤ 1000000) (h3 : x.natAbs < 2 ^ 64) : oShl (.int x) (.int y) = some (.dat (.int (x * 2 ^ y.toNat))) := by
  unfold oShl intsOp powC
  simp only [h, h2, h3, decide_true, Bool.and_self, if_true]
@[simp] theorem oLt_int : oLt (.int x) (.int y) = some (.dat (.bool (decide (x < y)))) := nr rfl
@[simp] theorem oLe_int : oLe (.int x) (.int y) = some (.dat (.bool (decide (x ≤ y)))) := nr rfl
@[simp] theorem oGt_int : oGt (.int x) (.int y) = some (.dat (.bool (decide (y < x)))) := nr rfl
@[simp] theorem oGe_int : oGe (.int x) (.int y) = some (.dat (.bool (decide (y ≤ x)))) := nr rfl
@[simp] theorem oLeA_int : oLeA (.int x) (.int y) = some (.dat (.bool (decide (x ≤ y)))) := nr rfl
@[simp] theorem oEq_str : oEq (.str s) (.str t) = some (.dat (.bool (decide (s = t)))) := rfl
@[simp] theorem oNe_str : oNe (.str s) (.str t) = some (.dat (.bool (!decide (s = t)))) := rfl
theorem eqv_str : PyData.eqv (.str s) (.str t) = decide (s = t) := by
  simp only [PyData.eqv]
  by_cases h : s = t
  · subst h
    simp
  · simp [h]
theorem oEq_of {d e : PyData} (h : SeqAt.shaped d = true) (h2 : SeqAt.shaped e = true) : oEq d e = some (.dat (.bool (PyData.eqv d e))) := by
  have q : eqD d e = some (.dat (.bool (PyData.eqv d e))) := by
    unfold eqD
    simp [h, h2]
  unfold oEq
  rw [q]
  cases d <;> cases e <;> first | rfl | (rw [eqv_str]; rfl)
theorem oNe_of {d e : PyData} (h : SeqAt.shaped d = true) (h2 : SeqAt.shaped e = true) : oNe d e = some (.dat (.bool (!PyData.eqv d e))) := by
  have q : neD d e = some (.dat (.bool (!PyData.eqv d e))) := by
    unfold neD
    simp [h, h2]
  unfold oNe
  rw [q]
  cases d <;> cases e <;> first | rfl | (rw [eqv_str]; rfl)
@[simp] theorem oEq_int : oEq (.int x) (.int y) = some (.dat (.bool (decide (x = y)))) := by
  rw [oEq_of rfl rfl]
  rfl
@[simp] theorem oNe_int : oNe (.int x) (.int y) = some (.dat (.bool (!decide (x = y)))) := by
  rw [oNe_of rfl rfl]
  rfl
@[simp] theorem oNeg_int : oNeg (.int x) = some (.dat (.int (-x))) := nr rfl
@[simp] theorem oAbs_int : oAbs (.int x) = some (.dat (.int x.natAbs)) := by
  show some (RV.dat (.int (if x < 0 then -x else x))) = _
  have e : (if x < 0 then -x else x) = (x.natAbs : Int) := by split <;> omega
  rw [e]
@[simp] theorem oInt_int : oInt (.int x) = some (.dat (.int x)) := nr rfl
@[simp] theorem oInt_bool : oInt (.bool p) = some (.dat (.int (if p then 1 else 0))) := nr rfl
@[simp] theorem oLen_list : oLen (.list xs) = some (.dat (.int xs.length)) := nr rfl
@[simp] theorem oLen_tuple : oLen (.tuple xs) = some (.dat (.int xs.length)) := nr rfl
@[simp] theorem oTuple_list : oTuple (.list xs) = some (.dat (.tuple xs)) := nr rfl
@[simp] theorem oTuple_tuple : oTuple (.tuple xs) = some (.dat (.tuple xs)) := nr rfl
@[simp] theorem oList_list : oList (.list xs) = some (.own xs) := nr rfl
@[simp] theorem oList_tuple : oList (.tuple xs) = some (.own xs) := nr rfl
@[simp] theorem oMax_int : oMax (.int x) (.int y) = some (.dat (.int (max x y))) := by
  show some (RV.dat (.int (if y > x then y else x))) = _
  have e : (if y > x then y else x) = max x y := by split <;> omega
  rw [e]
@[simp] theorem oMin_int : oMin (.int x) (.int y) = some (.dat (.int (min x y))) := by
  show some (RV.dat (.int (if y < x then y else x))) = _
  have e : (if y < x then y else x) = min x y := by split <;> omega
  rw [e]
@[simp] theorem intsOf_ints : ∀ ns : List Int, intsOf (ns.map .int) = some ns
  | [] => rfl
  | n :: r => by
    show (intsOf (r.map .int)).map (n :: ·) = _
    rw [intsOf_ints r]
    rfl
@[simp] theorem oSum_ints {ns : List Int} : oSum (.list (ns.map .int)) = some (.dat (.int ns.sum)) := by
  show (intsOf (ns.map .int)).map _ = _
  rw [intsOf_ints]
  rfl
@[simp] theorem boolsOf_bools : ∀ ns : List Bool, boolsOf (ns.map .bool) = some ns
  | [] => rfl
  | n :: r => by
    show (boolsOf (r.map .bool)).map (n :: ·) = _
    rw [boolsOf_bools r]
    rfl
@[simp] theorem oAll_bools {ns : List Bool} : oAll (.list (ns.map .bool)) = some (.dat (.bool (ns.all id))) := by
  show (boolsOf (ns.map .bool)).map _ = _
  rw [boolsOf_bools]
  rfl
@[simp] theorem cNot_bool : cNot (.bool p) = some (.dat (.bool (!p))) := nr rfl
@[simp] theorem okTy_int {i : Int} : okTy (.int i) = true := nr rfl
@[simp] theorem okTy_bool {i : Bool} : okTy (.bool i) = true := nr rfl
@[simp] theorem okTy_str {i : Str} : okTy (.str i) = true := nr rfl
@[simp] theorem okTy_none : okTy .none = true := nr rfl
@[simp] theorem okTy_list {ds : List PyData} : okTy (.list ds) = true := nr rfl
@[simp] theorem okTy_tuple {ds : List PyData} : okTy (.tuple ds) = true := nr rfl
@[simp] theorem okTy_dict0 : okTy (.dict []) = true := nr rfl
@[simp] theorem oIsi_of {T : String} (h : okTy d = true) : oIsi T d = some (.dat (.bool (isOf T d))) := by
  unfold oIsi
  rw [if_pos h]
@[simp] theorem oIsB_bool {n : Bool} : oIsB n (.bool p) (.bool q) = some (.dat (.bool (if n then !decide (p = q) else decide (p = q)))) := nr rfl
@[simp] theorem oIsN_none {n : Bool} : oIsN n d .none = some (.dat (.bool (if n then !isNone d else isNone d))) := nr rfl
@[simp] theorem ixN_nat {m n : Nat} : ixN m (n : Int) = if n < m then some n else none := by
  unfold ixN
  rw [if_pos (Int.natCast_nonneg n)]
  by_cases h : n < m
  · rw [if_pos (by omega), if_pos h, Int.toNat_natCast]
  · rw [if_neg (by omega), if_neg h]
@[simp] theorem atI_nat {α : Type} {xs : List α} {n : Nat} : atI xs (n : Int) = xs[n]? := by
  unfold atI
  rw [ixN_nat]
  by_cases h : n < xs.length
  · rw [if_pos h]
    rfl
  · rw [if_neg h, List.getElem?_eq_none (by omega)]
    rfl
@[simp] theorem atI_lit {α : Type} {xs : List α} {n : Nat} : atI xs (OfNat.ofNat n : Int) = xs[n]? := atI_nat (n := n)
end
end Dn
namespace Dn
open PySem PySem.Spec L2
section
variable {ρ : Rho} {f : Feed} {a b c : Ex} {s s2 : Sm} {t u : Tx} {i j : Nat}
@[simp] theorem e_seq : sSeq s s2 ρ f = (s ρ f).bind fun c f1 => andThen c f1 s2 := nr rfl
@[simp] theorem e_then_nx {k : Rho → Feed → R Ctl} : andThen (.nx ρ) f k = k ρ f := nr rfl
@[simp] theorem e_then_rt {v : RV} {k : Rho → Feed → R Ctl} : andThen (.rt v) f k = .ok (.rt v) f := nr rfl
@[simp] theorem e_then_bk {k : Rho → Feed → R Ctl} : andThen (.bk ρ) f k = .ok (.bk ρ) f := nr rfl
@[simp] theorem e_then_ct {k : Rho → Feed → R Ctl} : andThen (.ct ρ) f k = .ok (.ct ρ) f := nr rfl
@[simp] theorem e_set : sSet i a ρ f = (a ρ f).bind fun rv f1 => match slotOf rv with
  | some s => .ok (.nx (ρ.set i s)) f1
  | none => .no := nr rfl
@[simp] theorem e_ret : sRet a ρ f = (a ρ f).bind fun rv f1 => .ok (.rt rv) f1 := nr rfl
@[simp] theorem e_if : sIf t s s2 ρ f = (t ρ f).bind fun c f1 => if c = true then s ρ f1 else s2 ρ f1 := nr rfl
@[simp] theorem e_drop : sDrop a ρ f = (a ρ f).bind fun _ f1 => .ok (.nx ρ) f1 := nr rfl
@[simp] theorem e_next : sNext ρ f = .ok (.nx ρ) f := nr rfl
@[simp] theorem e_break : sBreak ρ f = .ok (.bk ρ) f := nr rfl
@[simp] theorem e_cont : sCont ρ f = .ok (.ct ρ) f := nr rfl
@[simp] theorem e_no : sNo ρ f = .no := nr rfl
@[simp] theorem e_asg {T : Tgt} : sAsg T a ρ f = dt (a ρ f) fun d f1 => match T.put d ρ with
  | some ρ2 => .ok (.nx ρ2) f1
  | none => .no := nr rfl
@[simp] theorem e_par : sPar i j a b ρ f = dt (a ρ f) fun d f1 => dt (b ρ f1) fun e f2 => .ok (.nx ((ρ.set i (.dat d)).set j (.dat e))) f2 := by
  unfold sPar cArgs cArgs cArgs dt
  cases a ρ f with
  | no => rfl
  | ex => rfl
  | ok rv f1 =>
    simp only [bind_ok]
    cases rv.data with
    | none => rfl
    | some d =>
      simp only
      cases b ρ f1 with
      | no => rfl
      | ex => rfl
      | ok rv f2 =>
        simp only [bind_ok]
        cases rv.data <;> rfl
@[simp] theorem e_par3 {l : Nat} : sPar3 i j l a b c ρ f = dt (a ρ f) fun d f1 => dt (b ρ f1) fun e f2 => dt (c ρ f2) fun h f3 => .ok (.nx (((ρ.set i (.dat d)).set j (.dat e)).set l (.dat h))) f3 := by
  unfold sPar3 cArgs cArgs cArgs cArgs dt
  cases a ρ f with
  | no => rfl
  | ex => rfl
  | ok rv f1 =>
    simp only [bind_ok]
    cases rv.data with
    | none => rfl
    | some d =>
      simp only
      cases b ρ f1 with
      | no => rfl
      | ex => rfl
      | ok rv f2 =>
        simp only [bind_ok]
        cases rv.data with
        | none => rfl
        | some d =>
          simp only
          cases c ρ f2 with
          | no => rfl
          | ex => rfl
          | ok rv f2 =>
            simp only [bind_ok]
            cases rv.data <;> rfl
@[simp] theorem e_pop {T : Tgt} : sPop i T ρ f = match popped i ρ with
  | some (d, ρ1) => match T.put d ρ1 with
    | some ρ2 => .ok (.nx ρ2) f
    | none => .no
  | none => .no := nr rfl
@[simp] theorem e_popD : sPopD i ρ f = match popped i ρ with
  | some (_, ρ1) => .ok (.nx ρ1) f
  | none => .no := nr rfl
@[simp] theorem e_app : sApp i a ρ f = match ρ[i]? with
  | some (.own ds) => dt (a ρ f) fun d f1 => if ds.length < 100000 then .ok (.nx (ρ.set i (.own (ds ++ [d])))) f1 else .no
  | _ => .no := nr rfl
@[simp] theorem e_ext : sExt i a ρ f = match ρ[i]? with
  | some (.own ds) => dt (a ρ f) fun d f1 => match d with
    | .list es => if ds.length + es.length ≤ 100000 then .ok (.nx (ρ.set i (.own (ds ++ es)))) f1 else .no
    | _ => .no
  | _ => .no := nr rfl
@[simp] theorem e_put : sPut i a b ρ f = match ρ[i]? with
  | some (.own ds) => dt (b ρ f) fun d f1 => pk (a ρ f1) fun k f2 => match k with
    | .int k => match ixN ds.length k with
      | some j => .ok (.nx (ρ.set i (.own (ds.set j d)))) f2
      | none => .no
    | _ => .no
  | _ => .no := nr rfl
@[simp] theorem e_frz : sFrz i ρ f = match ρ[i]? with
  | some (.own ds) => .ok (.nx (ρ.set i (.dat (.list ds)))) f
  | _ => .ok (.nx ρ) f := nr rfl
@[simp] theorem e_for {it : Ix} {T : Tgt} : sFor it T s ρ f = (it ρ f).bind fun ds f1 => forN T s ds ρ f1 := nr rfl
@[simp] theorem e_feedS {k : Str} : sFeed k a b ρ f = pk (b ρ f) fun d f1 => (a ρ f1).bind fun rv f2 => match d, rv with
  | .int i, .feed => match f2.put k i with
    | some f3 => .ok (.nx ρ) f3
    | none => .no
  | _, _ => .no := nr rfl
@[simp] theorem e_C {d : PyData} : cC d ρ f = .ok (.dat d) f := nr rfl
@[simp] theorem e_V : cVar i ρ f = match ρ[i]? with
  | some (.dat d) => .ok (.dat d) f
  | some (.own ds) => .ok (.lent i ds) f
  | some .feed => .ok .feed f
  | some (.key ks) => .ok (.dat (.tuple (ks.map .int))) f
  | _ => .no := nr rfl
@[simp] theorem e_Bin {o : Op2} : cBin o a b ρ f = pk (a ρ f) fun x f1 => pk (b ρ f1) fun y f2 => give (o x y) f2 := nr rfl
@[simp] theorem e_Un {o : Op1} : cUn o a ρ f = pk (a ρ f) fun x f1 => give (o x) f1 := nr rfl
@[simp] theorem e_feed {k : Str} : cFeed k a ρ f = (a ρ f).bind fun rv f1 => match rv with
  | .feed => give (f1.get k) f1
  | _ => .no := nr rfl
@[simp] theorem e_And : cAnd a b ρ f = pk (a ρ f) fun d f1 => match d with
  | .bool true => b ρ f1
  | .bool false => .ok (.dat (.bool false)) f1
  | _ => .no := nr rfl
@[simp] theorem e_Or : cOr a b ρ f = pk (a ρ f) fun d f1 => match d with
  | .bool true => .ok (.dat (.bool true)) f1
  | .bool false => b ρ f1
  | _ => .no := nr rfl
@[simp] theorem e_If : cIf t a b ρ f = (t ρ f).bind fun c f1 => if c = true then a ρ f1 else b ρ f1 := nr rfl
@[simp] theorem e_Chain {o o2 : Op2} : cChain o o2 a b c ρ f = pk (a ρ f) fun x f1 => pk (b ρ f1) fun y f2 => match o x y with
  | some (.dat (.bool true)) => pk (c ρ f2) fun z f3 => give (o2 y z) f3
  | some (.dat (.bool false)) => .ok (.dat (.bool false)) f2
  | _ => .no := nr rfl
@[simp] theorem e_T : cT a ρ f = pk (a ρ f) fun d f1 => match d with
  | .bool b => .ok b f1
  | _ => .no := nr rfl
@[simp] theorem e_Yes : cYes ρ f = .ok true f := nr rfl
@[simp] theorem e_tAnd : tAndX t u ρ f = (t ρ f).bind fun b f1 => if b = true then u ρ f1 else .ok false f1 := nr rfl
@[simp] theorem e_tOr : tOrX t u ρ f = (t ρ f).bind fun b f1 => if b = true then .ok true f1 else u ρ f1 := nr rfl
@[simp] theorem e_tNot : tNotX t ρ f = (t ρ f).bind fun b f1 => .ok (!b) f1 := nr rfl
@[simp] theorem e_Args_nil : cArgs [] ρ f = .ok [] f := nr rfl
@[simp] theorem e_Args_cons {xs : List Ex} : cArgs (a :: xs) ρ f = dt (a ρ f) fun d f1 => (cArgs xs ρ f1).bind fun ds f2 => .ok (d :: ds) f2 := nr rfl
@[simp] theorem e_Vals_nil : cVals [] ρ f = .ok [] f := nr rfl
@[simp] theorem e_Vals_cons {xs : List Ex} : cVals (a :: xs) ρ f = (a ρ f).bind fun rv f1 => match toArg rv with
    | some a => (cVals xs ρ f1).bind fun as f2 => .ok (a :: as) f2
    | none => .no := nr rfl
@[simp] theorem e_Call {F : Fn} {xs : List Ex} : cCall F xs ρ f = (cVals xs ρ f).bind fun as f1 => F as f1 := nr rfl
@[simp] theorem e_Tup {xs : List Ex} : cTup xs ρ f = (cArgs xs ρ f).bind fun ds f1 => if ds.length ≤ 100000 then .ok (.dat (.tuple ds)) f1 else .no := nr rfl
@[simp] theorem e_Lst {xs : List Ex} : cLst xs ρ f = (cArgs xs ρ f).bind fun ds f1 => if ds.length ≤ 100000 then .ok (.own ds) f1 else .no := nr rfl
@[simp] theorem e_Lc {it : Ix} {T : Tgt} {vs : List Nat} : cLc it T t a vs ρ f = (it ρ f).bind fun ds f1 => (lcN T t a (wipeR ρ vs) ds [] f1).bind fun ys f2 => .ok (.own ys) f2 := nr rfl
@[simp] theorem e_wipe_nil : wipeR ρ [] = ρ := nr rfl
@[simp] theorem e_wipe_cons {v : Nat} {vs : List Nat} : wipeR ρ (v :: vs) = (wipeR ρ vs).set v .emp := nr rfl
@[simp] theorem e_iSeq : iSeq a ρ f = dt (a ρ f) fun d f1 => match seqOf d with
  | some ds => .ok ds f1
  | none => .no := nr rfl
@[simp] theorem e_iRange1 : iRange1 a ρ f = pk (a ρ f) fun d f1 => match d with
  | .int n => if smallI n = true then .ok (rangeD 0 n.toNat) f1 else .no
  | _ => .no := nr rfl
@[simp] theorem e_iRange2 : iRange2 a b ρ f = pk (a ρ f) fun d f1 => pk (b ρ f1) fun d2 f2 => match d, d2 with
  | .int i, .int j => if (smallI i && smallI j) = true then .ok (rangeD i (j - i).toNat) f2 else .no
  | _, _ => .no := nr rfl
@[simp] theorem e_iDown : iDown a b c ρ f = pk (a ρ f) fun d f1 => pk (b ρ f1) fun d2 f2 => pk (c ρ f2) fun d3 f3 => match d, d2, d3 with
  | .int i, .int j, .int k => if (smallI i && smallI j && decide (k = -1)) = true then .ok (downD i (i - j).toNat) f3 else .no
  | _, _, _ => .no := nr rfl
@[simp] theorem e_iEnum : iEnum a ρ f = dt (a ρ f) fun d f1 => match seqOf d with
  | some ds => .ok (pairsD ds) f1
  | none => .no := nr rfl
@[simp] theorem e_iZip : iZip a b ρ f = dt (a ρ f) fun d f1 => dt (b ρ f1) fun e f2 => match d, e with
  | .list ds, .list es => .ok (zipD ds es) f2
  | .tuple ds, .tuple es => .ok (zipD ds es) f2
  | .tuple ds, .list es => .ok (zipD ds es) f2
  | .list ds, .tuple es => .ok (zipD ds es) f2
  | _, _ => .no := nr rfl
@[simp] theorem e_Sl {lo hi : Option Ex} : cSl a lo hi ρ f = pk (a ρ f) fun x f1 => partX lo ρ f1 fun i f2 => partX hi ρ f2 fun j f3 => give (oSl i j x) f3 := nr rfl
@[simp] theorem e_part_none {k : Option Int → Feed → R RV} : partX none ρ f k = k none f := nr rfl
@[simp] theorem e_part_some {k : Option Int → Feed → R RV} : partX (some a) ρ f k = pk (a ρ f) fun d f1 => match d with
    | .int i => k (some i) f1
    | _ => .no := nr rfl
@[simp] theorem e_slot_dat {d : PyData} : slotOf (.dat d) = some (.dat d) := nr rfl
@[simp] theorem e_slot_own {d : List PyData} : slotOf (.own d) = some (.own d) := nr rfl
@[simp] theorem e_slot_feed : slotOf .feed = some .feed := nr rfl
@[simp] theorem e_arg_dat {d : PyData} : toArg (.dat d) = some (.dat d) := nr rfl
@[simp] theorem e_arg_own {d : List PyData} : toArg (.own d) = some (.dat (.list d)) := nr rfl
@[simp] theorem e_arg_feed : toArg .feed = some .feed := nr rfl
@[simp] theorem e_seqOf_list {xs : List PyData} : seqOf (.list xs) = some xs := nr rfl
@[simp] theorem e_seqOf_tuple {xs : List PyData} : seqOf (.tuple xs) = some xs := nr rfl
@[simp] theorem e_put_one {d : PyData} : (Tgt.one i).put d ρ = some (ρ.set i (.dat d)) := nr rfl
@[simp] theorem e_put_many {l : List Nat} {ds : List PyData} : (Tgt.many l).put (.tuple ds) ρ = if ds.length = l.length then some (setAll l ds ρ) else none := nr rfl
@[simp] theorem e_setAll_nil {l : List Nat} : setAll l [] ρ = ρ := by cases l <;> rfl
@[simp] theorem e_setAll_cons {l : List Nat} {d : PyData} {ds : List PyData} : setAll (i :: l) (d :: ds) ρ = setAll l ds (ρ.set i (.dat d)) := nr rfl
@[simp] theorem e_fnSlot_dat {d : PyData} : fnSlot (.dat d) = .dat d := nr rfl
@[simp] theorem e_fnSlot_feed : fnSlot .feed = .feed := nr rfl
@[simp] theorem e_up_dat {d : PyData} : (RV.dat d).up = .dat d := nr rfl
@[simp] theorem e_up_own {d : List PyData} : (RV.own d).up = .own d := nr rfl
@[simp] theorem e_up_lent {d : List PyData} : (RV.lent i d).up = .own d := nr rfl
@[simp] theorem e_peek_dat {d : PyData} : (RV.dat d).peek = some d := nr rfl
@[simp] theorem e_data_dat {d : PyData} : (RV.dat d).data = some d := nr rfl
@[simp] theorem e_data_own {d : List PyData} : (RV.own d).data = some (.list d) := nr rfl
@[simp] theorem e_ix_tuple {xs : List PyData} {k : Int} : oIx (.tuple xs) (.int k) = (atI xs k).map .dat := nr rfl
@[simp] theorem e_ix_list {xs : List PyData} {k : Int} : oIx (.list xs) (.int k) = (atI xs k).map .dat := nr rfl
@[simp] theorem e_sl_tuple {xs : List PyData} {lo hi : Option Int} : oSl lo hi (.tuple xs) = some (.dat (.tuple (cutD xs lo hi))) := nr rfl
@[simp] theorem e_sl_list {xs : List PyData} {lo hi : Option Int} : oSl lo hi (.list xs) = some (.own (cutD xs lo hi)) := nr rfl
@[simp] theorem e_at0 {α : Type} {x : α} {xs : List α} : atI (x :: xs) 0 = some x := atI_nat (n := 0)
@[simp] theorem e_at1 {α : Type} {x y : α} {xs : List α} : atI (x :: y :: xs) 1 = some y := atI_nat (n := 1)
@[simp] theorem e_at2 {α : Type} {x y z : α} {xs : List α} : atI (x :: y :: z :: xs) 2 = some z := atI_nat (n := 2)
@[simp] theorem e_at3 {α : Type} {x y z w : α} {xs : List α} : atI (x :: y :: z :: w :: xs) 3 = some w := atI_nat (n := 3)
@[simp] theorem give_some_map {o : Option PyData} {g : Feed} : give (o.map .dat) g = match o with
  | some d => .ok (.dat d) g
  | none => .no := by cases o <;> rfl
@[simp] theorem e_gturn {g : Feed} : g.get "turn" = some (.dat (.int g.turn)) := nr rfl
@[simp] theorem e_gat {g : Feed} : g.get "at" = some (.dat (.int g.spot)) := nr rfl
@[simp] theorem e_gleft {g : Feed} : g.get "left" = some (.dat (.int g.left)) := nr rfl
@[simp] theorem e_gcells {g : Feed} : g.get "cells" = some (.dat (.list (g.cells.map .int))) := nr rfl
@[simp] theorem e_pturn {g : Feed} {k : Int} : g.put "turn" k = some { g with turn := k } := nr rfl
@[simp] theorem e_pat {g : Feed} {k : Int} : g.put "at" k = some { g with spot := k } := nr rfl
@[simp] theorem e_pleft {g : Feed} {k : Int} : g.put "left" k = some { g with left := k } := nr rfl
end
def RetP (P : RV → Feed → Prop) : Ctl → Feed → Prop
  | .nx _, f => P (.dat .none) f
  | .rt v, f => P v.up f
  | _, _ => False
@[simp] theorem retP_nx {P : RV → Feed → Prop} {ρ : Rho} {f : Feed} : RetP P (.nx ρ) f ↔ P (.dat .none) f := nri Iff.rfl
@[simp] theorem retP_rt {P : RV → Feed → Prop} {v : RV} {f : Feed} : RetP P (.rt v) f ↔ P v.up f := nri Iff.rfl
theorem ev_dEnd {r : R Ctl} {P : RV → Feed → Prop} : Ev (dEnd r) P ↔ Ev r (RetP P) := by
  cases r with
  | no => exact ⟨fun ⟨_, _, e, _⟩ => (by cases e), fun ⟨_, _, e, _⟩ => (by cases e)⟩
  | ex c v f => exact ⟨fun ⟨_, _, e, _⟩ => (by cases e), fun ⟨_, _, e, _⟩ => (by cases e)⟩
  | ok a f =>
    cases a with
    | nx ρ => exact (ev_ok (a := RV.dat .none)).trans (ev_ok (P := RetP P) (a := Ctl.nx ρ)).symm
    | rt v => exact (ev_ok (a := v.up)).trans (ev_ok (P := RetP P) (a := Ctl.rt v)).symm
    | bk ρ => exact ⟨fun ⟨_, _, e, _⟩ => (by cases e), fun h => (ev_ok.mp h).elim⟩
    | ct ρ => exact ⟨fun ⟨_, _, e, _⟩ => (by cases e), fun h => (ev_ok.mp h).elim⟩
theorem ev_is {α : Type} {r : R α} {v : α} {f : Feed} (h : Ev r fun a g => a = v ∧ g = f) : r = .ok v f := by
  obtain ⟨a, g, e, rfl, rfl⟩ := h
  exact e
theorem Ev.of {α : Type} {r : R α} {v : α} {f : Feed} {P : α → Feed → Prop} (h : r = .ok v f) (p : P v f) : Ev r P := ⟨v, f, h, p⟩
theorem ev_ite {α : Type} {c : Prop} [Decidable c] {r s : R α} {P : α → Feed → Prop} : Ev (if c then r else s) P ↔ (c → Ev r P) ∧ (¬ c → Ev s P) := by
  by_cases h : c
  · rw [if_pos h]
    exact ⟨fun q => ⟨fun _ => q, fun z => absurd h z⟩, fun q => q.1 h⟩
  · rw [if_neg h]
    exact ⟨fun q => ⟨fun z => absurd z h, fun _ => q⟩, fun q => q.2 h⟩
def LoopP (J : Rho → Feed → Prop) (P : Ctl → Feed → Prop) : Ctl → Feed → Prop
  | .nx ρ, f => J ρ f
  | .ct ρ, f => J ρ f
  | .bk ρ, f => P (.nx ρ) f
  | .rt v, f => P (.rt v) f
@[simp] theorem loopP_nx {J : Rho → Feed → Prop} {P : Ctl → Feed → Prop} {ρ : Rho} {f : Feed} : LoopP J P (.nx ρ) f ↔ J ρ f := nri Iff.rfl
@[simp] theorem loopP_ct {J : Rho → Feed → Prop} {P : Ctl → Feed → Prop} {ρ : Rho} {f : Feed} : LoopP J P (.ct ρ) f ↔ J ρ f := nri Iff.rfl
@[simp] theorem loopP_bk {J : Rho → Feed → Prop} {P : Ctl → Feed → Prop} {ρ : Rho} {f : Feed} : LoopP J P (.bk ρ) f ↔ P (.nx ρ) f := nri Iff.rfl
@[simp] theorem loopP_rt {J : Rho → Feed → Prop} {P : Ctl → Feed → Prop} {v : RV} {f : Feed} : LoopP J P (.rt v) f ↔ P (.rt v) f := nri Iff.rfl
theorem ev_forL {T : Tgt} {s : Sm} {P : Ctl → Feed → Prop} (I : List PyData → Rho → Feed → Prop) (hs : ∀ d ds ρ f, I (d :: ds) ρ f → ∃ ρ1, T.put d ρ = some ρ1 ∧ Ev (s ρ1 f) (LoopP (I ds) P)) (he : ∀ ρ f, I [] ρ f → P (.nx ρ) f) :
    ∀ (ds : List PyData) (ρ : Rho) (f : Feed), I ds ρ f → Ev (forN T s ds ρ f) P
  | [], ρ, f, h => ev_ok.mpr (he ρ f h)
  | d :: ds, ρ, f, h => by
    obtain ⟨ρ1, e, c, f1, e2, p⟩ := hs d ds ρ f h
    unfold forN
    rw [e]
    simp only [e2, bind_ok]
    cases c with
    | nx ρ2 => exact ev_forL I hs he ds ρ2 f1 p
    | ct ρ2 => exact ev_forL I hs he ds ρ2 f1 p
    | bk ρ2 => exact ev_ok.mpr p
    | rt v => exact ev_ok.mpr p
/-- by the number of turns done -/
theorem ev_for {T : Tgt} {s : Sm} {P : Ctl → Feed → Prop} (I : Nat → Rho → Feed → Prop) {ds : List PyData} {ρ : Rho} {f : Feed} (h : I 0 ρ f)
    (hs : ∀ i d ρ f, ds[i]? = some d → I i ρ f → ∃ ρ1, T.put d ρ = some ρ1 ∧ Ev (s ρ1 f) (LoopP (I (i + 1)) P)) (he : ∀ ρ f, I ds.length ρ f → P (.nx ρ) f) : Ev (forN T s ds ρ f) P := by
  refine ev_forL (fun r ρ f => ∃ i, ds.drop i = r ∧ i ≤ ds.length ∧ I i ρ f) (fun d r ρ f z => ?_) (fun ρ f z => ?_) ds ρ f ⟨0, rfl, Nat.zero_le _, h⟩
  · obtain ⟨i, e, hi, z⟩ := z
    have g : ds[i]? = some d := by
      rw [← List.head?_drop, e]
      rfl
    have hl : i < ds.length := (List.getElem?_eq_some_iff.mp g).1
    have e2 : ds.drop (i + 1) = r := by
      rw [← List.tail_drop, e]
      rfl
    obtain ⟨ρ1, p, q⟩ := hs i d ρ f g z
    refine ⟨ρ1, p, q.mono fun c f1 w => ?_⟩
    cases c with
    | nx ρ2 => exact ⟨i + 1, e2, hl, w⟩
    | ct ρ2 => exact ⟨i + 1, e2, hl, w⟩
    | bk ρ2 => exact w
    | rt v => exact w
  · obtain ⟨i, e, hi, z⟩ := z
    have : ds.length ≤ i := List.drop_eq_nil_iff.mp e
    have e2 : i = ds.length := by omega
    subst e2
    exact he ρ f z
/-- nothing is drawn in it -/
theorem lc_pure {τ : Type} {T : Tgt} {t : Tx} {e : Ex} {ρ : Rho} {f : Feed} {xs : List τ} {enc g : τ → PyData} {p : τ → Bool} (hl : xs.length ≤ 100000)
    (h : ∀ x ∈ xs, ∃ ρ1, T.put (enc x) ρ = some ρ1 ∧ t ρ1 f = .ok (p x) f ∧ (p x = true → e ρ1 f = .ok (.dat (g x)) f)) : lcN T t e ρ (xs.map enc) [] f = .ok ((xs.filter p).map g) f := by
  have go : ∀ (r : List τ) (acc : List PyData), acc.length + r.length ≤ 100000 → (∀ x ∈ r, ∃ ρ1, T.put (enc x) ρ = some ρ1 ∧ t ρ1 f = .ok (p x) f ∧ (p x = true → e ρ1 f = .ok (.dat (g x)) f)) → lcN T t e ρ (r.map enc) acc f = .ok (acc ++ (r.filter p).map g) f := by
    intro r
    induction r with
    | nil =>
      intro acc _ _
      show R.ok acc f = _
      rw [List.filter_nil, List.map_nil, List.append_nil]
    | cons x r ih =>
      intro acc hl h
      rw [List.length_cons] at hl
      obtain ⟨ρ1, h1, h2, h3⟩ := h x List.mem_cons_self
      show lcN T t e ρ (enc x :: r.map enc) acc f = _
      unfold lcN
      rw [h1]
      simp only [h2, noEx_ok2, bind_ok]
      cases q : p x with
      | false =>
        rw [if_neg (by decide), ih acc (by omega) fun y hy => h y (List.mem_cons_of_mem _ hy), List.filter_cons_of_neg (by rw [q]; decide)]
      | true =>
        rw [if_pos rfl, h3 q, noEx_ok2, dt_ok_dat, if_pos (by omega), ih (acc ++ [g x]) (by rw [List.length_append]; show acc.length + 1 + r.length ≤ 100000; omega) fun y hy => h y (List.mem_cons_of_mem _ hy), List.filter_cons_of_pos q, List.map_cons, List.append_assoc]
        rfl
  exact go xs [] (by simpa using hl) h
theorem lc_map {τ : Type} {T : Tgt} {e : Ex} {ρ : Rho} {f : Feed} {xs : List τ} {enc g : τ → PyData} (hl : xs.length ≤ 100000)
    (h : ∀ x ∈ xs, ∃ ρ1, T.put (enc x) ρ = some ρ1 ∧ e ρ1 f = .ok (.dat (g x)) f) : lcN T cYes e ρ (xs.map enc) [] f = .ok (xs.map g) f := by
  have := lc_pure (t := cYes) (p := fun _ => true) hl fun x hx => by
    obtain ⟨ρ1, a, b⟩ := h x hx
    exact ⟨ρ1, a, rfl, fun _ => b⟩
  rw [this, List.filter_eq_self.mpr fun _ _ => rfl]
theorem whileN_more {t : Tx} {s : Sm} {n m : Nat} {ρ : Rho} {f g : Feed} {c : Ctl} (h : n ≤ m) (e : whileN t s n ρ f = .ok c g) : whileN t s m ρ f = .ok c g := by
  have q := whileN_add (show whileN t s n ρ f ≠ .no by rw [e]; exact fun z => by cases z) (m - n)
  rw [show n + (m - n) = m by omega, e] at q
  exact q
theorem sWhile_is {t : Tx} {s : Sm} {n : Nat} {ρ : Rho} {f g : Feed} {c : Ctl} (e : whileN t s n ρ f = .ok c g) : sWhile t s ρ f = .ok c g := sWhile_eq e fun z => by cases z
theorem ev_while {t : Tx} {s : Sm} {P : Ctl → Feed → Prop} (I : Nat → Rho → Feed → Prop)
    (hs : ∀ n ρ f, I n ρ f → Ev (t ρ f) fun b f1 => (b = true → Ev (s ρ f1) (LoopP (fun ρ2 f2 => ∃ m, m < n ∧ I m ρ2 f2) P)) ∧ (b = false → P (.nx ρ) f1)) {n : Nat} {ρ : Rho} {f : Feed} (h : I n ρ f) : Ev (sWhile t s ρ f) P := by
  have go : ∀ n ρ f, I n ρ f → ∃ c f2, whileN t s (n + 1) ρ f = .ok c f2 ∧ P c f2 := by
    intro n
    induction n using Nat.strongRecOn with
    | ind n ih =>
      intro ρ f h
      obtain ⟨b, f1, e, p, q⟩ := hs n ρ f h
      unfold whileN
      rw [e]
      simp only [bind_ok]
      cases b with
      | false =>
        rw [if_neg (by decide)]
        exact ⟨_, _, rfl, q rfl⟩
      | true =>
        rw [if_pos rfl]
        obtain ⟨c, f2, e2, w⟩ := p rfl
        simp only [e2, bind_ok]
        cases c with
        | bk ρ2 => exact ⟨_, _, rfl, w⟩
        | rt v => exact ⟨_, _, rfl, w⟩
        | nx ρ2 =>
          obtain ⟨m, hm, z⟩ := w
          obtain ⟨c3, f3, e3, p3⟩ := ih m hm ρ2 f2 z
          exact ⟨c3, f3, (whileN_more (by omega) e3), p3⟩
        | ct ρ2 =>
          obtain ⟨m, hm, z⟩ := w
          obtain ⟨c3, f3, e3, p3⟩ := ih m hm ρ2 f2 z
          exact ⟨c3, f3, (whileN_more (by omega) e3), p3⟩
  obtain ⟨c, f2, e, p⟩ := go n ρ f h
  exact ⟨c, f2, sWhile_is e, p⟩
end Dn
namespace Dn
open PySem PySem.Spec L2
section
variable {α β : Type} {ρ : Rho} {f : Feed} {i j : Nat} {x : Ex} {su : Sm} {names : List Str} {c : Str} {vs : List (Str × PyData)}
@[simp] theorem e_raise {fs : List Str} {xs : List Ex} : sRaise c fs xs ρ f = (cArgs xs ρ f).bind fun ds f1 => if ds.length = fs.length ∧ fs.length ≤ 900 then .ex c (fs.zip ds).reverse f1 else .no := nr rfl
@[simp] theorem bind_ex {k : α → Feed → R β} : (R.ex c vs f).bind k = .ex c vs f := nr rfl
@[simp] theorem dt_ex {k : PyData → Feed → R β} : dt (R.ex c vs f) k = .ex c vs f := nr rfl
@[simp] theorem pk_ex {k : PyData → Feed → R β} : pk (R.ex c vs f) k = .ex c vs f := nr rfl
def tryOn (i : Nat) (ρ : Rho) (h : Str → List (Str × PyData) → Feed → R Ctl) : R RV → R Ctl
  | .no => .no
  | .ok rv f1 => match slotOf rv with
    | some s => .ok (.nx (ρ.set i s)) f1
    | none => .no
  | .ex c vs f1 => h c vs f1
def tryRet (h : Str → List (Str × PyData) → Feed → R Ctl) : R RV → R Ctl
  | .no => .no
  | .ok rv f1 => .ok (.rt rv) f1
  | .ex c vs f1 => h c vs f1
@[simp] theorem e_tryS0 : sTryS0 i x names su ρ f = tryOn i ρ (fun c _ f1 => if names.contains c then noEx (su ρ f1) else .no) (x ρ f) := by
  unfold sTryS0 tryOn
  cases x ρ f <;> rfl
@[simp] theorem e_tryS : sTryS i j x names su ρ f = tryOn i ρ (fun c vs f1 => if names.contains c then drp j (noEx (su (ρ.set j (.dat (excD c vs))) f1)) else .no) (x ρ f) := by
  unfold sTryS tryOn caught
  cases x ρ f <;> rfl
@[simp] theorem e_tryR : sTryR j x names su ρ f = tryRet (fun c vs f1 => if names.contains c then drp j (noEx (su (ρ.set j (.dat (excD c vs))) f1)) else .no) (x ρ f) := by
  unfold sTryR tryRet caught
  cases x ρ f <;> rfl
variable {h : Str → List (Str × PyData) → Feed → R Ctl}
@[simp] theorem on_dat {d : PyData} : tryOn i ρ h (.ok (.dat d) f) = .ok (.nx (ρ.set i (.dat d))) f := nr rfl
@[simp] theorem on_own {d : List PyData} : tryOn i ρ h (.ok (.own d) f) = .ok (.nx (ρ.set i (.own d))) f := nr rfl
@[simp] theorem on_ex : tryOn i ρ h (.ex c vs f) = h c vs f := nr rfl
@[simp] theorem ret_ok {rv : RV} : tryRet h (.ok rv f) = .ok (.rt rv) f := nr rfl
@[simp] theorem ret_ex : tryRet h (.ex c vs f) = h c vs f := nr rfl
@[simp] theorem noEx_ok' {a : α} : noEx (.ok a f) = .ok a f := nr rfl
@[simp] theorem drp_nx : drp j (.ok (.nx ρ) f) = .ok (.nx (ρ.set j .emp)) f := nr rfl
@[simp] theorem drp_rt {v : RV} : drp j (.ok (.rt v) f) = .ok (.rt v) f := nr rfl
@[simp] theorem end_nx : dEndX (.ok (.nx ρ) f) = .ok (.dat .none) f := nr rfl
@[simp] theorem end_rt {v : RV} : dEndX (.ok (.rt v) f) = .ok v.up f := nr rfl
@[simp] theorem end_ex : dEndX (.ex c vs f) = .ex c vs f := nr rfl
@[simp] theorem e_excNm {r : List (PyData × PyData)} : excNm (.dict ((.none, .str c) :: r)) = if errNames.contains c then some c else none := nr rfl
@[simp] theorem e_excD : excD c vs = .dict ((.none, .str c) :: vs.map fun p => (.str p.1, p.2)) := nr rfl
end
end Dn
namespace Dn
open PySem PySem.Spec L2
def sUnl (l : List Nat) (e : Ex) : Sm := fun ρ f => dt (e ρ f) fun d f1 => match d with
  | .list ds => if ds.length = l.length then .ok (.nx (setAll l ds ρ)) f1 else .no
  | _ => .no
section
variable {X : Cx} {E : XK} {e : Expr} {x : Ex} {pos : Pos} {l : List Nat} {es : List Expr}
@[simp] theorem e_unl {ρ : Rho} {f : Feed} : sUnl l x ρ f = dt (x ρ f) fun d f1 => match d with
  | .list ds => if ds.length = l.length then .ok (.nx (setAll l ds ρ)) f1 else .no
  | _ => .no := nr rfl
end
end Dn
namespace Dn
open PySem PySem.Spec L2
/-- two names at once, of which one may be given a list that is to grow -/
def sParO (i j : Nat) (a b : Ex) : Sm := fun ρ f => (a ρ f).bind fun rv f1 => (b ρ f1).bind fun rw f2 => match slotOf rv, slotOf rw with
  | some s, some t => .ok (.nx ((ρ.set i s).set j t)) f2
  | _, _ => .no
section
variable {X : Cx} {E : XK} {pos : Pos}
@[simp] theorem e_parO {i j : Nat} {a b : Ex} {ρ : Rho} {f : Feed} : sParO i j a b ρ f = (a ρ f).bind fun rv f1 => (b ρ f1).bind fun rw f2 => match slotOf rv, slotOf rw with
  | some s, some t => .ok (.nx ((ρ.set i s).set j t)) f2
  | _, _ => .no := nr rfl
end
section
variable {X : Cx} {W : Wish} {a b : Expr} {fa fb : Ex} {pos : Pos}
end
end Dn
namespace HT
open PySem PySem.Spec PyProof.Rows
section
variable {prog : Program} {w : World} {A : Around} {E : Value → Shared → Prop} {s : Shared}
end
end HT
namespace Dn
open PySem PySem.Spec L2 PyProof.Rows
section
variable {X : Cx}
def oRevT : Op1
  | .tuple xs => some (.dat (.tuple xs.reverse))
  | _ => none
@[simp] theorem oRevT_tuple {xs : List PyData} : oRevT (.tuple xs) = some (.dat (.tuple xs.reverse)) := nr rfl
end
def oLstRg : Op1
  | .int n => if 0 ≤ n ∧ n ≤ 100000 then some (.own (rangeD 0 n.toNat)) else none
  | _ => none
section
variable {X : Cx} {W : Wish} {a : Expr} {fa : Ex} {p p2 pos pos2 : Pos}
end
@[simp] theorem oLstRg_int {n : Int} : oLstRg (.int n) = if 0 ≤ n ∧ n ≤ 100000 then some (.own (rangeD 0 n.toNat)) else none := nr rfl
end Dn
section
set_option maxHeartbeats 4000000
namespace TI
open PySem PySem.W PySem.Calls PyProof.Rows Builtin
section
variable {M : Model} {A : Around} {E : Value → Shared → Prop} {s : Shared}
/-- the first item of each, none of an empty one -/
inductive Firsts : List (List Int) → List (Option Value) → Prop
  | nil : Firsts [] []
  | no {ks os} : Firsts ks os → Firsts ([] :: ks) (none :: os)
  | yes {n : Int} {ns : List Int} {t : Tok} {ks os} : Firsts ks os → Firsts ((n :: ns) :: ks) (some (.int n t) :: os)
theorem first_run {v : Value} {ns : List Int} {Q : Option Value → Shared → Prop} (h : TS.TupInts s.heap v ns) (hq : ∀ o, (ns = [] → o = none) → (∀ n r, ns = n :: r → ∃ t, o = some (.int n t)) → Q o s) : wpAny M A (firstOfTuple' v) Q E s := by
  obtain ⟨a, xs, rfl, ⟨o, ho, hc, n, hd⟩, i⟩ := h
  rw [kas_first_eq]
  refine wpAny_bind (Looks.here (show Looks M s.heap (typeOf (.ref a)) o.cls from (Looks.ld ho).andThen .now) ?_)
  rw [hc, if_neg (by first | decide | simp)]
  refine wpAny_bind (listItems_at ho hd (wpAny_pure (hq _ (fun e => ?_) fun n r e => ?_)))
  · subst e
    cases q : xs.toList with
    | nil => rw [← Array.getElem?_toList, q]; rfl
    | cons y r => rw [q] at i; cases i
  · subst e
    cases q : xs.toList with
    | nil => rw [q] at i; cases i
    | cons y ys =>
      rw [q] at i
      cases i with
      | cons _ t _ => exact ⟨t, by rw [← Array.getElem?_toList, q]; rfl⟩
theorem firsts_run : ∀ (vs : List Value) (ks : List (List Int)) {Q : List (Option Value) → Shared → Prop}, Paired (fun v ns => TS.TupInts s.heap v ns) vs ks → (∀ os, Firsts ks os → Q os s) → wpAny M A (vs.mapM firstOfTuple') Q E s
  | [], _, _, .nil, h => by rw [List.mapM_nil]; exact wpAny_pure (h [] .nil)
  | v :: vs, ns :: ks, Q, .cons hv hr, h => by
    rw [List.mapM_cons]
    refine wpAny_bind (first_run hv fun o h0 h1 => ?_)
    refine wpAny_bind (firsts_run vs ks (Q := fun os s' => wpAny M A (pure (o :: os)) Q E s') hr fun os hos => wpAny_pure (h _ ?_))
    cases ns with
    | nil =>
      rw [h0 rfl]
      exact .no hos
    | cons n r =>
      obtain ⟨t, e⟩ := h1 n r rfl
      rw [e]
      exact .yes hos
theorem Firsts.len : ∀ {ks os}, Firsts ks os → os.length = ks.length
  | _, _, .nil => rfl
  | _, _, .no h => congrArg (· + 1) h.len
  | _, _, .yes h => congrArg (· + 1) h.len
theorem Firsts.all : ∀ {ks os}, Firsts ks os → os.all (·.isSome) = true → ∀ f ∈ os.filterMap id, ∃ n t, f = Value.int n t
  | _, _, .nil, _, f, hf => by simp at hf
  | _, _, .no h, e, f, hf => by simp at e
  | _, _, .yes (n := n) (t := t) h, e, f, hf => by
    rw [List.all_cons, Option.isSome_some, Bool.true_and] at e
    rw [List.filterMap_cons] at hf
    simp only [_root_.id] at hf
    rcases List.mem_cons.mp hf with rfl | hf
    · exact ⟨_, _, rfl⟩
    · exact h.all e f hf
theorem Firsts.allIff : ∀ {ks os}, Firsts ks os → os.all (·.isSome) = ks.all (fun k => !k.isEmpty)
  | _, _, .nil => rfl
  | _, _, .no h => rfl
  | _, _, .yes h => by
    rw [List.all_cons, List.all_cons, h.allIff]
    rfl
theorem Firsts.headIff : ∀ {ks os}, Firsts ks os → (os[0]?.bind id).isSome = (ks[0]?.any fun k => !k.isEmpty)
  | _, _, .nil => rfl
  | _, _, .no h => rfl
  | _, _, .yes h => rfl
/-- the three ways -/
def wayOf (ks : List (List Int)) : SortKind := if (ks.all fun k => !k.isEmpty) = true then tuples' true else if (ks[0]?.any fun k => !k.isEmpty) = true then general' else oneType'
def WayOf (κ : SortKind) : Prop := κ = tuples' true ∨ κ = general' ∨ κ = oneType'
theorem wayOf_is (ks : List (List Int)) : WayOf (wayOf ks) := by
  unfold wayOf
  split
  · exact .inl rfl
  · split
    · exact .inr (.inl rfl)
    · exact .inr (.inr rfl)
theorem kind_run {vs : List Value} {ks : List (List Int)} {Q : SortKind → Shared → Prop} (h2 : 2 ≤ vs.length) (p : Paired (fun v ns => TS.TupInts s.heap v ns) vs ks) (h : Q (wayOf ks) s) : wpAny M A (keyKind' vs.toArray) Q E s := by
  have hty : ∀ v ∈ vs, Looks M s.heap (typeOf v) (.type "tuple") := fun v hv => by
    obtain ⟨i, hi, e⟩ := List.getElem_of_mem hv
    have g : vs[i]? = some v := by rw [List.getElem?_eq_getElem hi, e]
    obtain ⟨ns, _, a, xs, rfl, ⟨o, ho, hc, n, hd⟩, _⟩ := L2.paired_get p g
    have : Looks M s.heap (typeOf (.ref a)) o.cls := (Looks.ld ho).andThen .now
    rw [hc] at this
    exact this
  rw [kat_kind_eq, List.mapM_toArray, map_eq_pure_bind]
  refine wpAny_bind (wpAny_bind (firsts_run vs ks p fun os hos => wpAny_pure ?_))
  have a1 : (os.toArray.all fun x => x.isSome) = ks.all (fun k => !k.isEmpty) := by
    rw [← hos.allIff]
    simp
  have a2 : ((os.toArray[0]?.bind id).isSome) = (ks[0]?.any fun k => !k.isEmpty) := by
    rw [← hos.headIff]
    simp
  unfold wayOf at h
  by_cases c1 : (os.toArray.all fun x => x.isSome) = true
  · rw [if_pos c1]
    rw [if_pos (a1 ▸ c1)] at h
    refine wpAny_bind (wpAny_rule ?_)
    have hall : os.all (·.isSome) = true := by simpa using c1
    have hint := hos.all hall
    have hlen : (os.filterMap id).length = os.length := by
      have : ∀ l : List (Option Value), l.all (·.isSome) = true → (l.filterMap id).length = l.length := by
        intro l
        induction l with
        | nil => intro _; rfl
        | cons x r ih =>
          intro e
          cases x with
          | none => simp at e
          | some y =>
            rw [List.filterMap_cons]
            simp only [_root_.id]
            rw [List.length_cons, List.length_cons, ih (by simpa using e)]
      exact this os hall
    have hfm : (os.toArray.filterMap id) = (os.filterMap id).toArray := by simp
    rw [hfm, oneTypeOnly'_eq, List.mapM_toArray, map_eq_pure_bind]
    refine wpAny_bind (wpAny_bind (wpAny_bind (kas_mapM (r := .type "int") _ (fun v hv Q' hq => by
      obtain ⟨n, t, rfl⟩ := hint v hv
      exact wpAny_pure hq) (wpAny_pure ?_))))
    have hall2 : ((List.map (fun _ => Value.type "int") (os.filterMap id)).toArray.all fun x => x == Value.type "int") = true := by
      simp only [List.all_toArray, List.all_map, List.all_eq_true]
      intro _ _
      rfl
    have hpos : 0 < (os.filterMap id).length := by
      rw [hlen, hos.len, ← Paired.length p]
      omega
    have h0 : (List.map (fun _ => Value.type "int") (os.filterMap id)).toArray[0]? = some (Value.type "int") := by
      simp [hpos]
    rw [h0]
    simp only [hall2, if_true]
    refine wpAny_pure (wpAny_pure ?_)
    have e : (Option.any (fun x : Value => x != .type "tuple") (some (Value.type "int"))) = true := by first | rfl | decide +kernel
    rw [e]
    exact h
  · rw [if_neg c1]
    rw [if_neg (a1 ▸ c1)] at h
    by_cases c2 : ((os.toArray[0]?.bind id).isSome) = true
    · rw [if_pos c2]
      rw [if_pos (a2 ▸ c2)] at h
      exact wpAny_pure h
    · rw [if_neg (a2 ▸ c2)] at h
      rw [if_neg c2, oneTypeOnly'_eq, List.mapM_toArray, map_eq_pure_bind]
      refine wpAny_bind (wpAny_bind (wpAny_bind (kas_mapM (r := .type "tuple") _ (fun v hv Q' hq => (hty v hv).here hq) (wpAny_pure ?_))))
      have hall2 : ((List.map (fun _ => Value.type "tuple") vs).toArray.all fun x => x == Value.type "tuple") = true := by
        simp only [List.all_toArray, List.all_map, List.all_eq_true]
        intro _ _
        rfl
      have h0 : (List.map (fun _ => Value.type "tuple") vs).toArray[0]? = some (Value.type "tuple") := by
        have : 0 < vs.length := by omega
        simp [this]
      rw [h0]
      simp only [hall2, if_true]
      exact wpAny_pure (wpAny_pure h)
end
section
variable {prog : Program} {w : World} {A : Around} {E : Value → Shared → Prop} {s : Shared}
theorem lex_run {b : Bool} {Q : Bool → Shared → Prop} : ∀ {xs ys : List Value} {ns ms : List Int} (i : Nat) {fin : Bool}, IntsAre xs ns → IntsAre ys ms → (fin = true ↔ xs.length < ys.length) → Q (HT.lexLt ns ms) s → KatLex prog w A b fin Q (xs.zip ys) i s
  | _, _, _, _, i, fin, .nil, .nil, hf, h => by
    have : fin = false := by
      cases fin with
      | false => rfl
      | true => exact absurd (hf.mp rfl) (by simp)
    rw [this]
    exact kat_nil h
  | _, _, _, _, i, fin, .nil, .cons q u hy, hf, h => by
    have : fin = true := hf.mpr (by simp)
    rw [this]
    exact kat_nil h
  | _, _, _, _, i, fin, .cons p t hx, .nil, hf, h => by
    have : fin = false := by
      cases fin with
      | false => rfl
      | true => exact absurd (hf.mp rfl) (by simp)
    rw [this]
    exact kat_nil h
  | _, _, _, _, i, fin, .cons (vs := xs) (ns := ns) p t hx, .cons (vs := ys) (ns := ms) q u hy, hf, h => by
    rw [HT.lexLt_cons] at h
    show KatLex prog w A b fin Q ((Value.int p t, Value.int q u) :: xs.zip ys) i s
    refine kat_cons (wpAny_eqBool_int ?_)
    by_cases e : p = q
    · subst e
      rw [beq_self_eq_true]
      rw [if_pos rfl] at h
      exact kat_yes (lex_run (i + 1) hx hy (by rw [hf, List.length_cons, List.length_cons]; omega) h)
    · rw [show (p == q) = false from beq_eq_false_iff_ne.mpr e]
      rw [if_neg e] at h
      exact kat_no (TS.oneLt_ints _ h)
theorem lt_call {a b : Addr} {items items2 : Array Value} {ns ms : List Int} {Q : Value → Shared → Prop} (hl : IsTup s.heap a items) (hb : IsTup s.heap b items2) (ia : IntsAre items.toList ns) (ib : IntsAre items2.toList ms) (h : Q (.bool (HT.lexLt ns ms)) s) :
    wpAny (model prog w) A (call (.builtin "tuple.__lt__") [.ref a, .ref b]) Q E s := by
  obtain ⟨⟨cls, dd, data, sl⟩, ho, hc, n, hd⟩ := id hl
  obtain ⟨⟨cls2, dd2, data2, sl2⟩, ho2, hc2, n2, hd2⟩ := id hb
  simp only at hc hd hc2 hd2
  subst hc hd hc2 hd2
  refine wpAny_call (codeAny_call_builtin PySem.F.slot_tuple_lt.plain PySem.F.entry_tuple_lt (PySem.F.slot_tuple_lt.check _ _ _ _ _ _ _ _ ⟨_, ho, rfl⟩ (PySem.F.args_tuple_lt_2 _ _) ?_))
  refine wpAny_mono (HT.tuple_lt_ints a b items items2 n n2 dd dd2 sl sl2 ns ms ia ib prog w _ (wants Q E) s ⟨ho, ho2, h⟩) (fun fin s' q => ?_) fun _ _ z => z
  cases fin with
  | done f => exact q
  | again c => exact q
theorem lt_one {f : Bool} {v u : Value} {ns ms : List Int} {Q : Bool → Shared → Prop} (hu : A.units < cLine) (hv : TS.TupInts s.heap v ns) (hw : TS.TupInts s.heap u ms) (h : Q (HT.lexLt ns ms) s) : wpAny (model prog w) A (oneLt' f v u) Q E s := by
  obtain ⟨a, xs, rfl, pa, ia⟩ := hv
  obtain ⟨b, ys, rfl, pb, ib⟩ := hw
  cases f with
  | false => exact kat_one _ _ (HT.lt_tupInts pa pb ia ib hu h)
  | true =>
    have sp : Looks (model prog w) s.heap (specialOf (.ref a) "__lt__") (some (.builtin "tuple.__lt__")) := by
      obtain ⟨o, ho, hc, n, hd⟩ := pa
      have q : Looks (model prog w) s.heap (typeOf (.ref a)) (.type "tuple") := by
        have z : Looks (model prog w) s.heap (typeOf (.ref a)) o.cls := (Looks.ld ho).andThen .now
        rwa [hc] at z
      exact q.andThen (Looks.of_pure PySem.F.slot_tuple_lt.lookup)
    rw [oneLt'_eq]
    simp only [if_true]
    refine wpAny_bind (wpAny_cRoomFor hu ?_)
    refine wpAny_bind (NtL.csib (E := E) sp (PySem.F.slot_tuple_lt.bind _) (lt_call pa pb ia ib ?_))
    exact wpAny_truthy_bool h
theorem cmp_run {κ : SortKind} (hκ : WayOf κ) {v u : Value} {ns ms : List Int} {Q : Bool → Shared → Prop} (hu : A.units < cLine) (hv : TS.TupInts s.heap v ns) (hw : TS.TupInts s.heap u ms) (h : Q (HT.lexLt ns ms) s) : wpAny (model prog w) A (keyLt' κ v u) Q E s := by
  rcases hκ with rfl | rfl | rfl
  · obtain ⟨a, xs, rfl, ⟨o, ho, hc, n, hd⟩, ia⟩ := hv
    obtain ⟨b, ys, rfl, ⟨o2, ho2, hc2, n2, hd2⟩, ib⟩ := hw
    exact kat_lt ho hd ho2 hd2 (lex_run 0 ia ib (by rw [decide_eq_true_eq, Array.length_toList, Array.length_toList]) h)
  · exact lt_one (f := false) hu hv hw h
  · exact lt_one (f := true) hu hv hw h
theorem sortable {a : Addr} {vs : List Value} (h2 : 2 ≤ vs.length) (hu : A.units < cLine) (hv : ∀ v ∈ vs, TS.TupInts s.heap v (TS.intsOf s.heap v)) (ha : ∀ o, s.heap.get? a = some o → o.cls ≠ .type "tuple") : SrtO.SortableO prog w A s a vs fun v u => HT.lexLt (TS.intsOf s.heap v) (TS.intsOf s.heap u) := by
  intro h' keep
  have hv' : ∀ v ∈ vs, TS.TupInts h' v (TS.intsOf s.heap v) := fun v hm => (hv v hm).keeps fun b o e c => keep b o (fun z => by subst z; exact ha o e c) e
  have pr : ∀ l : List Value, (∀ v ∈ l, v ∈ vs) → Paired (fun v ns => TS.TupInts h' v ns) l (l.map fun v => TS.intsOf s.heap v) := by
    intro l
    induction l with
    | nil => intro _; exact .nil
    | cons v r ih => intro q; exact .cons (hv' v (q v List.mem_cons_self)) (ih fun u hu => q u (List.mem_cons_of_mem _ hu))
  refine ⟨wayOf (vs.map fun v => TS.intsOf s.heap v), fun Q E hq => kind_run (s := { s with heap := h' }) h2 (pr vs fun _ h => h) hq, ?_⟩
  intro p q hp hq
  exact cmp_run (s := { s with heap := h' }) (Q := fun r s' => s' = { s with heap := h' } ∧ r = HT.lexLt (TS.intsOf s.heap p.1) (TS.intsOf s.heap q.1)) (wayOf_is _) hu (hv' p.1 hp) (hv' q.1 hq) ⟨rfl, rfl⟩
end
end TI
namespace L2
open PySem PySem.Spec PyProof.Rows
theorem paired_ks {K : PySem.W.Frag} {H : Hp} {h : Heap} {Ψ : V → List Int → Prop} : ∀ {xs : List V} {ks : List (List Int)} {us : List Value}, Vals xs us → Paired (fun x k => (∃ t, x = V.ref t ∧ SqT K H t (k.map V.int)) ∧ Ψ x k) xs ks →
    (∀ (t : Addr) (k : List Int), SqT K H t (k.map V.int) → TS.TupInts h (.ref t) k) → ks = us.map (TS.intsOf h) ∧ ∀ u ∈ us, ∃ t, u = Value.ref t ∧ TS.TupInts h u (TS.intsOf h u) ∧ Ψ (.ref t) (TS.intsOf h u)
  | _, _, _, .nil, .nil, _ => ⟨rfl, fun u hu => absurd hu (by simp)⟩
  | _, _, _, .cons r1 r2, .cons (b := k) ⟨⟨t, e, ht⟩, hψ⟩ p2, ti => by
    subst e
    cases r1
    have h1 := ti t k ht
    obtain ⟨e1, e2⟩ := paired_ks r2 p2 ti
    have e3 := h1.ints
    refine ⟨by rw [List.map_cons, ← e1, e3], fun u hu => ?_⟩
    rcases List.mem_cons.mp hu with rfl | hu
    · exact ⟨t, rfl, by rw [e3]; exact h1, by rw [e3]; exact hψ⟩
    · exact e2 u hu
theorem paired_out {h : Heap} {Ψ : V → List Int → Prop} : ∀ {us : List Value}, (∀ u ∈ us, ∃ t, u = Value.ref t ∧ TS.TupInts h u (TS.intsOf h u) ∧ Ψ (.ref t) (TS.intsOf h u)) → Paired Ψ (us.map backV) (us.map (TS.intsOf h))
  | [], _ => .nil
  | u :: us, hu => by
    obtain ⟨t, e, _, q⟩ := hu u List.mem_cons_self
    subst e
    exact .cons q (paired_out fun v hv => hu v (List.mem_cons_of_mem _ hv))
section
variable {X : Cx}
end
end L2
namespace Dn
open PySem PySem.Spec L2
def lexLe (a b : List Int) : Bool := !HT.lexLt b a
theorem lexLe_total (a b : List Int) : (lexLe a b || lexLe b a) = true := by
  unfold lexLe
  cases h : HT.lexLt b a with
  | false => rfl
  | true => rw [NtL.lex_asym b a h]; rfl
theorem lexLe_trans (a b c : List Int) (h1 : lexLe a b = true) (h2 : lexLe b c = true) : lexLe a c = true := by
  unfold lexLe at *
  rw [NtL.lex_tr a b c (by simpa using h1) (by simpa using h2)]
  rfl
theorem lex_eq : ∀ {a b : List Int}, HT.lexLt a b = false → HT.lexLt b a = false → a = b
  | [], [], _, _ => rfl
  | [], y :: ys, h, _ => by rw [HT.lexLt_nil_cons] at h; cases h
  | x :: xs, [], _, h => by rw [HT.lexLt_nil_cons] at h; cases h
  | x :: xs, y :: ys, h1, h2 => by
    rw [HT.lexLt_cons] at h1 h2
    by_cases e : x = y
    · subst e
      rw [if_pos rfl] at h1 h2
      rw [lex_eq h1 h2]
    · rw [if_neg e] at h1
      rw [if_neg (fun q => e q.symm)] at h2
      have a := of_decide_eq_false h1
      have b := of_decide_eq_false h2
      omega
def Srt (l : List (List Int)) : Prop := l.Pairwise fun p q => HT.lexLt q p = false
theorem srt_uniq : ∀ {l m : List (List Int)}, Srt l → Srt m → l.Perm m → l = m
  | [], m, _, _, h => (List.Perm.eq_nil h.symm).symm
  | x :: l, [], _, _, h => absurd h.length_eq (by simp)
  | x :: l, y :: m, hl, hm, h => by
    have h1 : HT.lexLt x y = false := by
      rcases List.mem_cons.mp (h.mem_iff.mp (List.mem_cons_self (a := x) (l := l))) with e | hx
      · rw [e]
        exact (NtL.swo_lexL (α := List Int) id).refl y
      · exact (List.pairwise_cons.mp hm).1 x hx
    have h2 : HT.lexLt y x = false := by
      rcases List.mem_cons.mp (h.mem_iff.mpr (List.mem_cons_self (a := y) (l := m))) with e | hy
      · rw [e]
        exact (NtL.swo_lexL (α := List Int) id).refl x
      · exact (List.pairwise_cons.mp hl).1 y hy
    have e := lex_eq h1 h2
    subst e
    rw [srt_uniq (List.pairwise_cons.mp hl).2 (List.pairwise_cons.mp hm).2 h.cons_inv]
def sortL (l : List (List Int)) : List (List Int) := l.mergeSort lexLe
theorem sortL_perm (l : List (List Int)) : (sortL l).Perm l := List.mergeSort_perm l lexLe
theorem sortL_srt (l : List (List Int)) : Srt (sortL l) := by
  have h := List.pairwise_mergeSort (le := lexLe) (fun a b c => lexLe_trans a b c) (fun a b => lexLe_total a b) l
  exact h.imp fun {a b} q => by
    unfold lexLe at q
    simpa using q
/-- a sorted list of the same items is what sorted tells -/
theorem sortL_is {l m : List (List Int)} (h : Srt m) (p : m.Perm l) : sortL l = m := srt_uniq (sortL_srt l) h ((sortL_perm l).trans p.symm)
def tupsOf : List PyData → Option (List (List Int))
  | [] => some []
  | .tuple xs :: r => match intsOf xs, tupsOf r with
    | some ns, some ks => some (ns :: ks)
    | _, _ => none
  | _ :: _ => none
abbrev tupI (ns : List Int) : PyData := .tuple (ns.map PyData.int)
theorem intsOf_map : ∀ ns : List Int, intsOf (ns.map PyData.int) = some ns
  | [] => rfl
  | n :: r => by
    rw [List.map_cons]
    unfold intsOf
    rw [intsOf_map r]
    rfl
theorem tupsOf_map : ∀ ks : List (List Int), tupsOf (ks.map tupI) = some ks
  | [] => rfl
  | k :: r => by
    rw [List.map_cons]
    unfold tupsOf
    rw [intsOf_map k, tupsOf_map r]
def oSortT : Op1
  | .list ds => match tupsOf ds with
    | some ks => some (.own ((sortL ks).map tupI))
    | none => none
  | _ => none
@[simp] theorem oSortT_list {ks : List (List Int)} : oSortT (.list (ks.map tupI)) = some (.own ((sortL ks).map tupI)) := by
  show (match tupsOf (ks.map tupI) with
    | some ks => some (RV.own ((sortL ks).map tupI))
    | none => none) = _
  rw [tupsOf_map]
end Dn
namespace L2
open PySem PySem.Spec PyProof.Rows
end L2
namespace Dn
open PySem PySem.Spec L2
end Dn
end
section
set_option maxHeartbeats 4000000
namespace Dn
open PySem PySem.Spec L2
mutual
def bare : PyData → Bool
  | .list xs => bareAll xs
  | .tuple xs => bareAll xs
  | .dict kvs => bareKv kvs
  | _ => true
def bareAll : List PyData → Bool
  | [] => true
  | x :: xs => bare x && bareAll xs
def bareKv : List (PyData × PyData) → Bool
  | [] => true
  | (k, v) :: r => bareKey k && bare v && bareKv r
def bareKey : PyData → Bool
  | .int _ => true
  | .str _ => true
  | _ => false
end
structure Rp (P : Program) (w : World) (h : Heap) (u : Value) (d : PyData) : Prop where
  ok : ∃ as bs, Reads h u d as ∧ ReadAtMost h d.depth bs ∧ ReprK P w bs h d.depth u d.shown
structure RpAll (P : Program) (w : World) (h : Heap) (us : List Value) (ds : List PyData) : Prop where
  ok : ∃ as bs, ReadsAll h us ds as ∧ ReadAtMost h (PyData.depthAll ds) bs ∧ ReprAllK P w bs h (PyData.depthAll ds) us (PyData.shownAll ds)
theorem read_up {h : Heap} {n m : Nat} {bs : List Addr} (q : ReadAtMost h n bs) (l : n ≤ m) : ReadAtMost h m bs := fun b hb => by
  obtain ⟨d, as, r, k⟩ := q b hb
  exact ⟨d, as, r, by omega⟩
theorem read_or {h : Heap} {n : Nat} {bs cs : List Addr} (q : ReadAtMost h n bs) (r : ReadAtMost h n cs) : ReadAtMost h n (bs ++ cs) := fun b hb => by
  rcases List.mem_append.mp hb with hb | hb
  · exact q b hb
  · exact r b hb
theorem read_one {h : Heap} {a : Addr} {d : PyData} {as bs : List Addr} {n : Nat} (r : Reads h (.ref a) d as) (l : n ≤ d.depth) (q : ReadAtMost h n bs) : ReadAtMost h d.depth (a :: bs) := fun b hb => by
  rcases List.mem_cons.mp hb with e | hb
  · exact ⟨d, as, e ▸ r, Nat.le_refl _⟩
  · exact read_up q l b hb
theorem read_not {h : Heap} {a : Addr} {d : PyData} {as bs : List Addr} {n : Nat} (r : Reads h (.ref a) d as) (l : n < d.depth) (q : ReadAtMost h n bs) : a ∉ bs := fun hm => by
  obtain ⟨e, cs, r2, k⟩ := q a hm
  have := (PyProof.Rows.reads_det (fun _ _ z _ => z) r r2).1
  rw [this] at k
  omega
section
variable {X : Cx} {pins : List (Addr × Obj)} {σ : St} {H : Hp} {s : Shared}
theorem pairs_kv {P : Program} {w : World} : ∀ {es : List DictEntry} {vs : List (Key × Value)}, Pairs (mixKind P w) es vs → Vals (vs.map fun p => kV p.1) (es.map (·.key)) ∧ es.map (·.val) = vs.map (·.2)
  | _, _, .nil => ⟨.nil, rfl⟩
  | _, _, .cons (e := e) (kv := kv) h1 h2 r => by
    obtain ⟨k1, k2⟩ := pairs_kv r
    refine ⟨.cons ?_ k1, by rw [List.map_cons, List.map_cons, h2, k2]⟩
    show RelV (kV kv.1) e.key
    rcases keyIs_shape (show keyIs kv.1 e.key = true from h1) with ⟨i, t, ek, ev⟩ | ⟨z, t, ek, ev⟩
    · rw [ek, ev]
      exact ⟨t, rfl⟩
    · rw [ek, ev]
      exact ⟨t, rfl⟩
theorem kv_vals : ∀ {xs : List (Key × V)} {vs : List (Key × Value)}, KV xs vs → Vals (xs.map (·.2)) (vs.map (·.2))
  | _, _, .nil => .nil
  | _, _, .cons h r => .cons h.2 (kv_vals r)
theorem kt_vals {H : Hp} : ∀ {xs : List (List Key × V)} {vs : List (List Key × Addr × Value)}, KT H xs vs → Vals (xs.map (·.2)) (vs.map (·.2.2))
  | _, _, .nil => .nil
  | _, _, .cons h r => .cons h.2.2 (kt_vals r)
/-- a dict as it lies there -/
theorem dict_at (I : Inv X pins σ H s) {a : Addr} {ks : List (PyData × PyData)} (d : DR X.K H (.ref a) (.dict ks)) (nb : bareKv ks = true) : (a == sysModules) = false ∧ ∃ o es n, s.heap.get? a = some o ∧ o.cls = .type "dict" ∧ o.data = .dict es n ∧
    ∃ vk vv, Vals vk (es.toList.map (·.key)) ∧ DRs X.K H vk (ks.map (·.1)) ∧ Vals vv (es.toList.map (·.val)) ∧ DRs X.K H vv (ks.map (·.2)) := by
  cases d with
  | @dic _ xs _ e k r =>
    obtain ⟨hz, h2, vs, kv, o, es, ep, h3, h4, h5, _, h6, _⟩ := dk_of I.hok e
    obtain ⟨q1, q2⟩ := pairs_kv h6
    refine ⟨h2, o, es, ep, h3, h4.1, h5, vs.map (fun p => kV p.1), xs.map (·.2), q1, ?_, by rw [q2]; exact kv_vals kv, r⟩
    have e2 : (vs.map fun p => kV p.1) = xs.map fun p => kV p.1 := by
      have := congrArg (List.map kV) kv.keys
      rw [List.map_map, List.map_map] at this
      exact this.symm
    rw [e2, k]
    clear hz e k r kv h6 q1 q2 e2
    induction xs with
    | nil => exact .nil
    | cons x xs ih =>
      refine .cons ?_ ih
      obtain ⟨x1, x2⟩ := x
      cases x1 with
      | inl i => exact .int i
      | inr z => exact .str z
  | exc h1 h2 h3 h4 => simp [bareKv, bareKey] at nb
  | dit h1 h2 h3 => simp [bareKv, bareKey] at nb
theorem keys_rp {K : PySem.W.Frag} (P : Program) (w : World) (h : Heap) : ∀ {ks : List (PyData × PyData)} {vk : List V} {us : List Value}, DRs K H vk (ks.map (·.1)) → Vals vk us → bareKv ks = true → PyData.showableAll (ks.map (·.1)) = true → (∀ t ∈ PyData.shownAll (ks.map (·.1)), t.length ≤ sizeLine) → RpAll P w h us (ks.map (·.1))
  | [], _, _, d, r, _, _, _ => by
    cases d
    cases r
    exact ⟨[], [], ReadsAll.nil, (fun _ z => nomatch z), by simp only [List.map_nil, PyData.shownAll]; exact .nil⟩
  | (k, v) :: ks, _, us, d, r, nb, sh, z => by
    cases d with
    | cons h1 h2 =>
      cases r with
      | cons r1 r2 =>
        have n2 : (bareKey k = true ∧ bare v = true) ∧ bareKv ks = true := by simpa [bareKv] using nb
        have s2 : k.showable = true ∧ PyData.showableAll (ks.map (·.1)) = true := by simpa [PyData.showableAll] using sh
        have zk : k.shown.length ≤ sizeLine := z _ (by simp only [List.map_cons, PyData.shownAll]; exact List.mem_cons_self)
        obtain ⟨as, bs, q1, q2, q3⟩ := (keys_rp P w h h2 r2 n2.2 s2.2 fun t ht => z t (by simp only [List.map_cons, PyData.shownAll]; exact List.mem_cons_of_mem _ ht)).ok
        rename_i u0 _
        have one : Rp P w h u0 k := by
          cases k <;> try (simp [bareKey] at n2; done)
          · cases h1
            obtain ⟨t, rfl⟩ := r1
            exact ⟨[], [], Reads.int _ t, (fun _ z => nomatch z), by simp only [PyData.shown]; exact .of_is (ReprIs.int t (by simpa [PyData.showable] using s2.1)) _ _ _⟩
          · cases h1
            obtain ⟨t, rfl⟩ := r1
            exact ⟨[], [], Reads.str _ t, (fun _ z => nomatch z), by simp only [PyData.shown]; exact .of_is (ReprIs.str _ t (by simpa only [PyData.shown] using zk)) _ _ _⟩
        obtain ⟨cs, es, k1, k2, k3⟩ := one.ok
        refine ⟨cs ++ as, es ++ bs, ReadsAll.cons k1 q1, ?_, ?_⟩
        · simp only [List.map_cons, PyData.depthAll]
          exact read_or (read_up k2 (by omega)) (read_up q2 (by omega))
        · simp only [List.map_cons, PyData.depthAll, PyData.shownAll]
          refine .cons ((k3.more fun b hb => List.mem_append_left _ hb).level_le (by omega)) (q3.more_le (fun b hb => List.mem_append_right _ hb) (by omega))
mutual
theorem DR.rp (I : Inv X pins σ H s) : ∀ (d : PyData) (v : V) (u : Value), DR X.K H v d → RelV v u → bare d = true → d.showable = true → d.shown.length ≤ sizeLine → Rp X.prog X.w s.heap u d
  | .none, v, u, h, r, _, _, _ => by
    cases h
    cases r
    exact ⟨[], [], Reads.none, (fun _ z => nomatch z), by simp only [PyData.shown]; exact .of_is ReprIs.none _ _ _⟩
  | .bool b, v, u, h, r, _, _, _ => by
    cases h
    cases r
    exact ⟨[], [], Reads.bool b, (fun _ z => nomatch z), by simp only [PyData.shown]; exact .of_is (ReprIs.bool b) _ _ _⟩
  | .int i, v, u, h, r, _, sh, _ => by
    cases h
    obtain ⟨t, rfl⟩ := r
    exact ⟨[], [], Reads.int i t, (fun _ z => nomatch z), by simp only [PyData.shown]; exact .of_is (ReprIs.int t (by simpa [PyData.showable] using sh)) _ _ _⟩
  | .str x, v, u, h, r, _, _, z => by
    cases h
    obtain ⟨t, rfl⟩ := r
    exact ⟨[], [], Reads.str x t, (fun _ z => nomatch z), by simp only [PyData.shown]; exact .of_is (ReprIs.str x t (by simpa only [PyData.shown] using z)) _ _ _⟩
  | .list ds, v, u, h, r, nb, sh, z => by
    cases h with
    | lst h1 h2 =>
      rename_i a xs
      cases r
      obtain ⟨its, rv, ⟨o, n, ho, hc, _, hd⟩, _⟩ := I.list (.inl (.inl h1) : SqL X.K H a xs)
      have z2 : (listText (PyData.shownAll ds)).length ≤ sizeLine := by simpa only [PyData.shown] using z
      obtain ⟨as, bs, q1, q2, q3⟩ := (DRs.rp I ds xs its h2 rv (by simpa [bare] using nb) (by simpa [PyData.showable] using sh) fun t ht => Nat.le_trans (listText_mem_le ht) z2).ok
      have rd : Reads s.heap (.ref a) (.list ds) (a :: as) := Reads.list ho hc hd q1
      have na : a ∉ bs := read_not rd (by simp only [PyData.depth]; omega) q2
      refine ⟨a :: as, a :: bs, rd, read_one rd (by simp only [PyData.depth]; omega) q2, ?_⟩
      simp only [PyData.depth, PyData.shown]
      cases its with
      | nil =>
        cases q1
        simp only [PyData.shownAll, listText_nil]
        exact ReprK.listEmpty ho hc hd
      | cons x l => exact ReprK.list ho hc hd na (by simpa using q3.length_eq) fun i y e => q3.item i y (by simpa using e)
  | .tuple ds, v, u, h, r, nb, sh, z => by
    cases h with
    | tup h1 h2 =>
      rename_i a xs
      cases r
      obtain ⟨its, rv, ⟨o, ho, hc, n, hd⟩, _⟩ := I.tuple h1
      have z2 : (tupleText (PyData.shownAll ds)).length ≤ sizeLine := by simpa only [PyData.shown] using z
      obtain ⟨as, bs, q1, q2, q3⟩ := (DRs.rp I ds xs its h2 rv (by simpa [bare] using nb) (by simpa [PyData.showable] using sh) fun t ht => Nat.le_trans (tupleText_mem_le ht) z2).ok
      have rd : Reads s.heap (.ref a) (.tuple ds) as := Reads.tuple ho hc hd q1
      have na : a ∉ bs := read_not rd (by simp only [PyData.depth]; omega) q2
      refine ⟨as, a :: bs, rd, read_one rd (by simp only [PyData.depth]; omega) q2, ?_⟩
      simp only [PyData.depth, PyData.shown]
      exact ReprK.tuple ho hc hd na q3
  | .dict ks, v, u, h, r, nb, sh, z => by
    have nb2 : bareKv ks = true := by simpa [bare] using nb
    have ha : ∃ a, v = .ref a := by cases h <;> exact ⟨_, rfl⟩
    obtain ⟨a, rfl⟩ := ha
    cases r
    obtain ⟨e1, o, es, n, e2, e3, e4, vk, vv, q1, q2, q3, q4⟩ := dict_at I h nb2
    obtain ⟨hs1, hs2⟩ := PyData.showableKv_split ks (by simpa [PyData.showable] using sh)
    have z2 : (dictText (PyData.shownKv ks)).length ≤ sizeLine := by simpa only [PyData.shown] using z
    obtain ⟨as, bs, y1, y2, y3⟩ := (keys_rp X.prog X.w s.heap q2 q1 nb2 hs1 fun t ht => let ⟨p, hp, hl⟩ := PyData.shownKv_key_le ks t ht; Nat.le_trans hl (Nat.le_trans (dictText_mem_le hp) z2)).ok
    obtain ⟨cs, ds, x1, x2, x3⟩ := (DRk.rp I ks vv _ q4 q3 nb2 hs2 fun t ht => let ⟨p, hp, hl⟩ := PyData.shownKv_val_le ks t ht; Nat.le_trans hl (Nat.le_trans (dictText_mem_le hp) z2)).ok
    have rd : Reads s.heap (.ref a) (.dict ks) (a :: as ++ cs) := Reads.dict e2 e3 e4 y1 x1
    have hb : ReadAtMost s.heap (PyData.depthKv ks) (bs ++ ds) := read_or (read_up y2 (PyData.depthAll_keys_le ks)) (read_up x2 (PyData.depthAll_vals_le ks))
    have na : a ∉ bs ++ ds := read_not rd (by simp only [PyData.depth]; omega) hb
    refine ⟨_, a :: (bs ++ ds), rd, read_one rd (by simp only [PyData.depth]; omega) hb, ?_⟩
    simp only [PyData.depth, PyData.shown, PyData.shownKv_eq]
    exact ReprK.dict e2 e3 e4 e1 na (ReprEntriesK.of_two es.toList _ _ (y3.more_le (fun b hb => List.mem_append_left _ hb) (PyData.depthAll_keys_le ks)) (x3.more_le (fun b hb => List.mem_append_right _ hb) (PyData.depthAll_vals_le ks)))
theorem DRs.rp (I : Inv X pins σ H s) : ∀ (ds : List PyData) (vs : List V) (us : List Value), DRs X.K H vs ds → Vals vs us → bareAll ds = true → PyData.showableAll ds = true → (∀ t ∈ PyData.shownAll ds, t.length ≤ sizeLine) → RpAll X.prog X.w s.heap us ds
  | [], _, _, h, r, _, _, _ => by
    cases h
    cases r
    exact ⟨[], [], ReadsAll.nil, (fun _ z => nomatch z), by simp only [PyData.shownAll]; exact .nil⟩
  | d :: ds, _, _, h, r, nb, sh, z => by
    cases h with
    | cons h1 h2 =>
      cases r with
      | cons r1 r2 =>
        have n2 : bare d = true ∧ bareAll ds = true := by simpa [bareAll] using nb
        have s2 : d.showable = true ∧ PyData.showableAll ds = true := by simpa [PyData.showableAll] using sh
        obtain ⟨as, bs, q1, q2, q3⟩ := (DR.rp I d _ _ h1 r1 n2.1 s2.1 (z _ (by simp only [PyData.shownAll]; exact List.mem_cons_self))).ok
        obtain ⟨cs, es, k1, k2, k3⟩ := (DRs.rp I ds _ _ h2 r2 n2.2 s2.2 fun t ht => z t (by simp only [PyData.shownAll]; exact List.mem_cons_of_mem _ ht)).ok
        refine ⟨as ++ cs, bs ++ es, ReadsAll.cons q1 k1, ?_, ?_⟩
        · simp only [PyData.depthAll]
          exact read_or (read_up q2 (by omega)) (read_up k2 (by omega))
        · simp only [PyData.depthAll, PyData.shownAll]
          refine .cons ((q3.more fun b hb => List.mem_append_left _ hb).level_le (by omega)) (k3.more_le (fun b hb => List.mem_append_right _ hb) (by omega))
theorem DRk.rp (I : Inv X pins σ H s) : ∀ (ds : List (PyData × PyData)) (vs : List V) (us : List Value), DRs X.K H vs (ds.map (·.2)) → Vals vs us → bareKv ds = true → PyData.showableAll (ds.map (·.2)) = true → (∀ t ∈ PyData.shownAll (ds.map (·.2)), t.length ≤ sizeLine) → RpAll X.prog X.w s.heap us (ds.map (·.2))
  | [], _, _, h, r, _, _, _ => by
    cases h
    cases r
    exact ⟨[], [], ReadsAll.nil, (fun _ z => nomatch z), by simp only [List.map_nil, PyData.shownAll]; exact .nil⟩
  | (k, d) :: ds, _, _, h, r, nb, sh, z => by
    cases h with
    | cons h1 h2 =>
      cases r with
      | cons r1 r2 =>
        have n2 : (bareKey k = true ∧ bare d = true) ∧ bareKv ds = true := by simpa [bareKv] using nb
        have s2 : d.showable = true ∧ PyData.showableAll (ds.map (·.2)) = true := by simpa [PyData.showableAll] using sh
        obtain ⟨as, bs, q1, q2, q3⟩ := (DR.rp I d _ _ h1 r1 n2.1.2 s2.1 (z _ (by simp only [List.map_cons, PyData.shownAll]; exact List.mem_cons_self))).ok
        obtain ⟨cs, es, k1, k2, k3⟩ := (DRk.rp I ds _ _ h2 r2 n2.2 s2.2 fun t ht => z t (by simp only [List.map_cons, PyData.shownAll]; exact List.mem_cons_of_mem _ ht)).ok
        refine ⟨as ++ cs, bs ++ es, ReadsAll.cons q1 k1, ?_, ?_⟩
        · simp only [List.map_cons, PyData.depthAll]
          exact read_or (read_up q2 (by omega)) (read_up k2 (by omega))
        · simp only [List.map_cons, PyData.depthAll, PyData.shownAll]
          refine .cons ((q3.more fun b hb => List.mem_append_left _ hb).level_le (by omega)) (k3.more_le (fun b hb => List.mem_append_right _ hb) (by omega))
end
end
theorem Top.dr {K : PySem.W.Frag} {g : Gh} {H HF : Hp} {v : V} {d : PyData} (t : Top K g H HF v d) (l : Le HF H) : DR K H v d := by
  rcases t with h | ⟨p, vs, ds, rfl, rfl, _, h4, h5⟩
  · exact h.mono l
  · exact .lst h4 (h5.mono l)
def rReprX (K : PySem.W.Frag) : List V → Hp → VK → Prop := fun xs H Q => ∃ x d, xs = [x] ∧ DR K H x d ∧ bare d = true ∧ d.showable = true ∧ d.depth ≤ 60 ∧ d.shown.length ≤ sizeLine ∧ Q (.str d.shown) H
theorem call_reprX {X : Cx} (hg : X.A.guards = some []) (hu : X.A.units + 64 < cLine) : CallR X (.builtin "repr") (rReprX X.K) := by
  intro pins s σ H xs us Q I rs h
  obtain ⟨x, d, e1, dr, nb, sh, dep, len, q⟩ := h
  subst e1
  obtain ⟨u, e2, ru⟩ := vals1 rs
  subst e2
  have fin : ∀ (G : Heap) (t : Nat) (tk : Tok), (∀ b o, s.heap.get? b = some o → G.get? b = some o) → EP X pins σ Q (.str d.shown tk) { s with heap := G, toks := t } :=
    fun G t tk k => ⟨.str d.shown, H, I.kept (t' := t) k, ⟨tk, rfl⟩, q⟩
  have un : ∀ n, n ≤ 61 → X.A.in1.units + n < cLine := fun n hn => by
    show X.A.units + 1 + n < cLine
    omega
  cases d with
  | none =>
    cases dr
    cases ru
    exact PySem.P.repr_of_none (fin s.heap _ _ fun _ _ e => e)
  | bool b =>
    cases dr
    cases ru
    refine PySem.P.repr_of_bool ?_
    have z := fin s.heap (s.toks + 1) s.toks fun _ _ e => e
    cases b <;> exact z
  | int i =>
    cases dr
    obtain ⟨t, rfl⟩ := ru
    exact PySem.P.repr_of_int (by simpa [PyData.showable] using sh) (fin s.heap _ _ fun _ _ e => e)
  | str y =>
    cases dr
    obtain ⟨t, rfl⟩ := ru
    exact PySem.P.repr_of_str (fin s.heap _ _ fun _ _ e => e) (by simpa [PyData.shown] using len)
  | list ds =>
    cases dr with
    | lst h1 h2 =>
      rename_i a vs
      cases ru
      obtain ⟨its, rv, ⟨o, n, ho, hc, _, hd⟩, _⟩ := I.list (.inl (.inl h1) : SqL X.K H a vs)
      simp only [PyData.shown] at fin len
      simp only [PyData.depth] at dep
      obtain ⟨as, bs, q1, q2, q3⟩ := (DRs.rp I ds vs its h2 rv (by simpa [bare] using nb) (by simpa [PyData.showable] using sh) fun t ht => Nat.le_trans (listText_mem_le ht) len).ok
      have rd : Reads s.heap (.ref a) (.list ds) (a :: as) := Reads.list ho hc hd q1
      have na : a ∉ bs := read_not rd (by simp only [PyData.depth]; omega) q2
      refine call_repr_slot (by omega) ⟨o, ho, hc⟩ F.slot_list_repr.toG ?_
      cases its with
      | nil =>
        cases q1
        refine call_list_repr_empty ⟨o, ho, hc⟩ ho hd ⟨_, _, rfl, ?_⟩
        simp only [PyData.shownAll, listText_nil] at fin
        exact fin s.heap _ _ fun _ _ e => e
      | cons x l =>
        exact call_list_reprK ho hc hd na (by simpa using q3.length_eq) (fun i y e => q3.item i y (by simpa using e)) (g := []) hg (fun b _ => Clear.nil b) (un _ (by omega)) (fun _ _ e => e) (fun G t tk k => ⟨_, _, rfl, fin G tk t k⟩) len
  | tuple ds =>
    cases dr with
    | tup h1 h2 =>
      rename_i a vs
      cases ru
      obtain ⟨its, rv, ⟨o, ho, hc, n, hd⟩, _⟩ := I.tuple h1
      simp only [PyData.shown] at fin len
      simp only [PyData.depth] at dep
      obtain ⟨as, bs, q1, q2, q3⟩ := (DRs.rp I ds vs its h2 rv (by simpa [bare] using nb) (by simpa [PyData.showable] using sh) fun t ht => Nat.le_trans (tupleText_mem_le ht) len).ok
      have rd : Reads s.heap (.ref a) (.tuple ds) as := Reads.tuple ho hc hd q1
      have na : a ∉ bs := read_not rd (by simp only [PyData.depth]; omega) q2
      refine call_repr_slot (by omega) ⟨o, ho, hc⟩ F.slot_tuple_repr ?_
      exact call_tuple_reprK ho hc hd na q3 (g := []) hg (fun b _ => Clear.nil b) (un _ (by omega)) (fun _ _ e => e) (fun G t tk k => ⟨_, _, rfl, fin G tk t k⟩) len
  | dict ks =>
    have nb2 : bareKv ks = true := by simpa [bare] using nb
    have ha : ∃ a, x = .ref a := by cases dr <;> exact ⟨_, rfl⟩
    obtain ⟨a, rfl⟩ := ha
    cases ru
    obtain ⟨e1, o, es, n, e2, e3, e4, vk, vv, q1, q2, q3, q4⟩ := dict_at I dr nb2
    obtain ⟨hs1, hs2⟩ := PyData.showableKv_split ks (by simpa [PyData.showable] using sh)
    have z2 : (dictText (PyData.shownKv ks)).length ≤ sizeLine := by simpa only [PyData.shown] using len
    obtain ⟨as, bs, y1, y2, y3⟩ := (keys_rp X.prog X.w s.heap q2 q1 nb2 hs1 fun t ht => let ⟨p, hp, hl⟩ := PyData.shownKv_key_le ks t ht; Nat.le_trans hl (Nat.le_trans (dictText_mem_le hp) z2)).ok
    obtain ⟨cs, ds, x1, x2, x3⟩ := (DRk.rp I ks vv _ q4 q3 nb2 hs2 fun t ht => let ⟨p, hp, hl⟩ := PyData.shownKv_val_le ks t ht; Nat.le_trans hl (Nat.le_trans (dictText_mem_le hp) z2)).ok
    have rd : Reads s.heap (.ref a) (.dict ks) (a :: as ++ cs) := Reads.dict e2 e3 e4 y1 x1
    have hb : ReadAtMost s.heap (PyData.depthKv ks) (bs ++ ds) := read_or (read_up y2 (PyData.depthAll_keys_le ks)) (read_up x2 (PyData.depthAll_vals_le ks))
    have na : a ∉ bs ++ ds := read_not rd (by simp only [PyData.depth]; omega) hb
    simp only [PyData.depth] at dep
    simp only [PyData.shown, PyData.shownKv_eq] at fin len
    refine call_repr_slot (by omega) ⟨o, e2, e3⟩ F.slot_dict_repr ?_
    exact call_dict_reprK e2 e3 e4 e1 na (ReprEntriesK.of_two es.toList _ _ (y3.more_le (fun b hb => List.mem_append_left _ hb) (PyData.depthAll_keys_le ks)) (x3.more_le (fun b hb => List.mem_append_right _ hb) (PyData.depthAll_vals_le ks))) (g := []) hg (fun b _ => Clear.nil b) (un _ (by omega)) (fun _ _ e => e) (fun G t tk k => ⟨_, _, rfl, fin G tk t k⟩) len
/-- may be shown, empty dicts within too -/
def showsX (d : PyData) : Bool := bare d && d.showable && decide (d.depth ≤ 60) && decide (d.shown.length ≤ 10000000)
def oReprX : Op1 := fun d => if showsX d = true then some (.dat (.str d.shown)) else none
theorem oReprX_ok {K : PySem.W.Frag} : UnOk K (fun v H Q => rReprX K [v] H Q) oReprX := fun g H HF f x d rv a t z Q k => by
  obtain ⟨c, rfl⟩ := ite_some z
  unfold showsX at c
  simp only [Bool.and_eq_true, decide_eq_true_eq] at c
  exact ⟨x, d, rfl, t.dr a.sub, c.1.1.1, c.1.1.2, c.1.2, Nat.le_trans c.2 (by decide), k.now a (.str _)⟩
section
variable {X : Cx} {W : Wish} {a : Expr} {fa : Ex} {p pos : Pos}
theorem de_reprX (gd : X.A.guards = some []) (hu : X.A.units + 64 < cLine) (hg : Gl X "repr") (hm : X.mg "repr" = none) (ha : DE X W a fa) (he : starEach [a] X.env = (false, eval a X.env) :: starEach [] X.env := by rfl) : DE X W (.Call (.Name "repr" p) [a] [] pos) (cUn oReprX fa) :=
  de_call1 (call_reprX gd hu) oReprX_ok hg hm (by decide +kernel) ha (by decide) (by decide) he
end
section
variable {X : Cx} {W : Wish} {a b : Expr} {fa fb : Ex} {pos : Pos}
end
end Dn
end
namespace SrtO
open PySem PySem.W PySem.Calls PyProof.Rows Builtin Srt
section
variable {prog : Program} {w : World} {A : Around} {E : Value → Shared → Prop} {s : Shared}
end
end SrtO
namespace L2
open PySem PySem.Spec PyProof.Rows
section
variable {X : Cx}
end
end L2
namespace Dn
open PySem PySem.Spec L2
/-- sorted of a tuple of tuples of whole numbers -/
def oSortTT : Op1
  | .tuple ds => match tupsOf ds with
    | some ks => some (.own ((sortL ks).map tupI))
    | none => none
  | _ => none
@[simp] theorem oSortTT_tup {ks : List (List Int)} : oSortTT (.tuple (ks.map tupI)) = some (.own ((sortL ks).map tupI)) := by
  show (match tupsOf (ks.map tupI) with
    | some ks => some (RV.own ((sortL ks).map tupI))
    | none => none) = _
  rw [tupsOf_map]
end Dn
namespace L2
open PySem PySem.Spec PyProof.Rows PySem.W PySem.Calls Builtin Srt
section
variable {P : Program} {w : World} {A : Around} {E : Value → Shared → Prop} {s : Shared}
end
section
variable {X : Cx}
end
end L2
namespace Dn
open PySem PySem.Spec L2
def ddp : List (List Int) → List (List Int)
  | [] => []
  | k :: r => if k ∈ r then ddp r else k :: ddp r
/-- sorted(set(xs)) -/
def oSortSet : Op1
  | .list ds => match tupsOf ds with
    | some ks => if ks.length < 64 then some (.own ((sortL (ddp ks)).map tupI)) else none
    | none => none
  | _ => none
section
variable {X : Cx} {W : Wish} {a : Expr} {fa : Ex} {p p2 pos pos2 : Pos}
end
@[simp] theorem oSortSet_list {ks : List (List Int)} : oSortSet (.list (ks.map tupI)) = if ks.length < 64 then some (.own ((sortL (ddp ks)).map tupI)) else none := by
  show (match tupsOf (ks.map tupI) with
    | some ks => if ks.length < 64 then some (RV.own ((sortL (ddp ks)).map tupI)) else none
    | none => none) = _
  rw [tupsOf_map]
end Dn
section
set_option maxHeartbeats 4000000
namespace L2
open PySem PySem.Spec PyProof.Rows PySem.W PySem.Calls Builtin Srt
section
variable {X : Cx}
theorem vals_of_intsA : ∀ {us : List Value} {ms : List Int}, IntsAre us ms → Vals (ms.map V.int) us
  | _, _, .nil => .nil
  | _, _, .cons k tk t => .cons ⟨tk, rfl⟩ (vals_of_intsA t)
def tSortSetI (K : PySem.W.Frag) (ta : TE) : TE := fun σ H Q => ta σ H fun x H1 => ∃ (l : Addr) (ns : List Int), x = V.ref l ∧ SqT K H1 l (ns.map V.int) ∧ ns.length ≤ 4000 ∧ (∃ m, m < 64 ∧ ∀ l : List Int, l.Nodup → (∀ k, k ∈ l → k ∈ ns) → l.length ≤ m) ∧
  ∀ (ms : List Int) (p : Addr), ms.Pairwise (· < ·) → (∀ k, k ∈ ms ↔ k ∈ ns) → H1 p = none → Q (.ref p) (upd H1 p (.lst (ms.map V.int)))
theorem pe_sortSetI {a : Expr} {ta : TE} {p p2 q pos : Pos} (hc : X.calm = true) (hg : Gl X "sorted") (hm : X.mg "sorted" = none) (hg2 : Gl X "set") (hm2 : X.mg "set" = none) (ha : PE X a ta)
    (na : starEach [a] X.env = (false, eval a X.env) :: starEach [] X.env := by rfl) : PE X (.Call (.Name "sorted" p) [.Call (.Name "set" p2) [a] [] q] [] pos) (tSortSetI X.K ta) := by
  refine ⟨fun pins s σ H Q I h => ?_⟩
  refine Call_ (ld_blt I hg hm (show bootBuiltins "sorted" = some (.builtin "sorted") by decide +kernel) ?_)
  refine PyProof.Rows.callWith_builtin1 (PyProof.Rows.args_cons ?_ rfl) rfl rfl
  refine Call_ (ld_blt I hg2 hm2 PyProof.Rows.boot_set ?_)
  refine PyProof.Rows.callWith_type1 (PyProof.Rows.args_cons (thn (ha.run pins s σ H _ I h) fun v s1 ⟨x, H1, I1, r1, q1⟩ => PyProof.Rows.args_nil ?_) na) na rfl
  obtain ⟨l, ns, rfl, hl, hf, ⟨m, m64, hm64⟩, q⟩ := q1
  cases r1
  obtain ⟨its, rv, pt, hz⟩ := I1.tuple hl
  have hi : IntsAre its.toArray.toList ns := ints_of_vals rv
  have hd := I1.ok.hd hc
  refine call_set_tupI ns hd (show s1.heap.IsTuple l its.toArray from pt) hi (by unfold scanBound; omega) fun h' tk c R1 hcn k => ?_
  refine PyProof.Rows.args_nil ?_
  have I2 : Inv X pins σ H1 { s1 with heap := h', toks := tk } := I1.kept fun b o e => k b o e
  have R2 : SetR X.w ({ s1 with heap := h', toks := tk } : Shared).heap s1.heap.objs.size (fun j => decide (j ∈ ns)) c := R1
  have c64 : c < 64 := by
    obtain ⟨o, es, ep, t, ho, hex, hd, g, nd, hm, hb, hf, hn, hr, hl⟩ := R1
    have := hm64 _ nd fun k hk => of_decide_eq_true ((hm k).mpr hk)
    rw [List.length_map, Array.length_toList] at this
    omega
  generalize ({ s1 with heap := h', toks := tk } : Shared) = s2 at I2 R2 ⊢
  refine sorted_set (s := s2) R2 (I2.ok.hd hc) c64 fun s' p out c2 ms k' g' o' hp hg' hout hri hmem hlen => ?_
  have hfew : (ms.map V.int).length ≤ sizeLine := by rw [List.length_map, sizeLine_eq, hlen]; omega
  have hn : H1 p = none := I2.hok.fresh hp
  have hv : Vals (ms.map V.int) out.toList := vals_of_intsA hout
  have J : Inv X pins σ (upd H1 p (.lst (ms.map V.int))) { s2 with heap := s'.heap, gens := s'.gens, drawn := s'.drawn, toks := s'.toks } :=
    I2.call (ch := []) (Un.laid k' hp hn) (I2.hok.laid k' hp ⟨hfew, out.toList, c2, hv, by simpa using hg'⟩) (by rw [g']; exact I2.bare) (fun _ z => nomatch z)
  have e : s' = { s2 with heap := s'.heap, gens := s'.gens, drawn := s'.drawn, toks := s'.toks } := by
    cases s'
    cases s2
    cases o'
    rfl
  rw [e]
  exact ⟨.ref p, _, J, rfl, q ms p hri (fun k => by rw [hmem k, decide_eq_true_eq]) hn⟩
end
end L2
namespace Dn
open PySem PySem.Spec L2
def ddi : List Int → List Int
  | [] => []
  | k :: r => if k ∈ r then ddi r else k :: ddi r
theorem ddi_mem : ∀ {l : List Int} {k : Int}, k ∈ ddi l ↔ k ∈ l
  | [], k => Iff.rfl
  | m :: r, k => by
    unfold ddi
    split
    · rename_i h
      rw [ddi_mem, List.mem_cons]
      exact ⟨.inr, fun q => q.elim (fun e => by rw [e]; exact h) id⟩
    · rw [List.mem_cons, List.mem_cons, ddi_mem]
theorem ddi_nodup : ∀ l : List Int, (ddi l).Nodup
  | [] => List.Pairwise.nil
  | m :: r => by
    unfold ddi
    split
    · exact ddi_nodup r
    · rename_i h
      exact List.nodup_cons.mpr ⟨fun q => h (ddi_mem.mp q), ddi_nodup r⟩
theorem len_sub : ∀ {l m : List Int}, l.Nodup → (∀ k, k ∈ l → k ∈ m) → l.length ≤ m.length
  | [], m, _, _ => Nat.zero_le _
  | x :: l, m, hn, h => by
    obtain ⟨h1, h2⟩ := List.nodup_cons.mp hn
    have hx := h x List.mem_cons_self
    have := len_sub (l := l) (m := m.erase x) h2 fun k hk => (List.mem_erase_of_ne (fun e => h1 (by rw [← e]; exact hk))).mpr (h k (List.mem_cons_of_mem _ hk))
    rw [List.length_erase_of_mem hx] at this
    have := List.length_pos_of_mem hx
    rw [List.length_cons]
    omega
/-- unlike numbers, rising -/
def riseI (l : List Int) : List Int := (ddi l).mergeSort fun x y => decide (x ≤ y)
theorem riseI_mem {l : List Int} {k : Int} : k ∈ riseI l ↔ k ∈ l := by
  unfold riseI
  rw [List.mem_mergeSort, ddi_mem]
theorem riseI_pw (l : List Int) : (riseI l).Pairwise (· < ·) := by
  have h := List.pairwise_mergeSort (le := fun x y : Int => decide (x ≤ y)) (fun a b c => by simp; omega) (fun a b => by simp; omega) (ddi l)
  have n : (riseI l).Nodup := (List.mergeSort_perm _ _).nodup_iff.mpr (ddi_nodup l)
  refine List.Pairwise.imp₂ (fun a b h1 h2 => ?_) h n
  have : a ≤ b := of_decide_eq_true h1
  omega
theorem rise_uniq : ∀ {a b : List Int}, a.Pairwise (· < ·) → b.Pairwise (· < ·) → (∀ k, k ∈ a ↔ k ∈ b) → a = b
  | [], [], _, _, _ => rfl
  | [], y :: b, _, _, h => absurd ((h y).mpr List.mem_cons_self) List.not_mem_nil
  | x :: a, [], _, _, h => absurd ((h x).mp List.mem_cons_self) List.not_mem_nil
  | x :: a, y :: b, ha, hb, h => by
    obtain ⟨a1, a2⟩ := List.pairwise_cons.mp ha
    obtain ⟨b1, b2⟩ := List.pairwise_cons.mp hb
    have e : x = y := by
      rcases List.mem_cons.mp ((h x).mp List.mem_cons_self) with e | e
      · exact e
      · rcases List.mem_cons.mp ((h y).mpr List.mem_cons_self) with e2 | e2
        · exact e2.symm
        · have := b1 x e
          have := a1 y e2
          omega
    subst e
    congr 1
    refine rise_uniq a2 b2 fun k => ⟨fun hk => ?_, fun hk => ?_⟩
    · rcases List.mem_cons.mp ((h k).mp (List.mem_cons_of_mem _ hk)) with e | e
      · have := a1 k hk
        omega
      · exact e
    · rcases List.mem_cons.mp ((h k).mpr (List.mem_cons_of_mem _ hk)) with e | e
      · have := b1 k hk
        omega
      · exact e
/-- sorted(set(xs)) of a tuple of whole numbers -/
def oSortSetI : Op1
  | .tuple ds => match intsOf ds with
    | some ns => if ns.length ≤ 4000 ∧ (ddi ns).length < 64 then some (.own ((riseI ns).map .int)) else none
    | none => none
  | _ => none
theorem drs_ints {K : PySem.W.Frag} {HF : Hp} : ∀ (ns : List Int), DRs K HF (ns.map V.int) (ns.map .int)
  | [] => .nil
  | n :: ns => .cons (.int n) (drs_ints ns)
section
variable {X : Cx} {W : Wish} {a : Expr} {fa : Ex} {p p2 pos pos2 : Pos}
theorem de_sortSetI (hc : X.calm = true) (hg : Gl X "sorted") (hm : X.mg "sorted" = none) (hg2 : Gl X "set") (hm2 : X.mg "set" = none) (ha : DE X W a fa) (na : starEach [a] X.env = (false, eval a X.env) :: starEach [] X.env := by rfl) :
    DE X W (.Call (.Name "sorted" p) [.Call (.Name "set" p2) [a] [] pos2] [] pos) (cUn oSortSetI fa) := pe_mono (pe_sortSetI hc hg hm hg2 hm2 ha na) fun σ H Q hq => by
  obtain ⟨g, HF, ρ, f, rel, q⟩ := hq
  unfold tSortSetI
  refine tD_pk rel q fun d f1 x G GF r1 s1 t1 q1 => ?_
  obtain ⟨rv, z, k⟩ := give_end r1.feed s1 q1
  have a : At X.K g G GF f1 := ⟨r1.sub, r1.feed⟩
  cases d <;> try cases z
  rename_i ds
  replace z : (match intsOf ds with
    | some ns => if ns.length ≤ 4000 ∧ (ddi ns).length < 64 then some (RV.own ((riseI ns).map .int)) else none
    | none => none) = some rv := z
  cases c : intsOf ds with
  | none =>
    simp only [c] at z
    cases z
  | some ns =>
    simp only [c] at z
    by_cases c2 : ns.length ≤ 4000 ∧ (ddi ns).length < 64
    · rw [if_pos c2] at z
      cases z
      have e := intsOf_some c
      subst e
      obtain ⟨l, vs, rfl, hp, rp⟩ := t1.tup
      have ev : vs = ns.map V.int := rp.toInts
      subst ev
      refine ⟨l, ns, rfl, a.sub.sqT hp, c2.1, ⟨(ddi ns).length, c2.2, fun l hl hk => len_sub hl fun k q => ddi_mem.mpr (hk k q)⟩, fun ms p h1 h2 h3 => ?_⟩
      have es : riseI ns = ms := rise_uniq (riseI_pw ns) h1 fun k => by rw [riseI_mem, h2]
      rw [es] at k
      exact k.newL a (drs_ints ms) p h3
    · rw [if_neg c2] at z
      cases z
end
@[simp] theorem oSortSetI_tuple {ns : List Int} : oSortSetI (.tuple (ns.map .int)) = if ns.length ≤ 4000 ∧ (ddi ns).length < 64 then some (.own ((riseI ns).map .int)) else none := by
  show (match intsOf (ns.map .int) with
    | some ns => if ns.length ≤ 4000 ∧ (ddi ns).length < 64 then some (RV.own ((riseI ns).map .int)) else none
    | none => none) = _
  rw [intsOf_map]
end Dn
end
section
set_option maxHeartbeats 4000000
namespace Dn
open PySem PySem.Spec L2
def cDict1 (k : Key) (e : Ex) : Ex := fun ρ f => dt (e ρ f) fun d f1 => .ok (.dat (.dict [(keyD k, d)])) f1
section
variable {K : PySem.W.Frag} {g : Gh} {σ : St} {H HF : Hp} {ρ : Rho} {f : Feed}
/-- a new object that no slot holds -/
theorem Rel.fresh {p : Addr} {o : HO} (r : Rel K g σ H HF ρ f) (hp : H p = none) : Rel K g σ (upd H p o) HF ρ f := by
  have hf : HF p = none := by
    cases z : HF p with
    | none => rfl
    | some o => rw [r.sub _ _ z] at hp; cases hp
  refine r.other (r.dead hp) hf (fun z => by rw [z] at hp; exact r.feed.ne hp) (fun i ds e1 e2 => ?_) (fun i k e1 e2 => ?_) (fun i dss q qs e1 e2 e3 m => by
    obtain ⟨us, z⟩ := (r.bdWas (Step.refl r.sub) e1 e2 e3).live m
    rw [hp] at z
    cases z)
  · obtain ⟨q, vs, z1, z2, z3, z4, z5⟩ := r.slot i _ e1
    rw [z1] at e2
    cases e2
    rw [z4] at hp
    cases hp
  · obtain ⟨q, z1, z2, z3, z4⟩ := r.slot i _ e1
    rw [z1] at e2
    cases e2
    exact z4.some hp
end
section
variable {X : Cx} {W : Wish} {e : Expr} {fe : Ex} {ke : Expr} {k : Key} {pos : Pos}
end
@[simp] theorem e_Dict1 {k : Key} {a : Ex} {ρ : Rho} {f : Feed} : cDict1 k a ρ f = dt (a ρ f) fun d f1 => .ok (.dat (.dict [(keyD k, d)])) f1 := nr rfl
end Dn
end
section
set_option maxHeartbeats 4000000
namespace L2
open PySem PySem.Spec PyProof.Rows
/-- what the dict at a holds at y: the key's tuple may lie anywhere -/
def DGetS (K : PySem.W.Frag) (H : Hp) (a : Addr) (y : V) (r : Option V) : Prop :=
  (∃ kvs k, H a = some (.dK kvs) ∧ y = kV k ∧ r = valV kvs k) ∨ ∃ (kvs : List (List Key × V)) (k : List Key) (b : Addr), H a = some (.dT kvs) ∧ y = .ref b ∧ SqT K H b (k.map kV) ∧ r = valV kvs k
section
variable {X : Cx} {pins : List (Addr × Obj)} {σ : St} {H : Hp} {s : Shared} {a b : Addr} {y d v : V} {u r : Value} {o : Option V} {A : Around} {E : Value → Shared → Prop}
theorem keyS_of (I : Inv X pins σ H s) {ks : List Key} (h : SqT X.K H b (ks.map kV)) : (tupleKind (mixKind X.prog X.w)).is s.heap ks b := by
  obtain ⟨its, rv, ⟨o, ho, hc, n, hd⟩, _⟩ := I.tuple h
  exact ⟨o, its.toArray, n, ho, hc, hd, by rw [List.toList_toArray]; exact items_are rv⟩
theorem s_getItem {Q : Value → Shared → Prop} (hu : A.units + 1 < cLine) (I : Inv X pins σ H s) (g : DGetS X.K H a y (some v)) (ry : RelV y u) (h : ∀ w' s', Inv X pins σ H s' → RelV v w' → Q w' s') :
    wpAny (model X.prog X.w) A (getItem (.ref a) u) Q E s := by
  rcases g with ⟨kvs, k, e, ey, l⟩ | ⟨kvs, k, b, e, ey, eb, l⟩
  · exact d_getItem hu I (.inl ⟨kvs, k, .inl e, ey, l⟩) ry h
  · subst ey
    cases (show u = Value.ref b from ry)
    obtain ⟨z, hd, xs, rel, dd⟩ := dt_rd I.hok (.inl e)
    obtain ⟨w', hw, rw'⟩ := RelO.some_of (v := v) (o := (atKey xs k).map (·.2)) (by rw [l]; exact rel.val k)
    obtain ⟨p, hp, hp2⟩ := Option.map_eq_some_iff.mp hw
    refine wpAny_getItem_heap (tupleKind_room_in1 hu) (keyS_of I eb) dd hp ?_
    rw [hp2]
    exact h w' _ (I.tok _) rw'
theorem s_get2 {Q : Value → Shared → Prop} (hu : A.units + 1 < cLine) (I : Inv X pins σ H s) (g : DGetS X.K H a y o) (ry : RelV y u) (rd : RelV d r) (h : ∀ w' s', Inv X pins σ H s' → RelV (o.getD d) w' → Q w' s') :
    wpAny (model X.prog X.w) A (call (.builtin "dict.get") [.ref a, u, r]) Q E s := by
  rcases g with ⟨kvs, k, e, ey, l⟩ | ⟨kvs, k, b, e, ey, eb, l⟩
  · exact d_get2 hu I (.inl ⟨kvs, k, .inl e, ey, l⟩) ry rd h
  · subst ey
    cases (show u = Value.ref b from ry)
    obtain ⟨z, hd, xs, rel, dd⟩ := dt_rd I.hok (.inl e)
    refine call_meetsIn PySem.F.slot_dict_get dd.typeIs PySem.F.entry_dict_get (PySem.F.args_dict_get_3 _ _ _) (meetsH_dict_get_default (tupleKind (mixKind X.prog X.w)) a b hd r) ⟨tupleKind_room_in1 hu, k, xs, keyS_of I eb, dd, h _ _ (I.tok _) ?_⟩
    rw [l]
    exact (rel.val k).getD rd
theorem s_typeIs (I : Inv X pins σ H s) (g : DGetS X.K H a y o) : s.TypeIs (.ref a) "dict" := by
  rcases g with ⟨kvs, k, e, _, _⟩ | ⟨kvs, k, b, e, _, _, _⟩
  · obtain ⟨_, _, vs, _, dd⟩ := dk_rd I.hok (.inl e)
    exact dd.typeIs
  · obtain ⟨_, _, xs, _, dd⟩ := dt_rd I.hok (.inl e)
    exact dd.typeIs
end
def tDGetS (K : PySem.W.Frag) (td ty : TE) : TE := fun σ H Q => td σ H fun x H1 => ty σ H1 fun y H2 => ∃ a v, x = .ref a ∧ DGetS K H2 a y (some v) ∧ Q v H2
def tDGet2S (K : PySem.W.Frag) (td ty tx : TE) : TE := fun σ H Q => td σ H fun x H1 => ∃ a, x = .ref a ∧ IsD H1 a ∧ ty σ H1 fun y H2 => tx σ H2 fun z H3 => ∃ o, DGetS K H3 a y o ∧ Q (o.getD z) H3
section
variable {X : Cx} {o i e f : Expr} {pos apos cpos : Pos} {td ty tx : TE}
theorem pe_dgetS (hu : X.A.units + 1 < cLine) (ho : PE X o td) (hi : PE X i ty) (hs : NoSl i) : PE X (.Subscript o i pos) (tDGetS X.K td ty) := by
  refine ⟨fun pins s σ H Q I h => ?_⟩
  refine subD_of PySem.F.slot_dict_getitem.lookup hs (thn (ho.run pins s σ H _ I h) fun u s1 ⟨x, H1, I1, rx, q1⟩ => thn (hi.run pins s1 σ H1 _ I1 q1) fun iv s2 ⟨y, H2, I2, ry, a, v, ex, g, q2⟩ => ?_)
  subst ex
  obtain rfl : u = Value.ref a := rx
  exact ⟨s_typeIs I2 g, s_getItem hu I2 g ry fun w' s3 I3 rw' => ⟨v, H2, I3, rw', q2⟩⟩
theorem pe_dget2S (hu : X.A.units + 1 < cLine) (ho : PE X o td) (he : PE X e ty) (hf : PE X f tx) (m : M2 X o "get" apos e f cpos) : PE X (.Call (.Attribute o "get" apos) [e, f] [] cpos) (tDGet2S X.K td ty tx) := by
  refine ⟨fun pins s σ H Q I h => ?_⟩
  refine wpAny_Call_method m.base m.few m.line PySem.F.plainAttrs_dict PySem.F.slot_dict_get PySem.F.type_dict_get (thn (ho.run pins s σ H _ I h) fun u s1 ⟨x, H1, I1, rx, a, ex, d, q1⟩ => ?_)
  subst ex
  obtain rfl : u = Value.ref a := rx
  obtain ⟨t1, t2, _⟩ := isD_at I1 d
  refine ⟨t1, t2, ?_⟩
  rw [m.trees]
  refine Calls.callWith_builtin rfl (Calls.evalArgs_plain (Calls.spliced_cons (thn (he.run pins s1 σ H1 _ I1 q1) fun iv s2 ⟨y, H2, I2, ry, q2⟩ =>
    Calls.spliced_cons (thn (hf.run pins s2 σ H2 _ I2 q2) fun fv s3 ⟨z, H3, I3, rz, ov, g, q3⟩ => Calls.spliced_nil ?_))))
  exact s_get2 hu I3 g ry rz fun w' s4 I4 rw' => ⟨_, H3, I4, rw', q3⟩
end
end L2
namespace Dn
open PySem PySem.Spec L2
section
variable {κ : Type} [DecidableEq κ]
def getK (kvs : List (κ × PyData)) (k : κ) : Option PyData := (kvs.find? fun p => decide (p.1 = k)).map (·.2)
def setK (kvs : List (κ × PyData)) (k : κ) (d : PyData) : List (κ × PyData) :=
  if (kvs.any fun p => decide (p.1 = k)) = true then kvs.map (fun p => if p.1 = k then (p.1, d) else p) else kvs ++ [(k, d)]
theorem getK_nil {k : κ} : getK ([] : List (κ × PyData)) k = none := rfl
theorem getK_cons {p : κ × PyData} {r : List (κ × PyData)} {k : κ} : getK (p :: r) k = if p.1 = k then some p.2 else getK r k := by
  by_cases h : p.1 = k <;> simp [getK, List.find?_cons, h]
variable {κ' : Type} [DecidableEq κ'] {K : PySem.W.Frag} {HF : Hp} {ι : κ → κ'} (inj : ∀ a b, ι a = ι b → a = b)
include inj
theorem pair_get : ∀ {xs : List (κ' × V)} {kvs : List (κ × PyData)}, Paired (fun x q => x.1 = ι q.1 ∧ DR K HF x.2 q.2) xs kvs → ∀ k, (getK kvs k = none ∧ valV xs (ι k) = none) ∨ ∃ d v, getK kvs k = some d ∧ valV xs (ι k) = some v ∧ DR K HF v d
  | _, _, .nil, k => .inl ⟨rfl, rfl⟩
  | _, _, .cons (a := x) (b := q) h r, k => by
    rw [getK_cons]
    by_cases e : q.1 = k
    · rw [if_pos e]
      exact .inr ⟨_, _, rfl, valV_pos (by rw [h.1, e]), h.2⟩
    · rw [if_neg e, valV_neg (fun z => e (inj _ _ (h.1.symm.trans z)))]
      exact pair_get r k
theorem pair_any : ∀ {xs : List (κ' × V)} {kvs : List (κ × PyData)}, Paired (fun x q => x.1 = ι q.1 ∧ DR K HF x.2 q.2) xs kvs → ∀ k, (xs.any fun p => decide (p.1 = ι k)) = kvs.any fun p => decide (p.1 = k)
  | _, _, .nil, k => rfl
  | _, _, .cons (a := x) (b := q) h r, k => by
    rw [List.any_cons, List.any_cons, pair_any r k]
    congr 1
    rw [decide_eq_decide, h.1]
    exact ⟨inj _ _, fun z => by rw [z]⟩
theorem pair_put {xs : List (κ' × V)} {kvs : List (κ × PyData)} (h : Paired (fun x q => x.1 = ι q.1 ∧ DR K HF x.2 q.2) xs kvs) {k : κ} {v : V} {d : PyData} (r : DR K HF v d) : Paired (fun x q => x.1 = ι q.1 ∧ DR K HF x.2 q.2) (putK xs (ι k) v) (setK kvs k d) := by
  unfold putK setK
  rw [pair_any inj h k]
  split
  · rename_i hh
    clear hh
    induction h with
    | nil => exact .nil
    | @cons x q xs kvs h t ih =>
      refine .cons ?_ ih
      dsimp only
      by_cases e : q.1 = k
      · rw [if_pos e, if_pos (by rw [h.1, e])]
        exact ⟨h.1, r⟩
      · rw [if_neg e, if_neg (fun z => e (inj _ _ (h.1.symm.trans z)))]
        exact h
  · exact h.snoc ⟨rfl, r⟩
end
theorem setK_len {κ : Type} [DecidableEq κ] (kvs : List (κ × PyData)) (k : κ) (d : PyData) : (setK kvs k d).length ≤ kvs.length + 1 := by
  unfold setK
  split
  · rw [List.length_map]
    omega
  · rw [List.length_append]
    exact Nat.le_refl _
theorem inl_inj : ∀ a b : Int, (Sum.inl a : Key) = Sum.inl b → a = b := fun a b h => Sum.inl.inj h
theorem inls_inj : ∀ a b : List Int, a.map (Sum.inl : Int → Key) = b.map Sum.inl → a = b
  | [], [], _ => rfl
  | x :: a, y :: b, h => by
    rw [List.map_cons, List.map_cons] at h
    injection h with h1 h2
    rw [inl_inj _ _ h1, inls_inj a b h2]
  | [], _ :: _, h => by cases h
  | _ :: _, [], h => by cases h
theorem kV_inls (ks : List Int) : (ks.map (Sum.inl : Int → Key)).map kV = ks.map V.int := by
  rw [List.map_map]
  rfl
theorem paired_len {α β : Type} {F : α → β → Prop} : ∀ {as : List α} {bs : List β}, Paired F as bs → as.length = bs.length
  | _, _, .nil => rfl
  | _, _, .cons _ r => congrArg (· + 1) (paired_len r)
section
variable {K : PySem.W.Frag} {g : Gh} {σ : St} {H HF : Hp} {ρ : Rho} {f : Feed} {i : Nat} {p : Addr}
theorem Rel.setS {s : Slot} (r : Rel K g σ H HF ρ f) {v : V} (h : SlotOk K g H HF (some (some v)) s) (h1 : (∀ ds, s ≠ .own ds) ∧ ∀ dss, s ≠ .brd dss) (h2 : ∀ k, s = .dct k → ∀ (j : Nat) (l : Dk), ρ[j]? = some (Slot.dct l) → σ[j]? ≠ some (some v)) : Rel K g (σ.set i (some v)) H HF (ρ.set i s) f where
  sub := r.sub
  feed := r.feed
  ext := r.ext
  le := r.le
  new := r.new
  len := by rw [List.length_set, List.length_set, r.len]
  slot := fun j x e => by
    rcases set_get e with ⟨e1, e2, e3⟩ | ⟨e1, e2⟩
    · subst e1
      subst e3
      rw [List.getElem?_set_self (by rw [r.len]; exact e2)]
      exact h
    · rw [List.getElem?_set_ne e1]
      exact r.slot j x e2
  sep := fun a b ds es ea eb ee => by
    rcases set_get ea with ⟨a1, a2, a3⟩ | ⟨a1, a2⟩
    · exact absurd a3 (h1.1 ds)
    · rcases set_get eb with ⟨b1, b2, b3⟩ | ⟨b1, b2⟩
      · exact absurd b3 (h1.1 es)
      · rw [List.getElem?_set_ne a1, List.getElem?_set_ne b1] at ee
        exact r.sep a b ds es a2 b2 ee
  sepD := fun a b ds es ea eb ee => by
    rcases set_get ea with ⟨a1, a2, a3⟩ | ⟨a1, a2⟩
    · rcases set_get eb with ⟨b1, b2, b3⟩ | ⟨b1, b2⟩
      · exact a1.symm.trans b1
      · subst a1
        rw [List.getElem?_set_self (by rw [r.len]; exact a2), List.getElem?_set_ne b1] at ee
        exact absurd ee.symm (h2 ds a3 b es b2)
    · rcases set_get eb with ⟨b1, b2, b3⟩ | ⟨b1, b2⟩
      · subst b1
        rw [List.getElem?_set_self (by rw [r.len]; exact b2), List.getElem?_set_ne a1] at ee
        exact absurd ee (h2 es b3 a ds a2)
      · rw [List.getElem?_set_ne a1, List.getElem?_set_ne b1] at ee
        exact r.sepD a b ds es a2 b2 ee
  bd := r.bd.to (fun a dss e => by
    rcases set_get e with ⟨a1, a2, a3⟩ | ⟨a1, a2⟩
    · exact absurd a3 (h1.2 dss)
    · exact ⟨⟨_, a2⟩, List.getElem?_set_ne a1⟩) (fun a es2 e => by
    rcases set_get e with ⟨a1, a2, a3⟩ | ⟨a1, a2⟩
    · exact absurd a3 (h1.1 es2)
    · exact ⟨⟨_, a2⟩, List.getElem?_set_ne a1⟩) fun a dss p2 qs e1 e2 e3 => e3
/-- the dict that a slot holds is written -/
theorem Rel.writeK {k l : Dk} {o : HO} (r : Rel K g σ H HF ρ f) (h : ρ[i]? = some (.dct k)) (hp : σ[i]? = some (some (.ref p))) (hq : HF p = none) (h4 : DkAt K H HF p k) (h5 : DkAt K (upd H p o) HF p l) : Rel K g σ (upd H p o) HF (ρ.set i (.dct l)) f where
  sub := fun a o e => by
    rw [upd_ne (ne_of_none e hq)]
    exact r.sub a o e
  feed := ⟨by rw [upd_ne (fun z => h4.ne r.feed z.symm)]; exact r.feed.d, r.feed.nf, r.feed.c⟩
  ext := fun a o z e => by
    have na : a ≠ p := fun w => by
      subst w
      obtain ⟨p2, z1, z2, _⟩ := r.slot i _ h
      rw [hp] at z1
      cases z1
      rw [z2] at e
      cases e
    rw [upd_ne na]
    exact r.ext a o z e
  le := r.le
  new := r.new
  len := by rw [List.length_set, r.len]
  slot := fun j x e => by
    rcases set_get e with ⟨e1, e2, e3⟩ | ⟨e1, e2⟩
    · subst e1
      subst e3
      obtain ⟨p2, z1, z2, z3, z4⟩ := r.slot i _ h
      rw [hp] at z1
      cases z1
      exact ⟨p, hp, z2, hq, h5⟩
    · have k0 := r.slot j x e2
      cases x with
      | emp => trivial
      | dat d => exact k0
      | own fs =>
        obtain ⟨p2, vs2, z1, z2, z3, z4, z5⟩ := k0
        have np : p2 ≠ p := fun w => by
          subst w
          exact h4.nl z4
        exact ⟨p2, vs2, z1, z2, z3, by rw [upd_ne np]; exact z4, z5⟩
      | feed => exact k0
      | scr ns => exact k0
      | dct q =>
        obtain ⟨p2, z1, z2, z3, z4⟩ := k0
        have np : p2 ≠ p := fun w => by
          subst w
          exact e1 (r.sepD i j k q h e2 (hp.trans z1.symm))
        exact ⟨p2, z1, z2, z3, z4.mono (fun o e => by rw [upd_ne np]; exact e) (Le.refl _)⟩
      | key ks => exact k0
      | brd dss =>
        obtain ⟨p2, qs, z1, z2⟩ := k0
        exact ⟨p2, qs, z1, z2.upd (fun m => by
          obtain ⟨us, z⟩ := z2.live m
          exact h4.nl z)⟩
  bd := r.bd.to (fun a dss e => by
    rcases set_get e with ⟨a1, a2, a3⟩ | ⟨a1, a2⟩
    · cases a3
    · exact ⟨⟨_, a2⟩, rfl⟩) (fun a es2 e => by
    rcases set_get e with ⟨a1, a2, a3⟩ | ⟨a1, a2⟩
    · cases a3
    · exact ⟨⟨_, a2⟩, rfl⟩) fun a dss p2 qs e1 e2 e3 => by
    obtain ⟨p3, q3, z1, z2⟩ := r.slot a _ e1
    rw [e2] at z1
    cases z1
    rw [upd_ne (fun z => h4.nl (by rw [← z]; exact z2.1))] at e3
    exact e3
  sep := fun a b xs ys ea eb ee => by
    rcases set_get ea with ⟨a1, a2, a3⟩ | ⟨a1, a2⟩
    · cases a3
    · rcases set_get eb with ⟨b1, b2, b3⟩ | ⟨b1, b2⟩
      · cases b3
      · exact r.sep a b xs ys a2 b2 ee
  sepD := fun a b xs ys ea eb ee => by
    have fa : ∃ zs, ρ[a]? = some (.dct zs) := by
      rcases set_get ea with ⟨a1, a2, a3⟩ | ⟨a1, a2⟩
      · subst a1
        exact ⟨k, h⟩
      · exact ⟨xs, a2⟩
    have fb : ∃ zs, ρ[b]? = some (.dct zs) := by
      rcases set_get eb with ⟨a1, a2, a3⟩ | ⟨a1, a2⟩
      · subst a1
        exact ⟨k, h⟩
      · exact ⟨ys, a2⟩
    obtain ⟨z1, fa⟩ := fa
    obtain ⟨z2, fb⟩ := fb
    exact r.sepD a b z1 z2 fa fb ee
theorem dct_here {k : Dk} (r : Rel K g σ H HF ρ f) (h : ρ[i]? = some (.dct k)) : ∃ p, σ[i]? = some (some (.ref p)) ∧ HF p = none ∧ DkAt K H HF p k := by
  obtain ⟨p, z1, z2, z3, z4⟩ := r.slot i _ h
  exact ⟨p, z1, z3, z4⟩
end
def sDct (b : Bool) (i : Nat) : Sm := fun ρ f => .ok (.nx (ρ.set i (.dct (if b = true then .T [] else .I [])))) f
section
variable {X : Cx} {E : XK} {i : Nat} {y : Str} {j pos pos2 : Pos}
theorem dct_new {K : PySem.W.Frag} {mg : Str → Option Value} {b : Bool} {D : Ends} {σ : St} {H : Hp} {p : Addr} (h : tDS K mg E (sDct b i) D σ H) (hp : H p = none) : D.nx (σ.set i (some (.ref p))) (upd H p (if b = true then .dT [] else .dK [])) := by
  obtain ⟨g, HF, ρ, f, rel, q⟩ := h
  have hf : HF p = none := by
    cases z : HF p with
    | none => rfl
    | some o => rw [rel.sub _ _ z] at hp; cases hp
  refine (show FinS K g D (.nx (ρ.set i (.dct (if b = true then .T [] else .I [])))) f from q) _ _ HF ((rel.fresh hp).setS (i := i) (v := .ref p) ?_ ⟨fun ds z => (by cases z), fun ds z => (by cases z)⟩ fun k _ j l e1 e2 => ?_)
  · refine ⟨p, rfl, rel.dead hp, hf, ?_⟩
    cases b with
    | true => exact ⟨[], upd_same, .nil⟩
    | false => exact ⟨[], upd_same, .nil⟩
  · obtain ⟨q, z1, z2, z3, z4⟩ := rel.slot j _ e1
    rw [z1] at e2
    cases e2
    exact z4.some hp
theorem ds_dctI (hN : X.N.Nodup) (hi : X.N[i]? = some y) (hx : Loc X.env.scope y) (hs : swapsWith (.Dict [] [] j) (some (.Name y pos2)) pos.line X.env = pure false := by rfl)
    (hf : X.fn y = true ∨ X.env.scope.names.lookup y = some .local := by first | exact .inl rfl | exact .inr rfl | assumption) : DS X E (.Assign [.Name y pos2] (.Dict [] [] j) pos) (sDct false i) :=
  ps_mono (ps_set hN hi hx pe_dnewK hs hf) fun _ _ _ q p hp => dct_new q hp
theorem ds_dctT (hN : X.N.Nodup) (hi : X.N[i]? = some y) (hx : Loc X.env.scope y) (hs : swapsWith (.Dict [] [] j) (some (.Name y pos2)) pos.line X.env = pure false := by rfl)
    (hf : X.fn y = true ∨ X.env.scope.names.lookup y = some .local := by first | exact .inl rfl | exact .inr rfl | assumption) : DS X E (.Assign [.Name y pos2] (.Dict [] [] j) pos) (sDct true i) :=
  ps_mono (ps_set hN hi hx pe_dnewT hs hf) fun _ _ _ q p hp => dct_new q hp
end
abbrev Kx := Rho → Feed → R (List Int)
def tKx (K : PySem.W.Frag) (mg : Str → Option Value) (W : Wish) (e : Kx) : TE := fun σ H Q => ∃ g HF ρ f, Rel K g σ H HF ρ f ∧ ROk K mg g H HF (W σ) (e ρ f) fun ks f1 => ∀ b G GF, Step g H HF G GF → FeedAt g G GF f1 → GF b = some (.tup (ks.map V.int)) → Q (.ref b) G
def kVar (i : Nat) : Kx := fun ρ f => match ρ[i]? with
  | some (.key ks) => .ok ks f
  | _ => .no
def kTup (xs : List Ex) : Kx := fun ρ f => (cArgs xs ρ f).bind fun ds f1 => match intsOf ds with
  | some ks => if ks.length ≤ 1000 then .ok ks f1 else .no
  | none => .no
section
variable {X : Cx} {W : Wish} {pos : Pos}
theorem dk_var {e : Expr} {i : Nat} (h : PE X e (tVar i)) : PE X e (tKx X.K X.mg W (kVar i)) := pe_mono h fun σ H Q ⟨g, HF, ρ, f, rel, q⟩ => by
  unfold kVar at q
  cases z : ρ[i]? with
  | none =>
    simp only [z] at q
    exact (show False from q).elim
  | some s =>
    cases s with
    | key ks =>
      simp only [z] at q
      obtain ⟨b, e1, e2⟩ := rel.slot i _ z
      exact ⟨.ref b, e1, q b H HF (Step.refl rel.sub) rel.feed e2⟩
    | _ =>
      simp only [z] at q
      exact (show False from q).elim
theorem dk_tup {es : List Expr} {xs : List Ex} {x1} (h : DA X W es xs) : PE X (.Tuple es x1 pos) (tKx X.K X.mg W (kTup xs)) := pe_mono (pe_tup h) fun σ H Q ⟨g, HF, ρ, f, rel, q⟩ =>
  args_read xs rel q fun ds f1 vs G GF r1 s1 drs q1 => by
    cases c : intsOf ds with
    | none =>
      simp only [c] at q1
      exact (show False from q1).elim
    | some ks =>
      simp only [c] at q1
      by_cases c2 : ks.length ≤ 1000
      · rw [if_pos c2] at q1
        have e := intsOf_some c
        subst e
        have v1 := drs.toInts
        subst v1
        refine ⟨by rw [List.length_map, sizeLine_eq]; omega, fun p hp => ?_⟩
        have hf : GF p = none := by
          cases z : GF p with
          | none => rfl
          | some o => rw [r1.sub _ _ z] at hp; cases hp
        have l : Le GF (upd GF p (.tup (ks.map V.int))) := fun b o e => by
          rw [upd_ne (ne_of_none e hf)]
          exact e
        have hp0 : H p = none := s1.dead r1.feed hp
        refine q1 p (upd G p (.tup (ks.map V.int))) (upd GF p (.tup (ks.map V.int))) ⟨fun b o nb e => ?_, s1.le.trans l, fun b x y => ?_, fun b o e => ?_⟩ ⟨?_, ?_, ?_⟩ upd_same
        · have := s1.ext b o nb e
          rw [upd_ne (ne_of_none this hp)]
          exact this
        · rw [upd_ne (fun z => x.some (by rw [z]; exact hp0))]
          exact s1.new b x y
        · by_cases z : b = p
          · subst z
            rw [upd_same] at e ⊢
            exact e
          · rw [upd_ne z] at e ⊢
            exact r1.sub _ _ e
        · rw [upd_ne (ne_of_none r1.feed.d hp)]
          exact r1.feed.d
        · rw [upd_ne (ne_of_none r1.feed.d hp)]
          exact r1.feed.nf
        · exact l _ _ r1.feed.c
      · rw [if_neg c2] at q1
        exact (show False from q1).elim
end
def sKey (i : Nat) (e : Kx) : Sm := fun ρ f => (e ρ f).bind fun ks f1 => .ok (.nx (ρ.set i (.key ks))) f1
section
variable {X : Cx} {E : XK} {i : Nat} {y : Str} {pos pos2 : Pos} {e : Expr} {x : Kx}
theorem ds_key (hN : X.N.Nodup) (hi : X.N[i]? = some y) (hx : Loc X.env.scope y) (he : PE X e (tKx X.K X.mg (fun _ => E) x)) (hs : swapsWith e (some (.Name y pos2)) pos.line X.env = pure false := by rfl)
    (hf : X.fn y = true ∨ X.env.scope.names.lookup y = some .local := by first | exact .inl rfl | exact .inr rfl | assumption) : DS X E (.Assign [.Name y pos2] e pos) (sKey i x) :=
  ps_mono (ps_set hN hi hx he hs hf) fun D σ H ⟨g, HF, ρ, f, rel, q⟩ => ⟨g, HF, ρ, f, rel, rel.toE ((XF.of_bind q).mono fun ks f1 q1 b G GF s hf hb =>
    (show FinS X.K g D (.nx (ρ.set i (.key ks))) f1 from q1) _ G GF ((rel.step s hf).setS (i := i) (v := .ref b) ⟨b, rfl, hb⟩ ⟨fun ds z => (by cases z), fun ds z => (by cases z)⟩ (fun k z => by cases z)))⟩
end
def sDputI (i : Nat) (ix e : Ex) : Sm := fun ρ f => match ρ[i]? with
  | some (.dct (.I kvs)) => dt (e ρ f) fun d f1 => pk (ix ρ f1) fun k f2 => match k with
    | .int n => if kvs.length < 100000 then .ok (.nx (ρ.set i (.dct (.I (setK kvs n d))))) f2 else .no
    | _ => .no
  | _ => .no
def sDputT (i : Nat) (ix : Kx) (e : Ex) : Sm := fun ρ f => match ρ[i]? with
  | some (.dct (.T kvs)) => dt (e ρ f) fun d f1 => (ix ρ f1).bind fun ks f2 => if kvs.length < 100000 then .ok (.nx (ρ.set i (.dct (.T (setK kvs ks d))))) f2 else .no
  | _ => .no
section
variable {X : Cx} {E : XK} {i : Nat} {o ie e : Expr} {xi x : Ex} {xk : Kx} {pos pos2 : Pos}
theorem dputI_read {K : PySem.W.Frag} {mg : Str → Option Value} {D : Ends} {σ : St} {H : Hp} (h : tDS K mg E (sDputI i xi x) D σ H) : sDPut (tVar i) (tD K mg (fun _ => E) xi) (tD K mg (fun _ => E) x) D σ H := by
  obtain ⟨g, HF, ρ, f, rel, q⟩ := h
  unfold sDputI at q
  cases z : ρ[i]? with
  | none =>
    simp only [z] at q
    exact (show False from q).elim
  | some s =>
    cases s with
    | dct dk =>
      cases dk with
      | T _ =>
        simp only [z] at q
        exact (show False from q).elim
      | I kvs =>
        simp only [z] at q
        refine tD_Sdt rel q fun d f1 v G GF r1 s1 dr q1 => ?_
        obtain ⟨p, e1, e2, e3⟩ := dct_here r1 z
        refine ⟨.ref p, e1, tD_Spk r1 q1 fun k f2 w I IF r2 s2 t2 q2 => ?_⟩
        obtain ⟨p2, y1, y2, xs, y3, y4⟩ := dct_here r2 z
        rw [e1] at y1
        cases y1
        cases k <;> try exact (show False from q2).elim
        rename_i n
        simp only at q2
        by_cases c : kvs.length < 100000
        · rw [if_pos c] at q2
          have hl : xs.length < sizeLine := by
            rw [paired_len y4, sizeLine_eq]
            omega
          have ew := t2.int
          subst ew
          exact ⟨p, _, rfl, DPut.k (k := Sum.inl n) y3 hl, (show FinS K g D (.nx _) f2 from q2) _ _ IF (r2.writeK z e1 y2 ⟨xs, y3, y4⟩ ⟨_, upd_same, pair_put inl_inj y4 (dr.mono s2.le)⟩)⟩
        · rw [if_neg c] at q2
          exact (show False from q2).elim
    | _ =>
      simp only [z] at q
      exact (show False from q).elim
theorem dputT_read {K : PySem.W.Frag} {mg : Str → Option Value} {D : Ends} {σ : St} {H : Hp} (h : tDS K mg E (sDputT i xk x) D σ H) : sDPut (tVar i) (tKx K mg (fun _ => E) xk) (tD K mg (fun _ => E) x) D σ H := by
  obtain ⟨g, HF, ρ, f, rel, q⟩ := h
  unfold sDputT at q
  cases z : ρ[i]? with
  | none =>
    simp only [z] at q
    exact (show False from q).elim
  | some s =>
    cases s with
    | dct dk =>
      cases dk with
      | I _ =>
        simp only [z] at q
        exact (show False from q).elim
      | T kvs =>
        simp only [z] at q
        refine tD_Sdt rel q fun d f1 v G GF r1 s1 dr q1 => ?_
        obtain ⟨p, e1, e2, e3⟩ := dct_here r1 z
        refine ⟨.ref p, e1, g, GF, ρ, f1, r1, r1.toE ((XF.of_bind q1).mono fun ks f2 q2 b I IF s2 hf2 hb => ?_)⟩
        have r2 := r1.step s2 hf2
        obtain ⟨p2, y1, y2, xs, y3, y4⟩ := dct_here r2 z
        rw [e1] at y1
        cases y1
        by_cases c : kvs.length < 100000
        · rw [if_pos c] at q2
          have hl : xs.length < sizeLine := by
            rw [paired_len y4, sizeLine_eq]
            omega
          exact ⟨p, _, rfl, DPut.t (k := ks.map Sum.inl) y3 (by rw [kV_inls]; exact r2.sub _ _ hb) hl, (show FinS K g D (.nx _) f2 from q2) _ _ IF (r2.writeK z e1 y2 ⟨xs, y3, y4⟩ ⟨_, upd_same, pair_put inls_inj y4 (dr.mono s2.le)⟩)⟩
        · rw [if_neg c] at q2
          exact (show False from q2).elim
    | _ =>
      simp only [z] at q
      exact (show False from q).elim
theorem ds_dputI (hu : X.A.units + 64 < cLine) (ho : PE X o (tVar i)) (hi : DE X (fun _ => E) ie xi) (he : DE X (fun _ => E) e x) (hs : swapsWith e (some (.Subscript o ie pos2)) pos.line X.env = pure false := by rfl) : DS X E (.Assign [.Subscript o ie pos2] e pos) (sDputI i xi x) :=
  ps_mono (ps_dput (by omega) ho hi he hs) fun _ _ _ h => dputI_read h
theorem ds_dputT (hu : X.A.units + 64 < cLine) (ho : PE X o (tVar i)) (hi : PE X ie (tKx X.K X.mg (fun _ => E) xk)) (he : DE X (fun _ => E) e x) (hs : swapsWith e (some (.Subscript o ie pos2)) pos.line X.env = pure false := by rfl) : DS X E (.Assign [.Subscript o ie pos2] e pos) (sDputT i xk x) :=
  ps_mono (ps_dput (by omega) ho hi he hs) fun _ _ _ h => dputT_read h
end
end Dn
end
section
set_option maxHeartbeats 4000000
namespace L2
open PySem PySem.Spec PyProof.Rows Builtin Srt
theorem kt_keys {X : Cx} {H : Hp} : ∀ {kvs : List (List Key × V)} {xs : List (List Key × Addr × Value)} {ks : List (List Int)}, KT H kvs xs → kvs.map (·.1) = ks.map (fun k => k.map Sum.inl) →
    Paired (fun (x : V) k => (∃ t, x = V.ref t ∧ SqT X.K H t (k.map V.int)) ∧ ∃ b, x = .ref b ∧ H b = some (.tup (k.map V.int))) (xs.map fun x => V.ref x.2.1) ks
  | _, _, [], .nil, _ => .nil
  | _, _, _ :: _, .nil, h => by cases h
  | _, _, [], .cons _ _, h => by cases h
  | _, _, k :: ks, .cons (a := q) (b := x) h r, e => by
    rw [List.map_cons, List.map_cons] at e
    injection e with e1 e2
    have hb : H x.2.1 = some (.tup (k.map V.int)) := by
      rw [h.2.1, e1]
      congr 2
      exact List.map_map
    exact .cons ⟨⟨_, rfl, .inl (.inl hb)⟩, _, rfl, hb⟩ (kt_keys r e2)
theorem refs_valsA : ∀ (xs : List (List Key × Addr × Value)), Vals (xs.map fun x => V.ref x.2.1) (xs.map fun x => Value.ref x.2.1)
  | [] => .nil
  | x :: r => .cons rfl (refs_valsA r)
/-- sorted(t), the keys tuples of whole numbers -/
def rSortDT : List V → Hp → VK → Prop := fun vs H Q => ∃ (a : Addr) (kvs : List (List Key × V)) (ks : List (List Int)), vs = [V.ref a] ∧ H a = some (.dT kvs) ∧ kvs.map (·.1) = ks.map (fun k => k.map Sum.inl) ∧ ks.length ≤ 100000 ∧
  ∀ ys ls p, Paired (fun (x : V) k => ∃ b, x = .ref b ∧ H b = some (.tup (k.map V.int))) ys ls → ls.Perm ks → ls.Pairwise (fun p q => HT.lexLt q p = false) → H p = none → Q (.ref p) (upd H p (.lst ys))
section
variable {X : Cx}
theorem cr_sortDT (hc : X.calm = true) (hu : X.A.units + 64 < cLine) : CallR X (.builtin "sorted") rSortDT := by
  intro pins s σ H vs us Q I r h
  obtain ⟨d, kvs, ks, rfl, hd, hk, hlen, q⟩ := h
  rw [Vals.ref1 r]
  obtain ⟨z, hs, xs, pr, o, es, ep, ho, hx, hdt, he, his, hn⟩ := dt_of I.hok hd
  have l1 : es.size = xs.length := size_of_entries he
  have l2 : kvs.length = xs.length := Paired.length pr
  have l3 : kvs.length = ks.length := by
    have := congrArg List.length hk
    rwa [List.length_map, List.length_map] at this
  refine Calls.call_function_entry kind_sorted plain_sorted entry_sorted (args_sorted1 _) ?_
  unfold Builtin.«sorted»
  refine wpAny_bind (m := checkCount "sorted" 1 1 _) (wpAny_pure ?_)
  refine wpAny_bind (PySem.W.kdu_collect (A := X.A.in1) (kdl_raw hs hx hdt) (I.ok.hd hc) ho (by omega) fun h' tk acc kp it => ?_)
  have ea : acc.toList = xs.map fun x => Value.ref x.2.1 := by
    have hl : acc.toList.length = xs.length := by rw [Array.length_toList, it.1]; exact l1
    apply List.ext_getElem?
    intro j
    rw [List.getElem?_map]
    cases hj : acc.toList[j]? with
    | none =>
      have h1 := List.getElem?_eq_none_iff.mp hj
      rw [List.getElem?_eq_none (by omega)]
      all_goals rfl
    | some v =>
      obtain ⟨en, hen, hv⟩ := it.2 j v (by rw [← Array.getElem?_toList]; exact hj)
      have qe := entry_at he j
      rw [hen] at qe
      cases hb : xs[j]? with
      | none =>
        rw [hb] at qe
        exact nomatch (show some en = none from qe)
      | some b =>
        rw [hb] at qe
        have e2 : en = entryOfKey (tupleKind (mixKind X.prog X.w)) b := Option.some.inj qe
        rw [hv, e2]
        all_goals rfl
  rw [ea]
  have I1 : Inv X pins σ H { s with heap := h', toks := tk } := I.kept (t' := tk) kp
  generalize hs1 : ({ s with heap := h', toks := tk } : Shared) = s1 at I1 ⊢
  have rv := refs_valsA xs
  have hp := kt_keys (X := X) pr hk
  obtain ⟨ek, hki⟩ := paired_ks (h := s1.heap) rv hp fun t k ht => by
    obtain ⟨its2, r2, ht2, _⟩ := I1.tuple ht
    exact ⟨t, its2.toArray, rfl, ht2, by rw [List.toList_toArray]; exact intsAre_of r2⟩
  have hz : (xs.map fun x => Value.ref x.2.1).length ≤ sizeLine := by rw [List.length_map, sizeLine_eq]; omega
  generalize (xs.map fun x => Value.ref x.2.1) = its at *
  refine wpAny_bind (wpAny_newList ?_ hz)
  have hoL : (s1.heap.push (seqObj "list" its.toArray 0)).get? s1.heap.objs.size = some (seqObj "list" its.toArray 0) := Heap.get?_push_size _ rfl
  have kk : ∀ b o, s1.heap.get? b = some o → (s1.heap.push (seqObj "list" its.toArray 0)).get? b = some o := fun b o e => Heap.get?_push_of_some _ e
  show wpAny _ _ _ _ _ { s1 with heap := s1.heap.push (seqObj "list" its.toArray 0) }
  refine wpAny_bind (wpAny_holding (wpAny_call_entry slot_list_sort ⟨_, hoL, rfl⟩ entry_list_sort (SrtO.list_sort_ord (s := { s1 with heap := s1.heap.push (seqObj "list" its.toArray 0) }) (NtL.swo_lexL (TS.intsOf s1.heap)) hoL hz (fun h2 => ?_) fun out h1 h2 => ⟨_, rfl, ?_⟩) (args_list_sort _)))
  · have hv : ∀ v ∈ its, TS.TupInts (s1.heap.push (seqObj "list" its.toArray 0)) v (TS.intsOf (s1.heap.push (seqObj "list" its.toArray 0)) v) ∧ TS.intsOf (s1.heap.push (seqObj "list" its.toArray 0)) v = TS.intsOf s1.heap v := fun v hm => by
      obtain ⟨t, e, hv, _⟩ := hki v hm
      have q : TS.TupInts (s1.heap.push (seqObj "list" its.toArray 0)) v (TS.intsOf s1.heap v) := hv.keeps fun b o e _ => kk b o e
      exact ⟨by rw [q.ints]; exact q, q.ints⟩
    have S := TI.sortable (prog := X.prog) (w := X.w) (A := X.A.in1.in1) (s := { s1 with heap := s1.heap.push (seqObj "list" its.toArray 0) }) (a := s1.heap.objs.size) h2 (by show X.A.units + 1 + 1 < cLine; omega) (fun v hm => (hv v hm).1) fun o e => by
      have e' : some o = some (seqObj "list" its.toArray 0) := e.symm.trans hoL
      cases e'
      intro c
      exact absurd (Value.type.inj c) (by decide)
    intro h'' keep
    obtain ⟨κ, k1, k2⟩ := S h'' keep
    refine ⟨κ, k1, fun p q hp hq => ?_⟩
    have z := k2 p q hp hq
    have e1 := (hv p.1 hp).2
    have e2 := (hv q.1 hq).2
    show wpAny (model X.prog X.w) X.A.in1.in1 (keyLt' κ p.1 q.1) (fun r s' => s' = _ ∧ r = HT.lexLt (TS.intsOf s1.heap p.1) (TS.intsOf s1.heap q.1)) (fun _ _ => False) _
    rw [← e1, ← e2]
    exact z
  · have ho2 : ∀ u ∈ out, ∃ t, u = Value.ref t ∧ TS.TupInts s1.heap u (TS.intsOf s1.heap u) ∧ ∃ b, V.ref t = .ref b ∧ H b = some (.tup ((TS.intsOf s1.heap u).map V.int)) := fun u hm => hki u (h2.perm.mem_iff.mp hm)
    obtain ⟨ep2, he'⟩ := PyProof.Rows.sortedHeap_at (vs := its) (out := out.toArray) hoL
    have h3 : ∀ u ∈ out, ∃ a, u = Value.ref a := fun u hm => by
      obtain ⟨t, e, _⟩ := ho2 u hm
      exact ⟨t, e⟩
    have hlen2 : (out.map backV).length ≤ sizeLine := by
      rw [List.length_map, h2.perm.length_eq]
      exact hz
    have kF : ∀ b o, s1.heap.get? b = some o → (sortedHeap (s1.heap.push (seqObj "list" its.toArray 0)) s1.heap.objs.size its out.toArray).get? b = some o := fun b o e => by
      have hb : b < s1.heap.objs.size := Heap.lt_size e
      rw [PyProof.Rows.sortedHeap_old (Nat.ne_of_lt hb) (by rw [size_push']; exact Nat.lt_succ_of_lt hb)]
      exact kk b o e
    refine wpAny_pure ⟨_, rfl, .ref s1.heap.objs.size, upd H s1.heap.objs.size (.lst (out.map backV)), I1.laid (t' := s1.toks) kF (Nat.le_refl _) ⟨hlen2, out, ep2, vals_back h3, he'⟩, rfl, ?_⟩
    refine q _ (out.map (TS.intsOf s1.heap)) _ (paired_out ho2) ?_ (List.pairwise_map.mpr h1) (I1.hok.fresh (Nat.le_refl _))
    rw [ek]
    exact h2.perm.map _
end
def tListVals (td : TE) : TE := fun σ H Q => td σ H fun x H1 => ∃ a vs, x = V.ref a ∧ ((∃ kvs : List (Key × V), H1 a = some (.dK kvs) ∧ kvs.map (·.2) = vs) ∨ ∃ kvs : List (List Key × V), H1 a = some (.dT kvs) ∧ kvs.map (·.2) = vs) ∧ ∀ p, H1 p = none → Q (.ref p) (upd H1 p (.lst vs))
section
variable {X : Cx} {o : Expr} {p pos apos mpos : Pos} {td : TE}
theorem raw_of {pins : List (Addr × Obj)} {σ : St} {H : Hp} {s : Shared} {a : Addr} {vs : List V} (I : Inv X pins σ H s) (h : (∃ kvs : List (Key × V), H a = some (.dK kvs) ∧ kvs.map (·.2) = vs) ∨ ∃ kvs : List (List Key × V), H a = some (.dT kvs) ∧ kvs.map (·.2) = vs) :
    (a == sysModules) = false ∧ vs.length ≤ sizeLine ∧ ∃ es ep, s.heap.DictRaw a es ep ∧ Vals vs (es.toList.map (·.val)) := by
  rcases h with ⟨kvs, e, rfl⟩ | ⟨kvs, e, rfl⟩
  · obtain ⟨z, h2, ws, kv, ob, es, ep, h3, h4, h5, _, h6, _⟩ := dk_of I.hok e
    refine ⟨h2, by rw [List.length_map]; exact z, es, ep, ⟨ob, h3, h4, h5⟩, ?_⟩
    rw [(Dn.pairs_kv h6).2]
    exact Dn.kv_vals kv
  · obtain ⟨z, h2, ws, kt, ob, es, ep, h3, h4, h5, h6, _⟩ := dt_of I.hok e
    refine ⟨h2, by rw [List.length_map]; exact z, es, ep, ⟨ob, h3, h4, h5⟩, ?_⟩
    have : es.toList.map (·.val) = ws.map (·.2.2) := by
      rw [h6, List.map_map]
      rfl
    rw [this]
    exact Dn.kt_vals kt
theorem pe_listVals (hc : X.calm = true) (hg : Gl X "list") (hm : X.mg "list" = none) (hd : PE X o td) (hbase : attributeBase o "values" X.env (eval o X.env) = eval o X.env := by rfl) (hline : (apos.endLine == mpos.line) = true := by rfl)
    (na : starEach [Expr.Call (.Attribute o "values" apos) [] [] mpos] X.env = (false, eval (Expr.Call (.Attribute o "values" apos) [] [] mpos) X.env) :: starEach [] X.env := by rfl) :
    PE X (.Call (.Name "list" p) [.Call (.Attribute o "values" apos) [] [] mpos] [] pos) (tListVals td) := by
  refine ⟨fun pins s σ H Q I h => ?_⟩
  refine Call_ (ld_blt I hg hm (show bootBuiltins "list" = some (.type "list") by decide +kernel) ?_)
  refine PyProof.Rows.callWith_type1 (PyProof.Rows.args_cons (wpAny_Call_method0_late hbase hline (thn (hd.run pins s σ H _ I h) fun v s1 ⟨x, H1, I1, r1, a, vs, ex, ha, q⟩ => ?_)) na) na rfl
  subst ex
  obtain rfl : v = Value.ref a := r1
  obtain ⟨hsys, hz, es, ep, raw, rv⟩ := raw_of I1 ha
  obtain ⟨ob, ho, hx, hdat⟩ := id raw
  refine ⟨"dict", "dict.values", F.plainAttrs_dict, F.slot_dict_values, F.type_dict_values, ⟨ob, ho, hx.1⟩, fun b e => ?_, Calls.callWith_builtin rfl (PySem.evalArgs_none ?_)⟩
  · cases e
    exact ⟨ob, ho, hx.2.1⟩
  refine call_meetsIn F.slot_dict_values ⟨ob, ho, hx.1⟩ F.entry_dict_values (F.args_dict_values_1 _) (PySem.meets_dict_values_raw a hsys) ⟨⟨es, ep, raw⟩, ?_⟩
  refine PyProof.Rows.args_nil ?_
  have k1 : ∀ b u, s1.heap.get? b = some u → (s1.heap.push { cls := .type "dict_values", data := .fields #[.ref a] }).get? b = some u := fun b u e => Heap.get?_push_of_some _ e
  have hsz : es.size = vs.length := by
    have := rv.length
    rw [List.length_map, Array.length_toList] at this
    exact this.symm
  have I2 : Inv X pins σ H1 { s1 with heap := s1.heap.push { cls := .type "dict_values", data := .fields #[.ref a] } } := I1.kept (t' := s1.toks) k1
  refine PySem.W.kdl_call (s := { s1 with heap := s1.heap.push { cls := .type "dict_values", data := .fields #[.ref a] } }) (PySem.KdlSrc.rawValues (r := s1.heap.objs.size) (d := a) (es := es) (ep := ep)) (I1.ok.hd hc) ⟨⟨_, Heap.get?_push_size _ rfl, rfl, rfl⟩, raw.push _⟩ (by omega) fun h' tk acc' c' kp e it => ?_
  have ea : acc'.toList = es.toList.map (·.val) := by
    apply List.ext_getElem?
    intro j
    rw [List.getElem?_map]
    cases hj : acc'.toList[j]? with
    | none =>
      have h1 := List.getElem?_eq_none_iff.mp hj
      rw [Array.length_toList, it.1] at h1
      rw [List.getElem?_eq_none (by rw [Array.length_toList]; exact h1)]
      all_goals rfl
    | some v =>
      obtain ⟨hi, hv⟩ := it.2 j v (by rw [← Array.getElem?_toList]; exact hj)
      rw [Array.getElem?_toList, Array.getElem?_eq_getElem hi, hv]
      all_goals rfl
  refine ⟨.ref _, upd H1 _ (.lst vs), I2.laid (t' := tk) (o := .lst vs) kp (Nat.le_refl _) ⟨hz, acc'.toList, c', by rw [ea]; exact rv, by rw [Array.toArray_toList]; exact e⟩, rfl, q _ (I2.hok.fresh (Nat.le_refl _))⟩
end
end L2
end
section
set_option maxHeartbeats 4000000
namespace Dn
open PySem PySem.Spec L2
/-- data whose keys are whole numbers -/
def intKeys : List (PyData × PyData) → Option (List (Int × PyData))
  | [] => some []
  | (.int n, d) :: r => (intKeys r).map ((n, d) :: ·)
  | _ :: _ => none
theorem intKeys_some : ∀ {ks : List (PyData × PyData)} {kvs : List (Int × PyData)}, intKeys ks = some kvs → ks = kvs.map fun q => (.int q.1, q.2)
  | [], kvs, h => by
    cases h
    rfl
  | (k, d) :: r, kvs, h => by
    cases k <;> try cases h
    rename_i n
    unfold intKeys at h
    cases z : intKeys r with
    | none =>
      rw [z] at h
      cases h
    | some ys =>
      rw [z] at h
      cases h
      rw [List.map_cons, ← intKeys_some z]
theorem intKeys_map : ∀ kvs : List (Int × PyData), intKeys (kvs.map fun q => (.int q.1, q.2)) = some kvs
  | [] => rfl
  | (k, d) :: r => by
    rw [List.map_cons, intKeys, intKeys_map r]
    rfl
/-- data whose keys are tuples of whole numbers: it begins with a mark -/
def tupKeys : List (PyData × PyData) → Option (List (List Int × PyData))
  | [] => some []
  | (.tuple ds, d) :: r => match intsOf ds with
    | some k => (tupKeys r).map ((k, d) :: ·)
    | none => none
  | _ :: _ => none
def dictT (kvs : List (List Int × PyData)) : PyData := .dict ((.bool true, .none) :: kvs.map fun q => (.tuple (q.1.map .int), q.2))
theorem tupKeys_some : ∀ {ks : List (PyData × PyData)} {kvs : List (List Int × PyData)}, tupKeys ks = some kvs → ks = kvs.map fun q => (.tuple (q.1.map .int), q.2)
  | [], kvs, h => by
    cases h
    rfl
  | (k, d) :: r, kvs, h => by
    cases k <;> try cases h
    rename_i ds
    unfold tupKeys at h
    cases c : intsOf ds with
    | none =>
      simp only [c] at h
      cases h
    | some k =>
      simp only [c] at h
      cases z : tupKeys r with
      | none =>
        rw [z] at h
        cases h
      | some ys =>
        rw [z] at h
        cases h
        rw [List.map_cons, ← tupKeys_some z, intsOf_some c]
theorem tupKeys_map : ∀ kvs : List (List Int × PyData), tupKeys (kvs.map fun q => (.tuple (q.1.map .int), q.2)) = some kvs
  | [] => rfl
  | (k, d) :: r => by
    have e : ∀ ns : List Int, intsOf (ns.map .int) = some ns := fun ns => by
      induction ns with
      | nil => rfl
      | cons n ns ih =>
        rw [List.map_cons, intsOf, ih]
        rfl
    rw [List.map_cons, tupKeys]
    simp only [e, tupKeys_map r]
    rfl
def dkOf (ks : List (PyData × PyData)) : Option Dk := match intKeys ks with
  | some kvs => some (.I kvs)
  | none => match ks with
    | (.bool true, .none) :: r => (tupKeys r).map Dk.T
    | _ => none
def dictAt (ρ : Rho) (i : Nat) : Option Dk := match ρ[i]? with
  | some (.dct k) => some k
  | some (.dat (.dict ks)) => dkOf ks
  | _ => none
theorem dr_dk {K : PySem.W.Frag} {HF : Hp} : ∀ {kvs : List (Int × PyData)} {xs : List (Key × V)}, (kvs.map fun q => (PyData.int q.1, q.2)).map (·.1) = xs.map (fun x => keyD x.1) → DRs K HF (xs.map (·.2)) ((kvs.map fun q => (PyData.int q.1, q.2)).map (·.2)) → Paired (fun x q => x.1 = Sum.inl q.1 ∧ DR K HF x.2 q.2) xs kvs
  | [], [], _, _ => .nil
  | _ :: _, [], h, _ => by simp at h
  | [], _ :: _, h, _ => by simp at h
  | (n, d) :: r, (k, v) :: xs, h, .cons a b => by
    simp only [List.map_cons, List.cons.injEq] at h
    obtain ⟨h1, h2⟩ := h
    refine .cons ⟨?_, a⟩ (dr_dk (by simpa using h2) b)
    cases k with
    | inl i =>
      unfold keyD at h1
      simp only [PyData.int.injEq] at h1
      rw [h1]
    | inr x =>
      unfold keyD at h1
      cases h1
theorem dr_dt {K : PySem.W.Frag} {HF : Hp} : ∀ {kvs : List (List Int × PyData)} {xs : List (List Key × V)}, xs.map (·.1) = kvs.map (fun q => q.1.map Sum.inl) → DRs K HF (xs.map (·.2)) (kvs.map (·.2)) → Paired (fun x q => x.1 = q.1.map Sum.inl ∧ DR K HF x.2 q.2) xs kvs
  | [], [], _, _ => .nil
  | _ :: _, [], h, _ => by simp at h
  | [], _ :: _, h, _ => by simp at h
  | (n, d) :: r, (k, v) :: xs, h, .cons a b => by
    simp only [List.map_cons, List.cons.injEq] at h
    exact .cons ⟨h.1, a⟩ (dr_dt h.2 b)
section
variable {K : PySem.W.Frag} {g : Gh} {σ : St} {H HF : Hp} {ρ : Rho} {f : Feed} {i : Nat}
theorem dict_here {k : Dk} (r : Rel K g σ H HF ρ f) (h : dictAt ρ i = some k) : ∃ p, σ[i]? = some (some (.ref p)) ∧ DkAt K H HF p k := by
  unfold dictAt at h
  cases z : ρ[i]? with
  | none =>
    rw [z] at h
    cases h
  | some s =>
    rw [z] at h
    cases s with
    | dct l =>
      cases h
      obtain ⟨p, h1, h2, h3⟩ := dct_here r z
      exact ⟨p, h1, h3⟩
    | dat d =>
      cases d <;> try cases h
      rename_i ks
      simp only at h
      unfold dkOf at h
      cases c : intKeys ks with
      | none =>
        simp only [c] at h
        split at h
        · rename_i r0
          cases c2 : tupKeys r0 with
          | none =>
            rw [c2] at h
            cases h
          | some kvs =>
            rw [c2] at h
            cases h
            have e := tupKeys_some c2
            subst e
            obtain ⟨v, e1, e2⟩ := r.slot i _ z
            generalize hd : PyData.dict ((.bool true, .none) :: kvs.map fun q => (.tuple (q.1.map .int), q.2)) = dd at e2
            cases e2 with
            | @dit _ xs kvs2 h1 h2 h3 =>
              have : kvs2 = kvs := by
                simp only [PyData.dict.injEq, List.cons.injEq, true_and] at hd
                have a := tupKeys_map kvs
                rw [hd, tupKeys_map kvs2] at a
                exact Option.some.inj a
              subst this
              exact ⟨_, e1, _, r.sub _ _ h1, dr_dt h2 h3⟩
            | @dic _ xs ks2 h1 h2 h3 =>
              cases hd
              cases xs with
              | nil => simp at h2
              | cons x xs =>
                obtain ⟨x1 | x1, x2⟩ := x <;> simp [keyD] at h2
            | exc h1 h2 h3 h4 => cases hd
            | _ => cases hd
        · cases h
      | some kvs =>
        simp only [c] at h
        cases h
        have e := intKeys_some c
        subst e
        obtain ⟨v, e1, e2⟩ := r.slot i _ z
        generalize hd : PyData.dict (kvs.map fun q => (PyData.int q.1, q.2)) = dd at e2
        cases e2 with
        | dic h1 h2 h3 =>
          cases hd
          exact ⟨_, e1, _, r.sub _ _ h1, dr_dk h2 h3⟩
        | exc h1 h2 h3 h4 =>
          exfalso
          cases kvs with
          | nil => cases hd
          | cons a r =>
            simp only [List.map_cons, PyData.dict.injEq, List.cons.injEq, Prod.mk.injEq] at hd
            cases hd.1.1
        | dit h1 h2 h3 =>
          exfalso
          cases kvs with
          | nil => cases hd
          | cons a r =>
            simp only [List.map_cons, PyData.dict.injEq, List.cons.injEq, Prod.mk.injEq] at hd
            cases hd.1.1
        | _ => cases hd
    | _ => cases h
def keyGet (k : Dk) (d : PyData) : Option (Option PyData) := match k, d with
  | .I kvs, .int n => some (getK kvs n)
  | .T kvs, .tuple ds => (intsOf ds).map (getK kvs)
  | _, _ => none
theorem get_read {p : Addr} {k : Dk} {y : V} {d : PyData} {o : Option PyData} (l : Le HF H) (h : DkAt K H HF p k) (t : Top K g H HF y d) (e : keyGet k d = some o) :
    ∃ r, DGetS K H p y r ∧ ((o = none ∧ r = none) ∨ ∃ c v, o = some c ∧ r = some v ∧ DR K HF v c) := by
  cases k with
  | I kvs =>
    cases d <;> try cases e
    rename_i n
    have ey := t.int
    subst ey
    obtain ⟨xs, h1, h2⟩ := h
    refine ⟨_, .inl ⟨xs, Sum.inl n, h1, rfl, rfl⟩, ?_⟩
    rcases pair_get inl_inj h2 n with ⟨a, b⟩ | ⟨c, v, a, b, dr⟩
    · exact .inl ⟨a, b⟩
    · exact .inr ⟨c, v, a, b, dr⟩
  | T kvs =>
    cases d <;> try cases e
    rename_i ds
    unfold keyGet at e
    cases c : intsOf ds with
    | none =>
      simp only [c] at e
      cases e
    | some ks =>
      simp only [c] at e
      cases e
      have e2 := intsOf_some c
      subst e2
      obtain ⟨b, vs, rfl, hb, rb⟩ := t.tup
      have ev := rb.toInts
      subst ev
      obtain ⟨xs, h1, h2⟩ := h
      refine ⟨_, .inr ⟨xs, ks.map Sum.inl, b, h1, rfl, by rw [kV_inls]; exact l.sqT hb, rfl⟩, ?_⟩
      rcases pair_get inls_inj h2 ks with ⟨a, b⟩ | ⟨c, v, a, b, dr⟩
      · exact .inl ⟨a, b⟩
      · exact .inr ⟨c, v, a, b, dr⟩
end
/-- t[k] -/
def cDGet (i : Nat) (ix : Ex) : Ex := fun ρ f => match dictAt ρ i with
  | some t => pk (ix ρ f) fun k f1 => match keyGet t k with
    | some (some d) => .ok (.dat d) f1
    | _ => .no
  | none => .no
/-- t.get(k, d) -/
def cDGet2 (i : Nat) (ix dx : Ex) : Ex := fun ρ f => match dictAt ρ i with
  | some t => pk (ix ρ f) fun k f1 => dt (dx ρ f1) fun d f2 => match keyGet t k with
    | some o => .ok (.dat (o.getD d)) f2
    | none => .no
  | none => .no
/-- list(t.values()) -/
def Dk.vals : Dk → List PyData
  | .I kvs => kvs.map (·.2)
  | .T kvs => kvs.map (·.2)
def cDVals (i : Nat) : Ex := fun ρ f => match dictAt ρ i with
  | some t => .ok (.own t.vals) f
  | none => .no
/-- list(t), sorted(t) -/
def cDKeys (i : Nat) : Ex := fun ρ f => match dictAt ρ i with
  | some (.I kvs) => .ok (.own (kvs.map fun q => .int q.1)) f
  | _ => .no
def cDSort (i : Nat) : Ex := fun ρ f => match dictAt ρ i with
  | some (.T kvs) => if kvs.length ≤ 100000 then .ok (.own ((sortL (kvs.map (·.1))).map tupI)) f else .no
  | _ => .no
def sFrzD (i : Nat) : Sm := fun ρ f => match ρ[i]? with
  | some (.dct (.I kvs)) => .ok (.nx (ρ.set i (.dat (.dict (kvs.map fun q => (.int q.1, q.2)))))) f
  | _ => .ok (.nx ρ) f
theorem pair_vals {K : PySem.W.Frag} {HF : Hp} {κ κ' : Type} {ι : κ → κ'} : ∀ {xs : List (κ' × V)} {kvs : List (κ × PyData)}, Paired (fun x q => x.1 = ι q.1 ∧ DR K HF x.2 q.2) xs kvs → DRs K HF (xs.map (·.2)) (kvs.map (·.2))
  | _, _, .nil => .nil
  | _, _, .cons h r => .cons h.2 (pair_vals r)
theorem pair_keys {K : PySem.W.Frag} {HF : Hp} {κ κ' : Type} {ι : κ → κ'} : ∀ {xs : List (κ' × V)} {kvs : List (κ × PyData)}, Paired (fun x q => x.1 = ι q.1 ∧ DR K HF x.2 q.2) xs kvs → xs.map (·.1) = kvs.map fun q => ι q.1
  | _, _, .nil => rfl
  | _, _, .cons h r => by rw [List.map_cons, List.map_cons, h.1, pair_keys r]
section
variable {K : PySem.W.Frag} {g : Gh} {σ : St} {H HF : Hp} {ρ : Rho} {f : Feed}
/-- tuples that lie there may be frozen -/
theorem frz_tups : ∀ {ys : List V} {ls : List (List Int)} {HF : Hp}, At K g H HF f → Paired (fun (x : V) k => ∃ b, x = .ref b ∧ H b = some (.tup (k.map V.int))) ys ls → ∃ GF, Step g H HF H GF ∧ FeedAt g H GF f ∧ DRs K GF ys (ls.map tupI)
  | _, _, HF, a, .nil => ⟨HF, Step.refl a.sub, a.feed, .nil⟩
  | _, _, HF, a, .cons (a := x) (b := k) h r => by
    obtain ⟨b, rfl, hb⟩ := h
    have hfa : b ≠ g.fa := fun z => by
      subst z
      have := a.feed.d.symm.trans hb
      unfold feedO at this
      cases this
    have l : Le HF (upd HF b (.tup (k.map V.int))) := fun c o e => by
      by_cases z : c = b
      · subst z
        rw [upd_same, ← a.sub _ _ e, hb]
      · rw [upd_ne z]
        exact e
    have sub2 : Le (upd HF b (.tup (k.map V.int))) H := fun c o e => by
      by_cases z : c = b
      · subst z
        rw [upd_same] at e
        rw [hb]
        exact e
      · rw [upd_ne z] at e
        exact a.sub _ _ e
    have s1 : Step g H HF H (upd HF b (.tup (k.map V.int))) := ⟨fun _ _ _ e => e, l, fun c x y => by
      have nb : c ≠ b := fun z => by
        subst z
        obtain ⟨o, e1, e2⟩ := x
        rw [hb] at e1
        cases e1
        cases e2
      rw [upd_ne nb]
      exact y, sub2⟩
    have f1 : FeedAt g H (upd HF b (.tup (k.map V.int))) f := ⟨a.feed.d, by rw [upd_ne (Ne.symm hfa)]; exact a.feed.nf, l _ _ a.feed.c⟩
    obtain ⟨GF, s2, f2, d2⟩ := frz_tups (HF := upd HF b (.tup (k.map V.int))) ⟨sub2, f1⟩ r
    exact ⟨GF, s1.trans f1 s2, f2, .cons (.tup (.inl (.inl (s2.le _ _ upd_same))) (DRs.ints k)) d2⟩
end
section
variable {K : PySem.W.Frag} {g : Gh} {σ : St} {H HF : Hp} {ρ : Rho} {f : Feed}
end
/-- a dict of tuple keys is told as a datum from here on -/
def sFrzT (i : Nat) : Sm := fun ρ f => match ρ[i]? with
  | some (.dct (.T kvs)) => .ok (.nx (ρ.set i (.dat (dictT kvs)))) f
  | _ => .ok (.nx ρ) f
section
variable {K : PySem.W.Frag} {g : Gh} {σ : St} {H HF : Hp} {ρ : Rho} {f : Feed} {i : Nat}
theorem dict_now {k : Dk} {p : Addr} (r : Rel K g σ H HF ρ f) (h : dictAt ρ i = some k) (e : σ[i]? = some (some (.ref p))) : DkAt K H HF p k := by
  obtain ⟨q, h1, h2⟩ := dict_here r h
  rw [e] at h1
  cases h1
  exact h2
end
section
variable {X : Cx} {W : Wish} {i : Nat} {o ie e : Expr} {xi x : Ex} {pos apos mpos cpos p : Pos}
theorem de_dget (hu : X.A.units + 64 < cLine) (ho : PE X o (tVar i)) (hi : DE X W ie xi) (hs : NoSl ie) : DE X W (.Subscript o ie pos) (cDGet i xi) :=
  pe_mono (pe_dgetS (by omega) ho hi hs) fun σ H Q ⟨g, HF, ρ, f, rel, q⟩ => by
  unfold cDGet at q
  cases c : dictAt ρ i with
  | none =>
    simp only [c] at q
    exact (show False from q).elim
  | some t =>
    simp only [c] at q
    obtain ⟨p, h1, _⟩ := dict_here rel c
    refine ⟨.ref p, h1, tD_pk rel q fun d f1 y G GF r1 s1 t1 q1 => ?_⟩
    cases c2 : keyGet t d with
    | none =>
      simp only [c2] at q1
      exact (show False from q1).elim
    | some o2 =>
      obtain ⟨r, g1, g2⟩ := get_read r1.sub (dict_now r1 c h1) t1 c2
      rcases g2 with ⟨rfl, rfl⟩ | ⟨c3, v, rfl, rfl, dr⟩
      · simp only [c2] at q1
        exact (show False from q1).elim
      · simp only [c2] at q1
        exact ⟨p, v, rfl, g1, (show Fin X.K g σ H HF Q (.dat c3) f1 from q1) v G GF s1 r1.feed dr⟩
theorem isD_of {K : PySem.W.Frag} {H HF : Hp} {p : Addr} {k : Dk} (h : DkAt K H HF p k) : IsD H p := by
  cases k with
  | I kvs =>
    obtain ⟨xs, h1, _⟩ := h
    exact .inl ⟨xs, .inl h1⟩
  | T kvs =>
    obtain ⟨xs, h1, _⟩ := h
    exact .inr ⟨xs, .inl h1⟩
theorem de_dget2 (hu : X.A.units + 64 < cLine) (ho : PE X o (tVar i)) (hi : DE X W ie xi) (he : DE X W e x) (m : M2 X o "get" apos ie e cpos := by exact ⟨by rfl, by rfl, by rfl, by rfl⟩) : DE X W (.Call (.Attribute o "get" apos) [ie, e] [] cpos) (cDGet2 i xi x) :=
  pe_mono (pe_dget2S (by omega) ho hi he m) fun σ H Q ⟨g, HF, ρ, f, rel, q⟩ => by
  unfold cDGet2 at q
  cases c : dictAt ρ i with
  | none =>
    simp only [c] at q
    exact (show False from q).elim
  | some t =>
    simp only [c] at q
    obtain ⟨p, h1, h2⟩ := dict_here rel c
    refine ⟨.ref p, h1, p, rfl, isD_of h2, tD_pk rel q fun d f1 y G GF r1 s1 t1 q1 => tD_dt r1 q1 fun d2 f2 z I IF r2 s2 dr2 q2 => ?_⟩
    cases c2 : keyGet t d with
    | none =>
      simp only [c2] at q2
      exact (show False from q2).elim
    | some o2 =>
      simp only [c2] at q2
      obtain ⟨r, g1, g2⟩ := get_read r2.sub (dict_now r2 c h1) (t1.step s2) c2
      refine ⟨r, g1, ?_⟩
      rcases g2 with ⟨rfl, rfl⟩ | ⟨c3, v, rfl, rfl, dr⟩
      · exact (show Fin X.K g σ H HF Q (.dat d2) f2 from q2) z I IF (s1.trans r1.feed s2) r2.feed dr2
      · exact (show Fin X.K g σ H HF Q (.dat c3) f2 from q2) v I IF (s1.trans r1.feed s2) r2.feed dr
theorem de_dvals (hc : X.calm = true) (hg : Gl X "list") (hm : X.mg "list" = none) (ho : PE X o (tVar i)) (hbase : attributeBase o "values" X.env (eval o X.env) = eval o X.env := by rfl) (hline : (apos.endLine == mpos.line) = true := by rfl)
    (na : starEach [Expr.Call (.Attribute o "values" apos) [] [] mpos] X.env = (false, eval (Expr.Call (.Attribute o "values" apos) [] [] mpos) X.env) :: starEach [] X.env := by rfl) :
    DE X W (.Call (.Name "list" p) [.Call (.Attribute o "values" apos) [] [] mpos] [] pos) (cDVals i) :=
  pe_mono (pe_listVals hc hg hm ho hbase hline na) fun σ H Q ⟨g, HF, ρ, f, rel, q⟩ => by
  unfold cDVals at q
  cases c : dictAt ρ i with
  | none =>
    simp only [c] at q
    exact (show False from q).elim
  | some t =>
    simp only [c] at q
    obtain ⟨p, h1, h2⟩ := dict_here rel c
    obtain ⟨rv, z, k⟩ := give_end (x := some (RV.own t.vals)) rel.feed (Step.refl rel.sub) q
    cases z
    cases t with
    | I kvs =>
      obtain ⟨xs, h3, h4⟩ := h2
      exact ⟨.ref p, h1, p, _, rfl, .inl ⟨xs, h3, rfl⟩, fun r hr => k.newL ⟨rel.sub, rel.feed⟩ (pair_vals h4) r hr⟩
    | T kvs =>
      obtain ⟨xs, h3, h4⟩ := h2
      exact ⟨.ref p, h1, p, _, rfl, .inr ⟨xs, h3, rfl⟩, fun r hr => k.newL ⟨rel.sub, rel.feed⟩ (pair_vals h4) r hr⟩
theorem de_dsort (hc : X.calm = true) (hu : X.A.units + 64 < cLine) (hg : Gl X "sorted") (hm : X.mg "sorted" = none) (ho : PE X o (tVar i)) (he : starEach [o] X.env = (false, eval o X.env) :: starEach [] X.env := by rfl) : DE X W (.Call (.Name "sorted" p) [o] [] pos) (cDSort i) :=
  pe_mono (pe_callB (cr_sortDT hc hu) hg hm (by decide +kernel) (pa_cons ho pa_nil he) (by decide) (by decide) he rfl) fun σ H Q ⟨g, HF, ρ, f, rel, q⟩ => by
  unfold cDSort at q
  cases c : dictAt ρ i with
  | none =>
    simp only [c] at q
    exact (show False from q).elim
  | some t =>
    cases t with
    | I kvs =>
      simp only [c] at q
      exact (show False from q).elim
    | T kvs =>
      simp only [c] at q
      by_cases c2 : kvs.length ≤ 100000
      · rw [if_pos c2] at q
        obtain ⟨p, h1, h2⟩ := dict_here rel c
        obtain ⟨xs, h3, h4⟩ := h2
        refine ⟨.ref p, h1, ?_⟩
        refine ⟨p, xs, kvs.map (·.1), rfl, h3, by rw [pair_keys h4, List.map_map]; rfl, by rw [List.length_map]; exact c2, fun ys ls r z1 z2 z3 z4 => ?_⟩
        obtain ⟨GF, s2, f2, d2⟩ := frz_tups ⟨rel.sub, rel.feed⟩ z1
        obtain ⟨rv, z, k⟩ := give_end (x := some (RV.own ((sortL (kvs.map (·.1))).map tupI))) rel.feed (Step.refl rel.sub) q
        cases z
        have k2 : Ends1 X.K g H GF f (.own ((sortL (kvs.map (·.1))).map tupI)) Q := fun v G IF s h rr => k v G IF (s2.trans f2 s) h rr
        rw [sortL_is z3 z2] at k2
        exact k2.newL ⟨s2.sub, f2⟩ d2 r z4
      · rw [if_neg c2] at q
        exact (show False from q).elim
end
end Dn
end
section
set_option maxHeartbeats 4000000
namespace L2
open PySem PySem.Spec PyProof.Rows Builtin
section
variable {X : Cx} {o : Expr} {p pos apos mpos : Pos} {td : TE}
end
end L2
namespace Dn
open PySem PySem.Spec L2
/-- sum(t.values()) -/
def cDSum (i : Nat) : Ex := fun ρ f => match dictAt ρ i with
  | some t => match intsOf t.vals with
    | some ns => .ok (.dat (.int ns.sum)) f
    | none => .no
  | none => .no
section
variable {X : Cx} {W : Wish} {i : Nat} {o : Expr} {pos apos mpos p : Pos}
end
end Dn
end
section
set_option maxHeartbeats 4000000
namespace Dn
open PySem PySem.Spec L2
section
variable {α β : Type} {ρ : Rho} {f : Feed} {i j : Nat} {x y : Ex} {kx : Kx}
@[simp] theorem e_dctT : sDct true i ρ f = .ok (.nx (ρ.set i (.dct (.T [])))) f := nr rfl
@[simp] theorem e_dctI : sDct false i ρ f = .ok (.nx (ρ.set i (.dct (.I [])))) f := nr rfl
@[simp] theorem e_key : sKey i kx ρ f = (kx ρ f).bind fun ks f1 => .ok (.nx (ρ.set i (.key ks))) f1 := nr rfl
@[simp] theorem e_kVar : kVar i ρ f = match ρ[i]? with
  | some (.key ks) => .ok ks f
  | _ => .no := nr rfl
@[simp] theorem e_kTup {xs : List Ex} : kTup xs ρ f = (cArgs xs ρ f).bind fun ds f1 => match intsOf ds with
  | some ks => if ks.length ≤ 1000 then .ok ks f1 else .no
  | none => .no := nr rfl
@[simp] theorem e_dputI : sDputI i y x ρ f = match ρ[i]? with
  | some (.dct (.I kvs)) => dt (x ρ f) fun d f1 => pk (y ρ f1) fun k f2 => match k with
    | .int n => if kvs.length < 100000 then .ok (.nx (ρ.set i (.dct (.I (setK kvs n d))))) f2 else .no
    | _ => .no
  | _ => .no := nr rfl
@[simp] theorem e_dputT : sDputT i kx x ρ f = match ρ[i]? with
  | some (.dct (.T kvs)) => dt (x ρ f) fun d f1 => (kx ρ f1).bind fun ks f2 => if kvs.length < 100000 then .ok (.nx (ρ.set i (.dct (.T (setK kvs ks d))))) f2 else .no
  | _ => .no := nr rfl
@[simp] theorem e_dictAt : dictAt ρ i = match ρ[i]? with
  | some (.dct k) => some k
  | some (.dat (.dict ks)) => dkOf ks
  | _ => none := nr rfl
@[simp] theorem intKeys_mapS {kvs : List (Int × PyData)} : intKeys (kvs.map fun q => (.int q.1, q.2)) = some kvs := intKeys_map kvs
@[simp] theorem dkOf_I {kvs : List (Int × PyData)} : dkOf (kvs.map fun q => (.int q.1, q.2)) = some (.I kvs) := by
  unfold dkOf
  rw [intKeys_map]
@[simp] theorem dkOf_nil : dkOf [] = some (.I []) := nr rfl
@[simp] theorem dkOf_T {kvs : List (List Int × PyData)} : dkOf ((.bool true, .none) :: kvs.map fun q => (.tuple (q.1.map .int), q.2)) = some (.T kvs) := by
  show Option.map Dk.T (tupKeys _) = _
  rw [tupKeys_map]
  rfl
@[simp] theorem e_frzT : sFrzT i ρ f = match ρ[i]? with
  | some (.dct (.T kvs)) => .ok (.nx (ρ.set i (.dat (dictT kvs)))) f
  | _ => .ok (.nx ρ) f := nr rfl
@[simp] theorem e_dget : cDGet i x ρ f = match dictAt ρ i with
  | some t => pk (x ρ f) fun k f1 => match keyGet t k with
    | some (some d) => .ok (.dat d) f1
    | _ => .no
  | none => .no := nr rfl
@[simp] theorem e_dget2 : cDGet2 i x y ρ f = match dictAt ρ i with
  | some t => pk (x ρ f) fun k f1 => dt (y ρ f1) fun d f2 => match keyGet t k with
    | some o => .ok (.dat (o.getD d)) f2
    | none => .no
  | none => .no := nr rfl
@[simp] theorem keyGetI {kvs : List (Int × PyData)} {n : Int} : keyGet (.I kvs) (.int n) = some (getK kvs n) := nr rfl
@[simp] theorem keyGetT {kvs : List (List Int × PyData)} {ds : List PyData} : keyGet (.T kvs) (.tuple ds) = (intsOf ds).map (getK kvs) := nr rfl
@[simp] theorem intsOf_nil : intsOf [] = some [] := nr rfl
@[simp] theorem intsOf_cons {n : Int} {r : List PyData} : intsOf (.int n :: r) = (intsOf r).map (n :: ·) := by
  cases h : intsOf r <;> simp [intsOf, h]
@[simp] theorem e_dvals : cDVals i ρ f = match dictAt ρ i with
  | some t => .ok (.own t.vals) f
  | none => .no := nr rfl
@[simp] theorem valsI {kvs : List (Int × PyData)} : Dk.vals (.I kvs) = kvs.map (·.2) := nr rfl
@[simp] theorem valsT {kvs : List (List Int × PyData)} : Dk.vals (.T kvs) = kvs.map (·.2) := nr rfl
@[simp] theorem e_dsum : cDSum i ρ f = match dictAt ρ i with
  | some t => match intsOf t.vals with
    | some ns => .ok (.dat (.int ns.sum)) f
    | none => .no
  | none => .no := nr rfl
@[simp] theorem e_dkeys : cDKeys i ρ f = match dictAt ρ i with
  | some (.I kvs) => .ok (.own (kvs.map fun q => .int q.1)) f
  | _ => .no := nr rfl
@[simp] theorem e_dsort : cDSort i ρ f = match dictAt ρ i with
  | some (.T kvs) => if kvs.length ≤ 100000 then .ok (.own ((sortL (kvs.map (·.1))).map tupI)) f else .no
  | _ => .no := nr rfl
@[simp] theorem e_frzD : sFrzD i ρ f = match ρ[i]? with
  | some (.dct (.I kvs)) => .ok (.nx (ρ.set i (.dat (.dict (kvs.map fun q => (.int q.1, q.2)))))) f
  | _ => .ok (.nx ρ) f := nr rfl
end
section
variable {κ : Type} [DecidableEq κ]
theorem setK_get (kvs : List (κ × PyData)) (k j : κ) (d : PyData) : getK (setK kvs k d) j = if k = j then some d else getK kvs j := by
  unfold setK
  by_cases c : (kvs.any fun p => decide (p.1 = k)) = true
  · rw [if_pos c]
    induction kvs with
    | nil => simp at c
    | cons p r ih =>
      rw [List.map_cons, getK_cons]
      by_cases e : p.1 = k
      · simp only [e, if_true]
        by_cases e2 : k = j
        · rw [if_pos e2, if_pos e2]
        · rw [if_neg e2, if_neg e2, getK_cons, if_neg (by rw [e]; exact e2)]
          by_cases c2 : (r.any fun p => decide (p.1 = k)) = true
          · rw [ih c2, if_neg e2]
          · congr 1
            have : r.map (fun p => if p.1 = k then (p.1, d) else p) = r.map id := List.map_congr_left fun q hq => by
              have : ¬ q.1 = k := fun z => c2 (List.any_eq_true.mpr ⟨q, hq, decide_eq_true z⟩)
              rw [if_neg this]
              rfl
            rw [this, List.map_id]
      · simp only [e, if_false]
        rw [getK_cons]
        by_cases e3 : p.1 = j
        · rw [if_pos e3, if_pos e3, if_neg (fun z => e (e3.trans z.symm))]
        · rw [if_neg e3, if_neg e3]
          refine ih ?_
          rw [List.any_cons] at c
          simpa [e] using c
  · rw [if_neg c]
    induction kvs with
    | nil => rw [List.nil_append, getK_cons, getK_nil]
    | cons p r ih =>
      rw [List.any_cons] at c
      simp only [Bool.or_eq_true, not_or, decide_eq_true_eq] at c
      rw [List.cons_append, getK_cons, getK_cons]
      by_cases e3 : p.1 = j
      · rw [if_pos e3, if_pos e3, if_neg (fun z => c.1 (e3.trans z.symm))]
      · rw [if_neg e3, if_neg e3]
        exact ih c.2
theorem setK_keys (kvs : List (κ × PyData)) (k : κ) (d : PyData) : (setK kvs k d).map (·.1) = if k ∈ kvs.map (·.1) then kvs.map (·.1) else kvs.map (·.1) ++ [k] := by
  unfold setK
  have e : (kvs.any fun p => decide (p.1 = k)) = true ↔ k ∈ kvs.map (·.1) := by
    rw [List.any_eq_true, List.mem_map]
    constructor
    · rintro ⟨p, h1, h2⟩
      exact ⟨p, h1, of_decide_eq_true h2⟩
    · rintro ⟨p, h1, h2⟩
      exact ⟨p, h1, decide_eq_true h2⟩
  by_cases c : k ∈ kvs.map (·.1)
  · rw [if_pos (e.mpr c), if_pos c, List.map_map]
    refine List.map_congr_left fun q _ => ?_
    show (if q.1 = k then (q.1, d) else q).1 = q.1
    split <;> rfl
  · rw [if_neg (fun z => c (e.mp z)), if_neg c, List.map_append]
    rfl
theorem setK_nodup {kvs : List (κ × PyData)} (k : κ) (d : PyData) (h : (kvs.map (·.1)).Nodup) : ((setK kvs k d).map (·.1)).Nodup := by
  rw [setK_keys]
  split
  · exact h
  · rename_i c
    exact List.nodup_append.mpr ⟨h, by simp, fun a ha b hb => by
      rw [List.mem_singleton] at hb
      subst hb
      exact fun z => c (z ▸ ha)⟩
theorem setK_mem {kvs : List (κ × PyData)} {k : κ} {d : PyData} {p : κ × PyData} (h : p ∈ setK kvs k d) : p ∈ kvs ∨ p = (k, d) := by
  unfold setK at h
  split at h
  · obtain ⟨q, hq, e⟩ := List.mem_map.mp h
    split at e
    · rename_i c
      exact .inr (by rw [← e, c])
    · exact .inl (e ▸ hq)
  · rcases List.mem_append.mp h with h | h
    · exact .inl h
    · exact .inr (List.mem_singleton.mp h)
theorem getK_of_mem {kvs : List (κ × PyData)} {p : κ × PyData} (n : (kvs.map (·.1)).Nodup) (h : p ∈ kvs) : getK kvs p.1 = some p.2 := by
  induction kvs with
  | nil => cases h
  | cons q r ih =>
    rw [List.map_cons, List.nodup_cons] at n
    rw [getK_cons]
    rcases List.mem_cons.mp h with e | h
    · rw [e, if_pos rfl]
    · have : ¬ q.1 = p.1 := fun z => n.1 (by rw [z]; exact List.mem_map_of_mem h)
      rw [if_neg this]
      exact ih n.2 h
end
end Dn
end
section
set_option maxHeartbeats 4000000
namespace Dn
open PySem PySem.Spec L2
section
variable {α β : Type} {F G : α → β → Prop}
theorem paired_lenB : ∀ {as : List α} {bs : List β}, Paired F as bs → as.length = bs.length
  | _, _, .nil => rfl
  | _, _, .cons _ r => congrArg (· + 1) (paired_lenB r)
theorem paired_getB : ∀ {as : List α} {bs : List β} {j : Nat} {b : β}, Paired F as bs → bs[j]? = some b → ∃ a, as[j]? = some a ∧ F a b
  | _, _, _, _, .nil, e => by simp at e
  | _, _, 0, b, .cons h _, e => by
    simp at e
    subst e
    exact ⟨_, rfl, h⟩
  | _, _, j + 1, b, .cons _ r, e => by
    obtain ⟨a, h1, h2⟩ := paired_getB (j := j) r (by simpa using e)
    exact ⟨a, by simpa using h1, h2⟩
end
section
variable {K : PySem.W.Frag} {mg : Str → Option Value} {W : Wish} {E : XK} {g : Gh} {σ : St} {H HF G GF : Hp} {ρ : Rho} {f : Feed} {p q a : Addr} {qs : List Addr} {dss : List (List PyData)} {i j : Nat}
theorem BdAt.at (b : BdAt K g H HF p qs dss) {k : Int} {ds : List PyData} (c : atI dss k = some ds) : ∃ q, atI qs k = some q ∧ q ∈ qs ∧ g.H0 q = none ∧ HF q = none ∧ ∃ vs, H q = some (.lst vs) ∧ DRs K HF vs ds := by
  have hl := paired_lenB b.2.2.2
  unfold atI at c ⊢
  rw [hl]
  cases z : ixN dss.length k with
  | none =>
    rw [z] at c
    cases c
  | some j =>
    rw [z] at c
    obtain ⟨q, e, vs, w1, w2⟩ := paired_getB b.2.2.2 (show dss[j]? = some ds from c)
    have m : q ∈ qs := List.mem_of_getElem? e
    obtain ⟨h1, h2⟩ := b.2.2.1 q (List.mem_cons_of_mem _ m)
    exact ⟨q, e, m, h1, h2, vs, w1, w2⟩
/-- board[k] -/
def cRow (i : Nat) (xi : Ex) : Ex := fun ρ f => match ρ[i]? with
  | some (.brd dss) => pk (xi ρ f) fun k f1 => match k with
    | .int k => match atI dss k with
      | some ds => .ok (.lent i ds) f1
      | none => .no
    | _ => .no
  | _ => .no
/-- board[a][b] = e -/
def sBPut (i : Nat) (xa xb e : Ex) : Sm := fun ρ f => match ρ[i]? with
  | some (.brd dss) => dt (e ρ f) fun d f1 => pk (xa ρ f1) fun k f2 => match k with
    | .int k => match ixN dss.length k with
      | some j => match dss[j]? with
        | some ds => pk (xb ρ f2) fun l f3 => match l with
          | .int l => match ixN ds.length l with
            | some m => .ok (.nx (ρ.set i (.brd (dss.set j (ds.set m d))))) f3
            | none => .no
          | _ => .no
        | none => .no
      | none => .no
    | _ => .no
  | _ => .no
/-- board.append(row), the row a growing list of its own name, which holds nothing from here on -/
def sBApp (i j : Nat) : Sm := fun ρ f => match ρ[i]? with
  | some (.brd dss) => match ρ[j]? with
    | some (.own ds) => if dss.length < 100000 then .ok (.nx ((ρ.set i (.brd (dss ++ [ds]))).set j .emp)) f else .no
    | _ => .no
  | _ => .no
/-- a board is told as a datum from here on -/
def sFrzB (i : Nat) : Sm := fun ρ f => match ρ[i]? with
  | some (.brd dss) => .ok (.nx (ρ.set i (.dat (.list (dss.map .list))))) f
  | _ => .ok (.nx ρ) f
abbrev Bx := Rho → Feed → R (List (List PyData))
def isBrd : Slot → Bool
  | .brd _ => true
  | _ => false
def sBrd (i : Nat) (b : Bx) : Sm := fun ρ f => if (ρ.set i .emp).any isBrd = true then .no else (b ρ f).bind fun dss f1 => .ok (.nx (ρ.set i (.brd dss))) f1
/-- [e], e a growing list -/
def bOne (e : Ex) : Bx := fun ρ f => (e ρ f).bind fun rv f1 => match rv with
  | .own ds => .ok [ds] f1
  | _ => .no
def lcB (T : Tgt) (e : Ex) (ρ : Rho) : List PyData → List (List PyData) → Feed → R (List (List PyData))
  | [], acc, f => .ok acc f
  | d :: ds, acc, f => match T.put d ρ with
    | none => .no
    | some ρ1 => (noEx (e ρ1 f)).bind fun rv f2 => match rv with
      | .own ys => if acc.length < 100000 then lcB T e ρ ds (acc ++ [ys]) f2 else .no
      | _ => .no
/-- [[..] for ..] -/
def bLc (it : Ix) (T : Tgt) (e : Ex) (vs : List Nat) : Bx := fun ρ f => (it ρ f).bind fun ds f1 => lcB T e (wipeR ρ vs) ds [] f1
end
end Dn
end
section
set_option maxHeartbeats 4000000
namespace L2
open PySem PySem.Spec PyProof.Rows
end L2
namespace Dn
open PySem PySem.Spec L2
/-- {(a, ..): e} -/
def cDictT1 (kx : Kx) (e : Ex) : Ex := fun ρ f => (kx ρ f).bind fun ks f1 => dt (e ρ f1) fun d f2 => .ok (.dat (dictT [(ks, d)])) f2
section
variable {X : Cx} {W : Wish} {ke e : Expr} {kx : Kx} {fe : Ex} {pos : Pos}
end
@[simp] theorem e_dictT1 {kx : Kx} {e : Ex} {ρ : Rho} {f : Feed} : cDictT1 kx e ρ f = (kx ρ f).bind fun ks f1 => dt (e ρ f1) fun d f2 => .ok (.dat (dictT [(ks, d)])) f2 := nr rfl
section
variable {ρ : Rho} {f : Feed} {i j : Nat} {x y z : Ex}
@[simp] theorem e_row : cRow i x ρ f = match ρ[i]? with
  | some (.brd dss) => pk (x ρ f) fun k f1 => match k with
    | .int k => match atI dss k with
      | some ds => .ok (.lent i ds) f1
      | none => .no
    | _ => .no
  | _ => .no := nr rfl
@[simp] theorem e_bput : sBPut i x y z ρ f = match ρ[i]? with
  | some (.brd dss) => dt (z ρ f) fun d f1 => pk (x ρ f1) fun k f2 => match k with
    | .int k => match ixN dss.length k with
      | some j => match dss[j]? with
        | some ds => pk (y ρ f2) fun l f3 => match l with
          | .int l => match ixN ds.length l with
            | some m => .ok (.nx (ρ.set i (.brd (dss.set j (ds.set m d))))) f3
            | none => .no
          | _ => .no
        | none => .no
      | none => .no
    | _ => .no
  | _ => .no := nr rfl
@[simp] theorem e_bapp : sBApp i j ρ f = match ρ[i]? with
  | some (.brd dss) => match ρ[j]? with
    | some (.own ds) => if dss.length < 100000 then .ok (.nx ((ρ.set i (.brd (dss ++ [ds]))).set j .emp)) f else .no
    | _ => .no
  | _ => .no := nr rfl
@[simp] theorem e_frzB : sFrzB i ρ f = match ρ[i]? with
  | some (.brd dss) => .ok (.nx (ρ.set i (.dat (.list (dss.map .list))))) f
  | _ => .ok (.nx ρ) f := nr rfl
@[simp] theorem isBrd_emp : isBrd .emp = false := nr rfl
@[simp] theorem isBrd_dat {d : PyData} : isBrd (.dat d) = false := nr rfl
@[simp] theorem isBrd_own {ds : List PyData} : isBrd (.own ds) = false := nr rfl
@[simp] theorem isBrd_feed : isBrd .feed = false := nr rfl
@[simp] theorem isBrd_dct {k : Dk} : isBrd (.dct k) = false := nr rfl
@[simp] theorem isBrd_key {k : List Int} : isBrd (.key k) = false := nr rfl
@[simp] theorem e_brd {b : Bx} : sBrd i b ρ f = if (ρ.set i .emp).any isBrd = true then .no else (b ρ f).bind fun dss f1 => .ok (.nx (ρ.set i (.brd dss))) f1 := nr rfl
@[simp] theorem e_bOne {e : Ex} : bOne e ρ f = (e ρ f).bind fun rv f1 => match rv with
  | .own ds => .ok [ds] f1
  | _ => .no := nr rfl
@[simp] theorem e_bLc {it : Ix} {T : Tgt} {e : Ex} {vs : List Nat} : bLc it T e vs ρ f = (it ρ f).bind fun ds f1 => lcB T e (wipeR ρ vs) ds [] f1 := nr rfl
end
section
variable {X : Cx} {W : Wish} {E : XK} {i j : Nat} {pos pos2 : Pos}
end
end Dn
end
section
set_option maxHeartbeats 4000000
namespace Dn
open PySem PySem.Spec L2
section
variable {X : Cx} {W : Wish} {k : Nat} {x : Str} {F : Fn} {p pos : Pos}
end
end Dn
end
section
set_option maxHeartbeats 4000000
namespace Dn
open PySem PySem.Spec L2
/-- [e for T in board[x] if t] -/
def cLcR (i : Nat) (xi : Ex) (T : Tgt) (t : Tx) (e : Ex) (vs : List Nat) : Ex := fun ρ f => match ρ[i]? with
  | some (.brd dss) => pk (xi ρ f) fun k f1 => match k with
    | .int k => match atI dss k with
      | some ds => (lcN T t e (wipeR ρ vs) ds [] f1).bind fun ys f2 => .ok (.own ys) f2
      | none => .no
    | _ => .no
  | _ => .no
section
variable {K : PySem.W.Frag} {mg : Str → Option Value} {W : Wish} {σ : St} {H : Hp} {i : Nat}
end
section
variable {X : Cx} {W : Wish} {i : Nat} {pos pos2 : Pos} {o ie : Expr} {xi : Ex} {elt tg : Expr} {ifs : List Expr} {scope : Scope} {own : List (Str × Nat)} {T : Tgt} {t : Tx} {e : Ex}
end
@[simp] theorem e_lcR {i : Nat} {xi : Ex} {T : Tgt} {t : Tx} {e : Ex} {vs : List Nat} {ρ : Rho} {f : Feed} : cLcR i xi T t e vs ρ f = match ρ[i]? with
  | some (.brd dss) => pk (xi ρ f) fun k f1 => match k with
    | .int k => match atI dss k with
      | some ds => (lcN T t e (wipeR ρ vs) ds [] f1).bind fun ys f2 => .ok (.own ys) f2
      | none => .no
    | _ => .no
  | _ => .no := nr rfl
end Dn
end
section
set_option maxHeartbeats 4000000
namespace Dn
open PySem PySem.Spec L2
/-- [e for T in own if t] -/
def cLcO (i : Nat) (T : Tgt) (t : Tx) (e : Ex) (vs : List Nat) : Ex := fun ρ f => match ρ[i]? with
  | some (.own ds) => (lcN T t e (wipeR ρ vs) ds [] f).bind fun ys f2 => .ok (.own ys) f2
  | _ => .no
section
variable {K : PySem.W.Frag} {mg : Str → Option Value} {W : Wish} {σ : St} {H : Hp} {i : Nat}
theorem lcO_read {T : Tgt} {t : Tx} {e : Ex} {vs : List Nat} {Q : VK} (hl : ∀ j ∈ T.own, j ∈ vs) (h : tD K mg W (cLcO i T t e vs) σ H Q) : tLc (iSq K (tVar i)) (T.rd K) (tDT K mg noW t) (tD K mg noW e) vs σ H Q := by
  obtain ⟨g, HF, ρ, f, rel, q⟩ := h
  unfold cLcO at q
  cases z : ρ[i]? with
  | none =>
    simp only [z] at q
    exact (show False from q).elim
  | some s =>
  cases s with
  | own ds =>
    simp only [z] at q
    obtain ⟨a, us0, e1, h0, hf, y1, y2⟩ := rel.slot i _ z
    have pfa : a ≠ g.fa := ne_fa rel.feed y1
    have r1 := rel
    have s1 : Step g H HF H HF := Step.refl rel.sub
    have q1 := q
    refine ⟨.ref a, e1, a, rfl, .inl ⟨⟨us0, .inl (.inl y1)⟩, fun D hD => ?_⟩⟩
    have row : ∀ {I IF : Hp}, Step g H HF I IF → ∃ us, I a = some (.lst us) ∧ DRs K IF us ds := fun {I IF} s2 => ⟨us0, s2.ext a _ pfa y1, y2.mono s2.le⟩
    have hf1 := r1.feed
    have w1 := r1.wiped vs
    have hD0 : H D = none := s1.dead hf1 hD
    have hG0 : g.H0 D = none := rel.dead hD0
    have hfa : D ≠ g.fa := fun z => by
      rw [z] at hD
      exact hf1.ne hD
    have naD : a ≠ D := fun e => by
      rw [e, hD] at y1
      cases y1
    have h3 : ∀ (i : Nat) (ds : List PyData), (wipeR ρ vs)[i]? = some (.own ds) → (L2.wipe σ vs)[i]? ≠ some (some (.ref D)) := fun i es e1 e2 => by
      obtain ⟨p, us, z1, z2, z3, z4, z5⟩ := w1.slot i _ e1
      rw [z1] at e2
      cases e2
      rw [z4] at hD
      cases hD
    have h3D : ∀ (i : Nat) (k : Dk), (wipeR ρ vs)[i]? = some (.dct k) → (L2.wipe σ vs)[i]? ≠ some (some (.ref D)) := fun i es e1 e2 => by
      obtain ⟨p, z1, z2, z3, z4⟩ := w1.slot i _ e1
      rw [z1] at e2
      cases e2
      exact z4.some hD
    have h3B : ∀ {G' GF' : Hp}, Step g H HF G' GF' → ∀ (i : Nat) dss (p : Addr) (qs : List Addr), (wipeR ρ vs)[i]? = some (.brd dss) → (L2.wipe σ vs)[i]? = some (some (.ref p)) → G' p = some (.lst (qs.map V.ref)) → D ∉ p :: qs := fun {G' GF'} st i dss p qs e1 e2 e3 m => by
      obtain ⟨us, z⟩ := ((rel.wiped vs).bdWas st e1 e2 e3).live m
      rw [hD0] at z
      cases z
    have hGD : HF D = none := by
      cases z : HF D with
      | none => rfl
      | some o =>
        rw [s1.sub _ _ z] at hD
        cases hD
    have stU : ∀ {I IF : Hp} {o : HO}, Step g H HF I IF → IF D = none → Step g H HF (upd I D o) IF := fun {I IF o} s z => ⟨fun a x y e => by
        rw [upd_ne (ne_of_none e hD0)]
        exact s.ext a x y e, s.le, s.new, fun a x e => by
        rw [upd_ne (ne_of_none e z)]
        exact s.sub a x e⟩
    refine ⟨fun i m I => i + m = ds.length ∧ ∃ IF f us acc, Rel K g (L2.wipe σ vs) I IF (wipeR ρ vs) f ∧ Step g H HF I IF ∧ IF D = none ∧ I D = some (.lst us) ∧ DRs K IF us acc ∧
      ROk K mg g H HF (W σ) ((lcN T t e (wipeR ρ vs) (ds.drop i) acc f).bind fun ys f2 => .ok (.own ys) f2) (Fin K g σ H HF Q), ⟨ds.length, by omega, HF, f, [], [], w1.other hG0 hGD hfa h3 h3D (h3B s1), stU s1 hGD, hGD, upd_same, .nil, by
        rw [List.drop_zero]
        cases hq : (lcN T t e (wipeR ρ vs) ds [] f).bind fun ys f2 => R.ok (RV.own ys) f2 with
        | no =>
          rw [hq] at q1
          exact (show False from q1).elim
        | ok rv f3 =>
          rw [hq] at q1
          exact q1
        | ex cl vls f3 =>
          have noX : ∀ (l acc : List PyData) (f : Feed) cl vls f3, (lcN T t e (wipeR ρ vs) l acc f) ≠ .ex cl vls f3 := by
            intro l
            induction l with
            | nil =>
              intro acc f cl vls f3 hh
              unfold lcN at hh
              cases hh
            | cons x l ih =>
              intro acc f cl vls f3 hh
              unfold lcN at hh
              cases hT : T.put x (wipeR ρ vs) with
              | none =>
                rw [hT] at hh
                cases hh
              | some ρ1 =>
                rw [hT] at hh
                simp only at hh
                cases ht : t ρ1 f with
                | no =>
                  rw [ht] at hh
                  cases hh
                | ex _ _ _ =>
                  rw [ht] at hh
                  cases hh
                | ok b f4 =>
                  rw [ht] at hh
                  cases b with
                  | false => exact ih _ _ _ _ _ hh
                  | true =>
                    cases he : e ρ1 f4 with
                    | no =>
                      simp only [noEx, R.bind, if_true, he] at hh
                      cases hh
                    | ex _ _ _ =>
                      simp only [noEx, R.bind, if_true, he] at hh
                      cases hh
                    | ok rv f5 =>
                      simp only [noEx, R.bind, if_true, he, dt] at hh
                      cases hrv : rv.data with
                      | none =>
                        simp only [hrv] at hh
                        cases hh
                      | some y =>
                        simp only [hrv] at hh
                        by_cases hc : acc.length < 100000
                        · rw [if_pos hc] at hh
                          exact ih _ _ _ _ _ hh
                        · rw [if_neg hc] at hh
                          cases hh
          exfalso
          cases hL : lcN T t e (wipeR ρ vs) ds [] f with
          | no =>
            rw [hL] at hq
            cases hq
          | ok _ _ =>
            rw [hL] at hq
            cases hq
          | ex _ _ _ => exact noX _ _ _ _ _ _ hL⟩, fun i m I hW => ?_⟩
    obtain ⟨em, IF, f, us, acc, r2, s2, d1, d2, d3, q2⟩ := hW
    obtain ⟨xs, x1, x2⟩ := row s2
    have xl : xs.length = ds.length := x2.length
    by_cases hi : i < ds.length
    · refine .inr ⟨⟨xs, xs[i]'(by omega), .inl (.inl x1), List.getElem?_eq_getElem _⟩, fun I => ∃ IF f us acc, Rel K g (L2.wipe σ vs) I IF (wipeR ρ vs) f ∧ Step g H HF I IF ∧ IF D = none ∧ I D = some (.lst us) ∧ DRs K IF us acc ∧
          ROk K mg g H HF (W σ) ((lcN T t e (wipeR ρ vs) (ds.drop (i + 1)) acc f).bind fun ys f2 => .ok (.own ys) f2) (Fin K g σ H HF Q), fun H2 z => ⟨m - 1, by omega, by omega, z⟩, fun x I2 y => ?_⟩
      obtain ⟨rfl, fx⟩ := y
      have ds_i : ds[i]? = some ds[i] := List.getElem?_eq_getElem hi
      obtain ⟨v, ev1, dr⟩ := x2.get ds_i
      have ex := fx xs (.inl (.inl x1))
      rw [ev1] at ex
      cases ex
      rw [drop_at ds_i] at q2
      unfold lcN at q2
      cases z : T.put ds[i] (wipeR ρ vs) with
      | none =>
        simp only [z] at q2
        exact (show False from q2).elim
      | some ρ1 =>
        simp only [z] at q2
        have ww := wipe_wipe σ vs
        refine (fun hh => by have h9 := T.wipe hl hh; rw [ww] at h9; exact h9) (T.read r2 dr z fun σ2 r4 => ?_)
        rw [bind_bind] at q2
        refine ⟨g, IF, ρ1, f, r4, noEx_ok ((ROk.of_bind q2).mono fun b f2 k2 J2 JF2 s3 hf3 => ?_)⟩
        have s4 := s2.trans r2.feed s3
        have aD : ∀ {J2 JF2 f3}, Step g I2 IF J2 JF2 → FeedAt g J2 JF2 f3 → JF2 D = none ∧ J2 D = some (.lst us) ∧ DRs K JF2 us acc := fun {J2 JF2 f3} st hf3 => ⟨st.new D (mo d2) d1, st.ext D _ hfa d2, d3.mono st.le⟩
        obtain ⟨a1, a2, a3⟩ := aD s3 hf3
        cases b with
        | false =>
          simp only [Bool.false_eq_true, if_false] at k2 ⊢
          exact ⟨JF2, f2, us, acc, (r2.step s3 hf3), s4, a1, a2, a3, k2⟩
        | true =>
          simp only [if_true] at k2 ⊢
          rw [dt_bind] at k2
          refine ⟨g, JF2, ρ1, f2, r4.step s3 hf3, noEx_ok ((ROk.of_bind k2).mono fun rv f3 k4 v L LF s5 hf5 rr => ?_)⟩
          cases zz : rv.data with
          | none =>
            simp only [zz] at k4
            exact (show False from k4).elim
          | some y =>
            simp only [zz] at k4
            obtain ⟨MF, s6, hf6, dy⟩ := rr.frz hf5 s5 zz
            have s36 := s3.trans hf3 s6
            obtain ⟨b1, b2, b3⟩ := aD s36 hf6
            by_cases c : acc.length < 100000
            · rw [if_pos c] at k4
              have r7 := (r2.step s36 hf6).other (o := .lst (us ++ [v])) hG0 b1 hfa h3 h3D (h3B (s4.trans hf3 s6))
              refine ⟨us, b2, by rw [b3.length]; exact Nat.lt_of_lt_of_le c (by decide), MF, f3, us ++ [v], acc ++ [y], r7, stU (s4.trans hf3 s6) b1, b1, upd_same, b3.snoc dy, k4⟩
            · rw [if_neg c] at k4
              exact (show False from k4).elim
    · have e0 : ds.drop i = [] := List.drop_eq_nil_of_le (by omega)
      rw [e0] at q2
      refine .inl ⟨⟨xs, .inl (.inl x1), by omega⟩, ?_⟩
      exact (show Fin K g σ H HF Q (.own acc) f from q2) (.ref D) I IF s2 r2.feed ⟨D, us, rfl, hD0, d1, d2, d3⟩
  | _ =>
    simp only [z] at q
    exact (show False from q).elim
end
section
variable {X : Cx} {W : Wish} {i : Nat} {pos : Pos} {o : Expr} {elt tg : Expr} {ifs : List Expr} {scope : Scope} {own : List (Str × Nat)} {T : Tgt} {t : Tx} {e : Ex}
theorem de_lcO (hc : X.calm = true) (hN : X.N.Nodup) (ho : PE X o (tVar i)) (ok : BlkOk X.N X.env.scope scope own) (hl : ∀ j ∈ T.own, j ∈ own.map (·.2))
    (hg : ∀ (s : Shared) (H : Hp) (C : Addr) (cl : List (Str × Addr)) (fp : List Addr), PG (X.blk s H scope (compEnvC scope cl C X.env) fp) tg (T.rd X.K))
    (ht : ∀ (s : Shared) (H : Hp) (C : Addr) (cl : List (Str × Addr)) (fp : List Addr), PTs (X.blk s H scope (compEnvC scope cl C X.env) fp) ifs (tDT X.K X.mg noW t))
    (he : ∀ (s : Shared) (H : Hp) (C : Addr) (cl : List (Str × Addr)) (fp : List Addr), DE (X.blk s H scope (compEnvC scope cl C X.env) fp) noW elt e)
    (hs : ∀ x, foldedSetIterable o X.env x = pure x := by intro _; rfl) : DE X W (.ListComp elt [⟨tg, o, ifs, 0⟩] scope pos) (cLcO i T t e (own.map (·.2))) :=
  pe_mono (pe_lc hc hN (pi_sq ho) ok hg ht he hs) fun _ _ _ q => lcO_read hl q
end
@[simp] theorem e_lcO {i : Nat} {T : Tgt} {t : Tx} {e : Ex} {vs : List Nat} {ρ : Rho} {f : Feed} : cLcO i T t e vs ρ f = match ρ[i]? with
  | some (.own ds) => (lcN T t e (wipeR ρ vs) ds [] f).bind fun ys f2 => .ok (.own ys) f2
  | _ => .no := nr rfl
end Dn
end
namespace Fp
open PySem PySem.Spec L2 Dn
abbrev d_NOUGHT : PyData := .tuple [(.int 0), (.int 1)]
abbrev d_ONE : PyData := .tuple [(.int 1), (.int 1)]
abbrev d_MOST_WAYS_v2 : PyData := .int 3
/-- common(one, other); slots: 0 one, 1 other -/
noncomputable def S_common : Sm := sSeq (sWhile (cT (cBin oNe (cVar 1) (cC (.int 0)))) (sPar 0 1 (cVar 1) (cBin oMod (cVar 0) (cVar 1)))) (sRet (cVar 0))
noncomputable def F_common : Dn.Fn := dBody 2 S_common
theorem u_common {a0 a1 : RV} {f : Feed} : F_common [a0, a1] f = dEnd (S_common [fnSlot a0, fnSlot a1] f) := rfl
/-- ratio(top, bottom); slots: 0 top, 1 bottom, 2 sign, 3 part -/
noncomputable def S_ratio : Sm := sSeq (sIf (cT (cBin oEq (cVar 1) (cC (.int 0)))) (sNo) (sNext)) (sSeq (sSet 2 (cIf (cT (cBin oLt (cVar 1) (cC (.int 0)))) (cUn oNeg (cC (.int 1))) (cC (.int 1)))) (sSeq (sSet 3 (cCall F_common [cUn oAbs (cVar 0), cUn oAbs (cVar 1)])) (sRet (cTup [cBin oDiv (cBin oMul (cVar 2) (cVar 0)) (cVar 3), cBin oDiv (cBin oMul (cVar 2) (cVar 1)) (cVar 3)]))))
noncomputable def F_ratio : Dn.Fn := dBody 4 S_ratio
theorem u_ratio {a0 a1 : RV} {f : Feed} : F_ratio [a0, a1] f = dEnd (S_ratio [fnSlot a0, fnSlot a1, .emp, .emp] f) := rfl
/-- plus(one, other); slots: 0 one, 1 other -/
noncomputable def S_plus : Sm := sRet (cCall F_ratio [cBin oAdd (cBin oMul (cBin oIx (cVar 0) (cC (.int 0))) (cBin oIx (cVar 1) (cC (.int 1)))) (cBin oMul (cBin oIx (cVar 1) (cC (.int 0))) (cBin oIx (cVar 0) (cC (.int 1)))), cBin oMul (cBin oIx (cVar 0) (cC (.int 1))) (cBin oIx (cVar 1) (cC (.int 1)))])
noncomputable def F_plus : Dn.Fn := dBody 2 S_plus
theorem u_plus {a0 a1 : RV} {f : Feed} : F_plus [a0, a1] f = dEnd (S_plus [fnSlot a0, fnSlot a1] f) := rfl
/-- times(one, other); slots: 0 one, 1 other -/
noncomputable def S_times : Sm := sRet (cCall F_ratio [cBin oMul (cBin oIx (cVar 0) (cC (.int 0))) (cBin oIx (cVar 1) (cC (.int 0))), cBin oMul (cBin oIx (cVar 0) (cC (.int 1))) (cBin oIx (cVar 1) (cC (.int 1)))])
noncomputable def F_times : Dn.Fn := dBody 2 S_times
theorem u_times {a0 a1 : RV} {f : Feed} : F_times [a0, a1] f = dEnd (S_times [fnSlot a0, fnSlot a1] f) := rfl
/-- is_whole(thing); slots: 0 thing -/
noncomputable def S_is_whole : Sm := sRet (cAnd (cUn (oIsi "int") (cVar 0)) (cUn cNot (cUn (oIsi "bool") (cVar 0))))
noncomputable def F_is_whole : Dn.Fn := dBody 1 S_is_whole
theorem u_is_whole {a0 : RV} {f : Feed} : F_is_whole [a0] f = dEnd (S_is_whole [fnSlot a0] f) := rfl
/-- is_ratio(thing); slots: 0 thing -/
noncomputable def S_is_ratio : Sm := sSeq (sIf (tOrX (tNotX (cT (cUn (oIsi "tuple") (cVar 0)))) (tOrX (cT (cBin oNe (cUn oLen (cVar 0)) (cC (.int 2)))) (tOrX (tNotX (cT (cCall F_is_whole [cBin oIx (cVar 0) (cC (.int 0))]))) (tNotX (cT (cCall F_is_whole [cBin oIx (cVar 0) (cC (.int 1))])))))) (sRet (cC (.bool false))) (sNext)) (sRet (cAnd (cBin oGe (cBin oIx (cVar 0) (cC (.int 1))) (cC (.int 1))) (cBin oEq (cCall F_common [cUn oAbs (cBin oIx (cVar 0) (cC (.int 0))), cBin oIx (cVar 0) (cC (.int 1))]) (cC (.int 1)))))
noncomputable def F_is_ratio : Dn.Fn := dBody 1 S_is_ratio
theorem u_is_ratio {a0 : RV} {f : Feed} : F_is_ratio [a0] f = dEnd (S_is_ratio [fnSlot a0] f) := rfl
/-- chain(kinds); slots: 0 kinds, 1 rows, 2 triples, 3 row, 4 stretch, 5 following, 6 chance, 7 triple -/
noncomputable def S_chain : Sm := sSeq (sSet 1 (cLst [])) (sSeq (sFor (iSeq (cVar 0)) (.one 2) (sSeq (sSet 3 (cLc (iSeq (cVar 0)) (.one 7) (cYes) (cC d_NOUGHT) [7])) (sSeq (sFor (iSeq (cVar 2)) (.many [4, 5, 6]) (sPut 3 (cVar 5) (cCall F_plus [cBin oIx (cVar 3) (cVar 5), cVar 6]))) (sSeq (sFrz 3) (sApp 1 (cUn oTuple (cVar 3))))))) (sSeq (sFrz 1) (sRet (cUn oTuple (cVar 1)))))
noncomputable def F_chain : Dn.Fn := dBody 8 S_chain
theorem u_chain {a0 : RV} {f : Feed} : F_chain [a0] f = dEnd (S_chain [fnSlot a0, .emp, .emp, .emp, .emp, .emp, .emp, .emp] f) := rfl
/-- _law_draw(_law_feed_here, _law_size); slots: 0 _law_feed_here, 1 _law_size, 2 _law_turn, 3 _law_digit, 4 _law_at, 5 _law_cell, 6 _law_mixed -/
noncomputable def S_q_draw_v3 : Sm := sSeq (sSet 2 (cBin oAdd (cFeed "turn" (cVar 0)) (cC (.int 1)))) (sSeq (sFeed "turn" (cVar 0) (cVar 2)) (sSeq (sIf (cT (cBin oGt (cFeed "left" (cVar 0)) (cC (.int 0)))) (sSeq (sSet 3 (cBin oMod (cFeed "left" (cVar 0)) (cVar 1))) (sSeq (sFeed "left" (cVar 0) (cBin oDiv (cFeed "left" (cVar 0)) (cVar 1))) (sRet (cVar 3)))) (sNext)) (sSeq (sSet 4 (cFeed "at" (cVar 0))) (sSeq (sFeed "at" (cVar 0) (cBin oAdd (cVar 4) (cC (.int 1)))) (sSeq (sSet 5 (cIf (cT (cBin oNe (cFeed "cells" (cVar 0)) (cLst []))) (cBin oIx (cFeed "cells" (cVar 0)) (cBin oMod (cVar 4) (cUn oLen (cFeed "cells" (cVar 0))))) (cC (.int 5)))) (sSeq (sIf (tAndX (cT (cBin oGe (cVar 5) (cBin oPow (cC (.int 10)) (cC (.int 18))))) (cT (cBin oLt (cVar 4) (cUn oLen (cFeed "cells" (cVar 0)))))) (sSeq (sFeed "left" (cVar 0) (cBin oDiv (cVar 5) (cVar 1))) (sRet (cBin oMod (cVar 5) (cVar 1)))) (sNext)) (sSeq (sSet 6 (cBin oMod (cBin oPow (cBin oAdd (cBin oAdd (cBin oMod (cVar 5) (cC (.int 999983))) (cBin oMul (cC (.int 40009)) (cVar 2))) (cC (.int 11))) (cC (.int 5))) (cC (.int 2147483647)))) (sSeq (sSet 6 (cBin oMod (cBin oPow (cBin oAdd (cVar 6) (cBin oMul (cC (.int 99991)) (cVar 2))) (cC (.int 5))) (cC (.int 2147483587)))) (sRet (cBin oMod (cBin oDiv (cVar 6) (cC (.int 16))) (cVar 1)))))))))))
noncomputable def F_q_draw_v3 : Dn.Fn := dBody 7 S_q_draw_v3
theorem u_q_draw_v3 {a0 a1 : RV} {f : Feed} : F_q_draw_v3 [a0, a1] f = dEnd (S_q_draw_v3 [fnSlot a0, fnSlot a1, .emp, .emp, .emp, .emp, .emp] f) := rfl
/-- _law_lowest(_law_top, _law_bottom); slots: 0 _law_top, 1 _law_bottom, 2 _law_one, 3 _law_other -/
noncomputable def S_q_lowest : Sm := sSeq (sPar 2 3 (cUn oAbs (cVar 0)) (cVar 1)) (sSeq (sWhile (cT (cBin oGt (cVar 3) (cC (.int 0)))) (sPar 2 3 (cVar 3) (cBin oMod (cVar 2) (cVar 3)))) (sRet (cTup [cBin oDiv (cVar 0) (cVar 2), cBin oDiv (cVar 1) (cVar 2)])))
noncomputable def F_q_lowest : Dn.Fn := dBody 4 S_q_lowest
theorem u_q_lowest {a0 a1 : RV} {f : Feed} : F_q_lowest [a0, a1] f = dEnd (S_q_lowest [fnSlot a0, fnSlot a1, .emp, .emp] f) := rfl
/-- _law_add(_law_one, _law_other); slots: 0 _law_one, 1 _law_other -/
noncomputable def S_q_add : Sm := sRet (cCall F_q_lowest [cBin oAdd (cBin oMul (cBin oIx (cVar 0) (cC (.int 0))) (cBin oIx (cVar 1) (cC (.int 1)))) (cBin oMul (cBin oIx (cVar 1) (cC (.int 0))) (cBin oIx (cVar 0) (cC (.int 1)))), cBin oMul (cBin oIx (cVar 0) (cC (.int 1))) (cBin oIx (cVar 1) (cC (.int 1)))])
noncomputable def F_q_add : Dn.Fn := dBody 2 S_q_add
theorem u_q_add {a0 a1 : RV} {f : Feed} : F_q_add [a0, a1] f = dEnd (S_q_add [fnSlot a0, fnSlot a1] f) := rfl
/-- _law_all(_law_numbers); slots: 0 _law_numbers, 1 _law_found, 2 _law_number -/
noncomputable def S_q_all : Sm := sSeq (sSet 1 (cTup [cC (.int 0), cC (.int 1)])) (sSeq (sFor (iSeq (cVar 0)) (.one 2) (sSet 1 (cCall F_q_add [cVar 1, cVar 2]))) (sRet (cVar 1)))
noncomputable def F_q_all : Dn.Fn := dBody 3 S_q_all
theorem u_q_all {a0 : RV} {f : Feed} : F_q_all [a0] f = dEnd (S_q_all [fnSlot a0, .emp, .emp] f) := rfl
/-- _law_rows(_law_kinds_here); slots: 0 _law_kinds_here, 1 _law_rows_here, 2 _law_triples, 3 _law_k, 4 _law_one -/
noncomputable def S_q_rows_v2 : Sm := sSeq (sSet 1 (cLst [])) (sSeq (sFor (iSeq (cVar 0)) (.one 2) (sApp 1 (cUn oTuple (cLc (iRange1 (cUn oLen (cVar 0))) (.one 3) (cYes) (cCall F_q_all [cLc (iSeq (cVar 2)) (.one 4) (cT (cBin oEq (cBin oIx (cVar 4) (cC (.int 1))) (cVar 3))) (cBin oIx (cVar 4) (cC (.int 2))) [4]]) [3])))) (sSeq (sFrz 1) (sRet (cUn oTuple (cVar 1)))))
noncomputable def F_q_rows_v2 : Dn.Fn := dBody 5 S_q_rows_v2
theorem u_q_rows_v2 {a0 : RV} {f : Feed} : F_q_rows_v2 [a0] f = dEnd (S_q_rows_v2 [fnSlot a0, .emp, .emp, .emp, .emp] f) := rfl
/-- is_place(thing, size); slots: 0 thing, 1 size -/
noncomputable def S_is_place : Sm := sRet (cAnd (cCall F_is_whole [cVar 0]) (cChain oLe oLt (cC (.int 0)) (cVar 0) (cVar 1)))
noncomputable def F_is_place : Dn.Fn := dBody 2 S_is_place
theorem u_is_place {a0 a1 : RV} {f : Feed} : F_is_place [a0, a1] f = dEnd (S_is_place [fnSlot a0, fnSlot a1] f) := rfl
/-- _law_by(_law_one, _law_other); slots: 0 _law_one, 1 _law_other -/
noncomputable def S_q_by : Sm := sRet (cCall F_q_lowest [cBin oMul (cBin oIx (cVar 0) (cC (.int 0))) (cBin oIx (cVar 1) (cC (.int 0))), cBin oMul (cBin oIx (cVar 0) (cC (.int 1))) (cBin oIx (cVar 1) (cC (.int 1)))])
noncomputable def F_q_by : Dn.Fn := dBody 2 S_q_by
theorem u_q_by {a0 a1 : RV} {f : Feed} : F_q_by [a0, a1] f = dEnd (S_q_by [fnSlot a0, fnSlot a1] f) := rfl
/-- _law_reached(_law_rows_here, _law_kind); slots: 0 _law_rows_here, 1 _law_kind, 2 _law_found, 3 _law_turn, 4 _law_k, 5 _law_j -/
noncomputable def S_q_reached : Sm := sSeq (sSet 2 (cLst [cVar 1])) (sSeq (sFrz 2) (sSeq (sFor (iRange1 (cUn oLen (cVar 0))) (.one 3) (sSeq (sSet 2 (cLc (iRange1 (cUn oLen (cVar 0))) (.one 4) (tOrX (cT (cBin (oInF false) (cVar 4) (cVar 2))) (cT (cBin oNe (cLc (iSeq (cVar 2)) (.one 5) (cT (cBin oNe (cBin oIx (cBin oIx (cVar 0) (cVar 5)) (cVar 4)) (cTup [cC (.int 0), cC (.int 1)]))) (cVar 5) [5]) (cLst [])))) (cVar 4) [4])) (sSeq (sFrz 2) (sNext)))) (sSeq (sFrz 2) (sRet (cUn oTuple (cVar 2))))))
noncomputable def F_q_reached : Dn.Fn := dBody 6 S_q_reached
theorem u_q_reached {a0 a1 : RV} {f : Feed} : F_q_reached [a0, a1] f = dEnd (S_q_reached [fnSlot a0, fnSlot a1, .emp, .emp, .emp, .emp] f) := rfl
/-- _law_homes(_law_rows_here); slots: 0 _law_rows_here, 1 _law_spread, 2 _law_kind, 3 _law_some -/
noncomputable def S_q_homes : Sm := sSeq (sSet 1 (cLc (iRange1 (cUn oLen (cVar 0))) (.one 2) (cYes) (cCall F_q_reached [cVar 0, cVar 2]) [2])) (sSeq (sFrz 1) (sRet (cLc (iRange1 (cUn oLen (cVar 0))) (.one 2) (cT (cBin oEq (cLc (iSeq (cVar 1)) (.one 3) (cT (cBin (oInF true) (cVar 2) (cVar 3))) (cVar 3) [3]) (cLst []))) (cVar 2) [2])))
noncomputable def F_q_homes : Dn.Fn := dBody 4 S_q_homes
theorem u_q_homes {a0 : RV} {f : Feed} : F_q_homes [a0] f = dEnd (S_q_homes [fnSlot a0, .emp, .emp, .emp] f) := rfl
/-- _law_ways_home(_law_feed_here, _law_rows_here, _law_home); slots: 0 _law_feed_here, 1 _law_rows_here, 2 _law_home, 3 _law_led, 4 _law_found, 5 _law_turn, 6 _law_some, 7 _law_kind, 8 _law_following_here -/
noncomputable def S_q_ways_home : Sm := sSeq (sSet 3 (cLst [cVar 2])) (sSeq (sSet 4 (cLst [])) (sSeq (sFor (iRange1 (cUn oLen (cVar 1))) (.one 5) (sSeq (sSet 6 (cLst [])) (sSeq (sFor (iRange1 (cUn oLen (cVar 1))) (.one 7) (sIf (cT (cBin (oInF true) (cVar 7) (cVar 3))) (sExt 6 (cLcO 3 (.one 8) (cT (cBin oNe (cBin oIx (cBin oIx (cVar 1) (cVar 7)) (cVar 8)) (cTup [cC (.int 0), cC (.int 1)]))) (cTup [cVar 7, cVar 8]) [8])) (sNext))) (sSeq (sFrz 6) (sIf (cT (cBin oNe (cVar 6) (cLst []))) (sSeq (sApp 4 (cBin oIx (cVar 6) (cCall F_q_draw_v3 [cVar 0, cUn oLen (cVar 6)]))) (sApp 3 (cBin oIx (cBin oIx (cVar 4) (cUn oNeg (cC (.int 1)))) (cC (.int 0))))) (sNext)))))) (sSeq (sFrz 4) (sRet (cUn oTuple (cVar 4))))))
noncomputable def F_q_ways_home : Dn.Fn := dBody 9 S_q_ways_home
theorem u_q_ways_home {a0 a1 a2 : RV} {f : Feed} : F_q_ways_home [a0, a1, a2] f = dEnd (S_q_ways_home [fnSlot a0, fnSlot a1, fnSlot a2, .emp, .emp, .emp, .emp, .emp, .emp] f) := rfl
/-- _law_is_out(_law_rows_here, _law_kind, _law_some); slots: 0 _law_rows_here, 1 _law_kind, 2 _law_some, 3 _law_k -/
noncomputable def S_q_is_out : Sm := sRet (cBin oNe (cLc (iRange1 (cUn oLen (cVar 0))) (.one 3) (tAndX (cT (cBin oNe (cBin oIx (cBin oIx (cVar 0) (cVar 1)) (cVar 3)) (cTup [cC (.int 0), cC (.int 1)]))) (cT (cBin (oInF true) (cVar 3) (cVar 2)))) (cVar 3) [3]) (cLst []))
noncomputable def F_q_is_out : Dn.Fn := dBody 4 S_q_is_out
theorem u_q_is_out {a0 a1 a2 : RV} {f : Feed} : F_q_is_out [a0, a1, a2] f = dEnd (S_q_is_out [fnSlot a0, fnSlot a1, fnSlot a2, .emp] f) := rfl
/-- _law_whole(_law_thing); slots: 0 _law_thing -/
noncomputable def S_q_whole : Sm := sRet (cAnd (cUn (oIsi "int") (cVar 0)) (cUn cNot (cUn (oIsi "bool") (cVar 0))))
noncomputable def F_q_whole : Dn.Fn := dBody 1 S_q_whole
theorem u_q_whole {a0 : RV} {f : Feed} : F_q_whole [a0] f = dEnd (S_q_whole [fnSlot a0] f) := rfl
/-- _law_is_ratio(_law_thing); slots: 0 _law_thing -/
noncomputable def S_q_is_ratio_v3 : Sm := sSeq (sIf (tOrX (tNotX (cT (cUn (oIsi "tuple") (cVar 0)))) (tOrX (cT (cBin oNe (cUn oLen (cVar 0)) (cC (.int 2)))) (tOrX (tNotX (cT (cCall F_q_whole [cBin oIx (cVar 0) (cC (.int 0))]))) (tNotX (cT (cCall F_q_whole [cBin oIx (cVar 0) (cC (.int 1))])))))) (sRet (cC (.bool false))) (sNext)) (sRet (cAnd (cBin oGt (cBin oIx (cVar 0) (cC (.int 1))) (cC (.int 0))) (cBin oEq (cCall F_q_lowest [cBin oIx (cVar 0) (cC (.int 0)), cBin oIx (cVar 0) (cC (.int 1))]) (cVar 0))))
noncomputable def F_q_is_ratio_v3 : Dn.Fn := dBody 1 S_q_is_ratio_v3
theorem u_q_is_ratio_v3 {a0 : RV} {f : Feed} : F_q_is_ratio_v3 [a0] f = dEnd (S_q_is_ratio_v3 [fnSlot a0] f) := rfl
/-- _law_place(_law_thing, _law_size); slots: 0 _law_thing, 1 _law_size -/
noncomputable def S_q_place : Sm := sRet (cAnd (cCall F_q_whole [cVar 0]) (cChain oLe oLt (cC (.int 0)) (cVar 0) (cVar 1)))
noncomputable def F_q_place : Dn.Fn := dBody 2 S_q_place
theorem u_q_place {a0 a1 : RV} {f : Feed} : F_q_place [a0, a1] f = dEnd (S_q_place [fnSlot a0, fnSlot a1] f) := rfl
/-- _law_closed(_law_rows_here); slots: 0 _law_rows_here, 1 _law_found, 2 _law_number, 3 _law_some, 4 _law_kind -/
noncomputable def S_q_closed : Sm := sSeq (sSet 1 (cLst [])) (sSeq (sFor (iRange2 (cC (.int 1)) (cBin oShl (cC (.int 1)) (cUn oLen (cVar 0)))) (.one 2) (sSeq (sSet 3 (cLc (iRange1 (cUn oLen (cVar 0))) (.one 4) (cT (cBin oEq (cBin oAnd (cBin oShr (cVar 2) (cVar 4)) (cC (.int 1))) (cC (.int 1)))) (cVar 4) [4])) (sSeq (sFrz 3) (sIf (cT (cBin oEq (cLc (iSeq (cVar 3)) (.one 4) (cT (cCall F_q_is_out [cVar 0, cVar 4, cVar 3])) (cVar 4) [4]) (cLst []))) (sApp 1 (cUn oTuple (cVar 3))) (sNext))))) (sRet (cVar 1)))
noncomputable def F_q_closed : Dn.Fn := dBody 5 S_q_closed
theorem u_q_closed {a0 : RV} {f : Feed} : F_q_closed [a0] f = dEnd (S_q_closed [fnSlot a0, .emp, .emp, .emp, .emp] f) := rfl
/-- _law_following(_law_feed_here, _law_way, _law_k, _law_size); slots: 0 _law_feed_here, 1 _law_way, 2 _law_k, 3 _law_size -/
noncomputable def S_q_following : Sm := sSeq (sIf (cT (cBin oEq (cVar 1) (cC (.int 1)))) (sRet (cBin oMod (cBin oAdd (cVar 2) (cC (.int 1))) (cVar 3))) (sNext)) (sSeq (sIf (cT (cBin oEq (cVar 1) (cC (.int 2)))) (sRet (cVar 2)) (sNext)) (sSeq (sIf (cT (cBin oEq (cVar 1) (cC (.int 3)))) (sRet (cBin oMin (cBin oSub (cVar 3) (cC (.int 1))) (cBin oAdd (cBin oMul (cBin oDiv (cVar 2) (cC (.int 2))) (cC (.int 2))) (cCall F_q_draw_v3 [cVar 0, cC (.int 2)])))) (sNext)) (sRet (cIf (cT (cBin oEq (cVar 1) (cC (.int 4)))) (cCall F_q_draw_v3 [cVar 0, cBin oAdd (cVar 2) (cC (.int 1))]) (cCall F_q_draw_v3 [cVar 0, cVar 3])))))
noncomputable def F_q_following : Dn.Fn := dBody 4 S_q_following
theorem u_q_following {a0 a1 a2 a3 : RV} {f : Feed} : F_q_following [a0, a1, a2, a3] f = dEnd (S_q_following [fnSlot a0, fnSlot a1, fnSlot a2, fnSlot a3] f) := rfl
/-- _law_kinds(_law_feed_here, _law_size, _law_is_full); slots: 0 _law_feed_here, 1 _law_size, 2 _law_is_full, 3 _law_way, 4 _law_kinds_here, 5 _law_k, 6 _law_marks, 7 _law_lack, 8 _law_turn, 9 _law_pair, 10 _law_total -/
noncomputable def S_q_kinds : Sm := sSeq (sSet 3 (cCall F_q_draw_v3 [cVar 0, cC (.int 7)])) (sSeq (sSet 4 (cLst [])) (sSeq (sFor (iRange1 (cVar 1)) (.one 5) (sSeq (sDct true 6) (sSeq (sSet 7 (cBin oMul (cBin oIx (cLst [cC (.int 0), cC (.int 0), cC (.int 1), cC (.int 5), cC (.int 9)]) (cCall F_q_draw_v3 [cVar 0, cC (.int 5)])) (cUn oInt (cUn cNot (cVar 2))))) (sSeq (sFor (iRange1 (cBin oAdd (cC (.int 1)) (cCall F_q_draw_v3 [cVar 0, cC (.int 4)]))) (.one 8) (sSeq (sKey 9 (kTup [cBin oAdd (cC (.int 1)) (cCall F_q_draw_v3 [cVar 0, cC (.int 6)]), cCall F_q_following [cVar 0, cVar 3, cVar 5, cVar 1]])) (sDputT 6 (kVar 9) (cBin oAdd (cC (.int 1)) (cCall F_q_draw_v3 [cVar 0, cC (.int 9)]))))) (sSeq (sIf (tAndX (cT (cBin oEq (cVar 7) (cC (.int 9)))) (cT (cBin oEq (cCall F_q_draw_v3 [cVar 0, cC (.int 3)]) (cC (.int 0))))) (sDct true 6) (sNext)) (sSeq (sSet 10 (cBin oAdd (cUn oSum (cDVals 6)) (cVar 7))) (sApp 4 (cUn oTuple (cLc (iSeq (cDSort 6)) (.one 9) (cYes) (cTup [cBin oIx (cVar 9) (cC (.int 0)), cBin oIx (cVar 9) (cC (.int 1)), cCall F_q_lowest [cDGet 6 (cVar 9), cVar 10]]) [9]))))))))) (sSeq (sFrz 4) (sRet (cUn oTuple (cVar 4))))))
noncomputable def F_q_kinds : Dn.Fn := dBody 11 S_q_kinds
theorem u_q_kinds {a0 a1 a2 : RV} {f : Feed} : F_q_kinds [a0, a1, a2] f = dEnd (S_q_kinds [fnSlot a0, fnSlot a1, fnSlot a2, .emp, .emp, .emp, .emp, .emp, .emp, .emp, .emp] f) := rfl
/-- _law_trees(_law_rows_here, _law_home); slots: 0 _law_rows_here, 1 _law_home, 2 _law_size, 3 _law_others, 4 _law_total, 5 _law_number, 6 _law_sent, 7 _law_left, 8 _law_chance, 9 _law_kind, 10 _law_here, 11 _law_turn -/
noncomputable def S_q_trees : Sm := sSeq (sSet 2 (cUn oLen (cVar 0))) (sSeq (sSet 3 (cLc (iRange1 (cVar 2)) (.one 9) (cT (cBin oNe (cVar 9) (cVar 1))) (cVar 9) [9])) (sSeq (sFrz 3) (sSeq (sSet 4 (cTup [cC (.int 0), cC (.int 1)])) (sSeq (sFor (iRange1 (cBin oIx (cLst [cC (.int 1), cC (.int 1), cC (.int 2), cC (.int 9), cC (.int 64)]) (cVar 2))) (.one 5) (sSeq (sDct false 6) (sSeq (sSet 7 (cVar 5)) (sSeq (sSet 8 (cTup [cC (.int 1), cC (.int 1)])) (sSeq (sFor (iSeq (cVar 3)) (.one 9) (sSeq (sDputI 6 (cVar 9) (cBin oMod (cVar 7) (cVar 2))) (sSeq (sSet 7 (cBin oDiv (cVar 7) (cVar 2))) (sSet 8 (cCall F_q_by [cVar 8, cBin oIx (cBin oIx (cVar 0) (cVar 9)) (cDGet 6 (cVar 9))]))))) (sSeq (sFor (iSeq (cBin oMul (cVar 3) (cUn oInt (cBin oGt (cBin oIx (cVar 8) (cC (.int 0))) (cC (.int 0)))))) (.one 9) (sSeq (sSet 10 (cVar 9)) (sSeq (sFor (iRange1 (cVar 2)) (.one 11) (sSet 10 (cDGet2 6 (cVar 10) (cVar 1)))) (sIf (cT (cBin oNe (cVar 10) (cVar 1))) (sSet 8 (cTup [cC (.int 0), cC (.int 1)])) (sNext))))) (sSet 4 (cCall F_q_add [cVar 4, cVar 8])))))))) (sRet (cVar 4))))))
noncomputable def F_q_trees : Dn.Fn := dBody 12 S_q_trees
theorem u_q_trees {a0 a1 : RV} {f : Feed} : F_q_trees [a0, a1] f = dEnd (S_q_trees [fnSlot a0, fnSlot a1, .emp, .emp, .emp, .emp, .emp, .emp, .emp, .emp, .emp, .emp] f) := rfl
/-- _law_weights(_law_rows_here); slots: 0 _law_rows_here, 1 _law_trees_here, 2 _law_top, 3 _law_bottom, 4 _law_kind, 5 _law_one -/
noncomputable def S_q_weights_v2 : Sm := sSeq (sSet 1 (cLc (iRange1 (cUn oLen (cVar 0))) (.one 4) (cYes) (cCall F_q_trees [cVar 0, cVar 4]) [4])) (sSeq (sFrz 1) (sSeq (sAsg (.many [2, 3]) (cCall F_q_all [cVar 1])) (sSeq (sIf (cT (cBin oEq (cVar 2) (cC (.int 0)))) (sRet (cC .none)) (sNext)) (sRet (cUn oTuple (cLc (iSeq (cVar 1)) (.one 5) (cYes) (cCall F_q_lowest [cBin oMul (cBin oIx (cVar 5) (cC (.int 0))) (cVar 3), cBin oMul (cBin oIx (cVar 5) (cC (.int 1))) (cVar 2)]) [5]))))))
noncomputable def F_q_weights_v2 : Dn.Fn := dBody 6 S_q_weights_v2
theorem u_q_weights_v2 {a0 : RV} {f : Feed} : F_q_weights_v2 [a0] f = dEnd (S_q_weights_v2 [fnSlot a0, .emp, .emp, .emp, .emp, .emp] f) := rfl
/-- _law_paper(_law_feed_here, _law_rows_here); slots: 0 _law_feed_here, 1 _law_rows_here, 2 _law_homes_here, 3 _law_home, 4 _law_some, 5 _law_closed_here, 6 _law_one, 7 _law_other, 8 _law_kind -/
noncomputable def S_q_paper_v2 : Sm := sSeq (sSet 2 (cCall F_q_homes [cVar 1])) (sSeq (sFrz 2) (sSeq (sIf (cT (cBin oNe (cVar 2) (cLst []))) (sSeq (sSet 3 (cBin oIx (cVar 2) (cCall F_q_draw_v3 [cVar 0, cUn oLen (cVar 2)]))) (sRet (cTup [cC (.str "share"), cVar 3, cCall F_q_weights_v2 [cVar 1], cCall F_q_ways_home [cVar 0, cVar 1, cVar 3]]))) (sNext)) (sSeq (sSet 4 (cLst [])) (sSeq (sSet 5 (cCall F_q_closed [cVar 1])) (sSeq (sFrz 5) (sSeq (sFor (iSeq (cVar 5)) (.one 6) (sFor (iSeq (cVar 5)) (.one 7) (sIf (cT (cBin oEq (cLc (iSeq (cVar 6)) (.one 8) (cT (cBin (oInF false) (cVar 8) (cVar 7))) (cVar 8) [8]) (cLst []))) (sApp 4 (cTup [cC (.str "apart"), cVar 6, cVar 7])) (sNext)))) (sSeq (sFrz 4) (sRet (cBin oIx (cVar 4) (cCall F_q_draw_v3 [cVar 0, cUn oLen (cVar 4)]))))))))))
noncomputable def F_q_paper_v2 : Dn.Fn := dBody 9 S_q_paper_v2
theorem u_q_paper_v2 {a0 a1 : RV} {f : Feed} : F_q_paper_v2 [a0, a1] f = dEnd (S_q_paper_v2 [fnSlot a0, fnSlot a1, .emp, .emp, .emp, .emp, .emp, .emp, .emp] f) := rfl
/-- is_named(thing, word, length); slots: 0 thing, 1 word, 2 length -/
noncomputable def S_is_named : Sm := sRet (cAnd (cUn (oIsi "tuple") (cVar 0)) (cAnd (cBin oEq (cUn oLen (cVar 0)) (cVar 2)) (cAnd (cUn (oIsi "str") (cBin oIx (cVar 0) (cC (.int 0)))) (cBin oEq (cBin oIx (cVar 0) (cC (.int 0))) (cVar 1)))))
noncomputable def F_is_named : Dn.Fn := dBody 3 S_is_named
theorem u_is_named {a0 a1 a2 : RV} {f : Feed} : F_is_named [a0, a1, a2] f = dEnd (S_is_named [fnSlot a0, fnSlot a1, fnSlot a2] f) := rfl
/-- is_pair_of_kinds(thing, size); slots: 0 thing, 1 size, 2 one -/
noncomputable def S_is_pair_of_kinds : Sm := sRet (cAnd (cUn (oIsi "tuple") (cVar 0)) (cAnd (cBin oEq (cUn oLen (cVar 0)) (cC (.int 2))) (cUn oAll (cLc (iSeq (cVar 0)) (.one 2) (cYes) (cCall F_is_place [cVar 2, cVar 1]) [2]))))
noncomputable def F_is_pair_of_kinds : Dn.Fn := dBody 3 S_is_pair_of_kinds
theorem u_is_pair_of_kinds {a0 a1 : RV} {f : Feed} : F_is_pair_of_kinds [a0, a1] f = dEnd (S_is_pair_of_kinds [fnSlot a0, fnSlot a1, .emp] f) := rfl
/-- is_share_shape(thing, size); slots: 0 thing, 1 size, 2 weights, 3 ways, 4 one -/
noncomputable def S_is_share_shape : Sm := sSeq (sIf (tOrX (tNotX (cT (cCall F_is_named [cVar 0, cC (.str "share"), cC (.int 4)]))) (tNotX (cT (cCall F_is_place [cBin oIx (cVar 0) (cC (.int 1)), cVar 1])))) (sRet (cC (.bool false))) (sNext)) (sSeq (sAsg (.many [2, 3]) (cSl (cVar 0) (some (cC (.int 2))) none)) (sSeq (sIf (tOrX (tNotX (cT (cUn (oIsi "tuple") (cVar 2)))) (tOrX (cT (cBin oNe (cUn oLen (cVar 2)) (cVar 1))) (tNotX (cT (cUn oAll (cLc (iSeq (cVar 2)) (.one 4) (cYes) (cCall F_is_ratio [cVar 4]) [4])))))) (sRet (cC (.bool false))) (sNext)) (sSeq (sIf (tOrX (tNotX (cT (cUn (oIsi "tuple") (cVar 3)))) (cT (cBin oGt (cUn oLen (cVar 3)) (cC d_MOST_WAYS_v2)))) (sRet (cC (.bool false))) (sNext)) (sRet (cUn oAll (cLc (iSeq (cVar 3)) (.one 4) (cYes) (cCall F_is_pair_of_kinds [cVar 4, cVar 1]) [4]))))))
noncomputable def F_is_share_shape : Dn.Fn := dBody 5 S_is_share_shape
theorem u_is_share_shape {a0 a1 : RV} {f : Feed} : F_is_share_shape [a0, a1] f = dEnd (S_is_share_shape [fnSlot a0, fnSlot a1, .emp, .emp, .emp] f) := rfl
/-- is_rising_kinds(thing, size); slots: 0 thing, 1 size, 2 k, 3 one -/
noncomputable def S_is_rising_kinds : Sm := sSeq (sIf (tOrX (tNotX (cT (cUn (oIsi "tuple") (cVar 0)))) (tOrX (cT (cBin oEq (cVar 0) (cTup []))) (tNotX (cT (cUn oAll (cLc (iSeq (cVar 0)) (.one 3) (cYes) (cCall F_is_place [cVar 3, cVar 1]) [3])))))) (sRet (cC (.bool false))) (sNext)) (sRet (cUn oAll (cLc (iRange1 (cBin oSub (cUn oLen (cVar 0)) (cC (.int 1)))) (.one 2) (cYes) (cBin oLt (cBin oIx (cVar 0) (cVar 2)) (cBin oIx (cVar 0) (cBin oAdd (cVar 2) (cC (.int 1))))) [2])))
noncomputable def F_is_rising_kinds : Dn.Fn := dBody 4 S_is_rising_kinds
theorem u_is_rising_kinds {a0 a1 : RV} {f : Feed} : F_is_rising_kinds [a0, a1] f = dEnd (S_is_rising_kinds [fnSlot a0, fnSlot a1, .emp, .emp] f) := rfl
/-- is_apart_shape(thing, size); slots: 0 thing, 1 size, 2 some -/
noncomputable def S_is_apart_shape : Sm := sRet (cAnd (cCall F_is_named [cVar 0, cC (.str "apart"), cC (.int 3)]) (cUn oAll (cLc (iSeq (cSl (cVar 0) (some (cC (.int 1))) none)) (.one 2) (cYes) (cCall F_is_rising_kinds [cVar 2, cVar 1]) [2])))
noncomputable def F_is_apart_shape : Dn.Fn := dBody 3 S_is_apart_shape
theorem u_is_apart_shape {a0 a1 : RV} {f : Feed} : F_is_apart_shape [a0, a1] f = dEnd (S_is_apart_shape [fnSlot a0, fnSlot a1, .emp] f) := rfl
/-- look_at_weights(rows, weights); slots: 0 rows, 1 weights, 2 total, 3 weight, 4 kind, 5 other, 6 row -/
noncomputable def S_look_at_weights_X : Sm := sSeq (sSet 2 (cC d_NOUGHT)) (sSeq (sFor (iSeq (cVar 1)) (.one 3) (sSet 2 (cCall F_plus [cVar 2, cVar 3]))) (sSeq (sIf (cT (cBin oNe (cVar 2) (cC d_ONE))) (sRaise "NoPaper" ["word", "place"] [cC (.str "whole"), cC (.int 0)]) (sNext)) (sFor (iEnum (cVar 1)) (.many [4, 3]) (sSeq (sSet 2 (cC d_NOUGHT)) (sSeq (sFor (iEnum (cVar 0)) (.many [5, 6]) (sSet 2 (cCall F_plus [cVar 2, cCall F_times [cBin oIx (cVar 1) (cVar 5), cBin oIx (cVar 6) (cVar 4)]]))) (sIf (cT (cBin oNe (cVar 2) (cVar 3))) (sRaise "NoPaper" ["word", "place"] [cC (.str "weight"), cVar 4]) (sNext)))))))
noncomputable def F_look_at_weights_X : Dn.Fn := dBodyX 7 S_look_at_weights_X
theorem u_look_at_weights_X {a0 a1 : RV} {f : Feed} : F_look_at_weights_X [a0, a1] f = dEndX (S_look_at_weights_X [fnSlot a0, fnSlot a1, .emp, .emp, .emp, .emp, .emp] f) := rfl
/-- is_led_to(rows, kind, following); slots: 0 rows, 1 kind, 2 following -/
noncomputable def S_is_led_to : Sm := sRet (cBin oNe (cBin oIx (cBin oIx (cVar 0) (cVar 1)) (cVar 2)) (cC d_NOUGHT))
noncomputable def F_is_led_to : Dn.Fn := dBody 3 S_is_led_to
theorem u_is_led_to {a0 a1 a2 : RV} {f : Feed} : F_is_led_to [a0, a1, a2] f = dEnd (S_is_led_to [fnSlot a0, fnSlot a1, fnSlot a2] f) := rfl
/-- look_at_ways(rows, home, ways); slots: 0 rows, 1 home, 2 ways, 3 led, 4 place, 5 pair, 6 kind, 7 following -/
noncomputable def S_look_at_ways_X : Sm := sSeq (sSet 3 (cLst [cVar 1])) (sSeq (sFor (iEnum (cVar 2)) (.many [4, 5]) (sSeq (sAsg (.many [6, 7]) (cVar 5)) (sSeq (sIf (tOrX (cT (cBin (oInF false) (cVar 6) (cVar 3))) (tOrX (tNotX (cT (cCall F_is_led_to [cVar 0, cVar 6, cVar 7]))) (cT (cBin (oInF true) (cVar 7) (cVar 3))))) (sRaise "NoPaper" ["word", "place"] [cC (.str "way"), cVar 4]) (sNext)) (sApp 3 (cVar 6))))) (sSeq (sFrz 3) (sFor (iRange1 (cUn oLen (cVar 0))) (.one 6) (sIf (cT (cBin (oInF true) (cVar 6) (cVar 3))) (sRaise "NoPaper" ["word", "place"] [cC (.str "lacks"), cVar 6]) (sNext)))))
noncomputable def F_look_at_ways_X : Dn.Fn := dBodyX 8 S_look_at_ways_X
theorem u_look_at_ways_X {a0 a1 a2 : RV} {f : Feed} : F_look_at_ways_X [a0, a1, a2] f = dEndX (S_look_at_ways_X [fnSlot a0, fnSlot a1, fnSlot a2, .emp, .emp, .emp, .emp, .emp] f) := rfl
/-- look_at_apart(rows, one, other); slots: 0 rows, 1 one, 2 other, 3 kind, 4 some, 5 following -/
noncomputable def S_look_at_apart_X : Sm := sSeq (sFor (iSeq (cVar 1)) (.one 3) (sIf (cT (cBin (oInF false) (cVar 3) (cVar 2))) (sRaise "NoPaper" ["word", "place"] [cC (.str "both"), cVar 3]) (sNext))) (sFor (iSeq (cTup [cVar 1, cVar 2])) (.one 4) (sFor (iSeq (cVar 4)) (.one 3) (sIf (tNotX (cT (cUn oAll (cLc (iRange1 (cUn oLen (cVar 0))) (.one 5) (cT (cCall F_is_led_to [cVar 0, cVar 3, cVar 5])) (cBin (oInF false) (cVar 5) (cVar 4)) [5])))) (sRaise "NoPaper" ["word", "place"] [cC (.str "out"), cVar 3]) (sNext))))
noncomputable def F_look_at_apart_X : Dn.Fn := dBodyX 6 S_look_at_apart_X
theorem u_look_at_apart_X {a0 a1 a2 : RV} {f : Feed} : F_look_at_apart_X [a0, a1, a2] f = dEndX (S_look_at_apart_X [fnSlot a0, fnSlot a1, fnSlot a2, .emp, .emp, .emp] f) := rfl
/-- lets_share(kinds, thing); slots: 0 kinds, 1 thing, 2 rows -/
noncomputable def S_lets_share_X : Sm := sSeq (sSet 2 (cCall F_chain [cVar 0])) (sSeq (sIf (cT (cCall F_is_share_shape [cVar 1, cUn oLen (cVar 0)])) (sSeq (sDrop (cCall F_look_at_weights_X [cVar 2, cBin oIx (cVar 1) (cC (.int 2))])) (sSeq (sDrop (cCall F_look_at_ways_X [cVar 2, cBin oIx (cVar 1) (cC (.int 1)), cBin oIx (cVar 1) (cC (.int 3))])) (sRet (cC (.str "share"))))) (sNext)) (sSeq (sIf (cT (cCall F_is_apart_shape [cVar 1, cUn oLen (cVar 0)])) (sSeq (sDrop (cCall F_look_at_apart_X [cVar 2, cBin oIx (cVar 1) (cC (.int 1)), cBin oIx (cVar 1) (cC (.int 2))])) (sRet (cC (.str "apart")))) (sNext)) (sRaise "NoPaper" ["word", "place"] [cC (.str "shape"), cC (.int 0)])))
noncomputable def F_lets_share_X : Dn.Fn := dBodyX 3 S_lets_share_X
theorem u_lets_share_X {a0 a1 : RV} {f : Feed} : F_lets_share_X [a0, a1] f = dEndX (S_lets_share_X [fnSlot a0, fnSlot a1, .emp] f) := rfl
/-- _law_told(_law_kinds_here, _law_thing); slots: 0 _law_kinds_here, 1 _law_thing, 2 _law_found, 3 e, 4 _law_others -/
noncomputable def S_q_told_v4 : Sm := sSeq (sSet 2 (cC (.str "other"))) (sSeq (sTryS 2 3 (cLst [cCall F_lets_share_X [cVar 0, cVar 1]]) ["NoPaper"] (sSeq (sSet 4 (cUn (oIsEs ["NoAge", "NoBeat", "NoLines", "NoName", "NoRatio", "NoRow", "NoText", "TooMany"]) (cVar 3))) (sIf (tAndX (cT (cUn (oIsE "NoPaper") (cVar 3))) (tAndX (cT (cUn (oIsE "ValueError") (cVar 3))) (tNotX (cT (cVar 4))))) (sSet 2 (cTup [cUn (oFld "word") (cVar 3), cUn (oFld "place") (cVar 3)])) (sNext)))) (sRet (cVar 2)))
noncomputable def F_q_told_v4 : Dn.Fn := dBody 5 S_q_told_v4
theorem u_q_told_v4 {a0 a1 : RV} {f : Feed} : F_q_told_v4 [a0, a1] f = dEnd (S_q_told_v4 [fnSlot a0, fnSlot a1, .emp, .emp, .emp] f) := rfl
/-- _law_is_shape(_law_thing, _law_size); slots: 0 _law_thing, 1 _law_size, 2 _law_one, 3 _law_some, 4 _law_k -/
noncomputable def S_q_is_shape_v2 : Sm := sSeq (sIf (tOrX (tNotX (cT (cUn (oIsi "tuple") (cVar 0)))) (tOrX (cT (cBin (oInF true) (cUn oLen (cVar 0)) (cTup [cC (.int 3), cC (.int 4)]))) (tNotX (cT (cUn (oIsi "str") (cBin oIx (cVar 0) (cC (.int 0)))))))) (sRet (cC (.bool false))) (sNext)) (sSeq (sIf (cT (cBin oNe (cBin oIx (cVar 0) (cC (.int 0))) (cBin oIx (cLst [cC (.str "apart"), cC (.str "share")]) (cBin oSub (cUn oLen (cVar 0)) (cC (.int 3)))))) (sRet (cC (.bool false))) (sNext)) (sSeq (sIf (cT (cBin oEq (cUn oLen (cVar 0)) (cC (.int 4)))) (sSeq (sIf (tOrX (tNotX (cT (cCall F_q_place [cBin oIx (cVar 0) (cC (.int 1)), cVar 1]))) (tOrX (tNotX (cT (cUn (oIsi "tuple") (cBin oIx (cVar 0) (cC (.int 2)))))) (cT (cBin oNe (cUn oLen (cBin oIx (cVar 0) (cC (.int 2)))) (cVar 1))))) (sRet (cC (.bool false))) (sNext)) (sSeq (sIf (tOrX (cT (cBin (oInF false) (cC (.bool false)) (cLc (iSeq (cBin oIx (cVar 0) (cC (.int 2)))) (.one 2) (cYes) (cCall F_q_is_ratio_v3 [cVar 2]) [2]))) (tOrX (tNotX (cT (cUn (oIsi "tuple") (cBin oIx (cVar 0) (cC (.int 3)))))) (cT (cBin oGt (cUn oLen (cBin oIx (cVar 0) (cC (.int 3)))) (cC (.int 3)))))) (sRet (cC (.bool false))) (sNext)) (sSeq (sFor (iSeq (cBin oIx (cVar 0) (cC (.int 3)))) (.one 2) (sIf (tOrX (tNotX (cT (cUn (oIsi "tuple") (cVar 2)))) (tOrX (cT (cBin oNe (cUn oLen (cVar 2)) (cC (.int 2)))) (cT (cBin (oInF false) (cC (.bool false)) (cLc (iSeq (cVar 2)) (.one 4) (cYes) (cCall F_q_place [cVar 4, cVar 1]) [4]))))) (sRet (cC (.bool false))) (sNext))) (sRet (cC (.bool true)))))) (sNext)) (sSeq (sFor (iSeq (cSl (cVar 0) (some (cC (.int 1))) none)) (.one 3) (sSeq (sIf (tOrX (tNotX (cT (cUn (oIsi "tuple") (cVar 3)))) (tOrX (cT (cBin oEq (cVar 3) (cTup []))) (cT (cBin (oInF false) (cC (.bool false)) (cLc (iSeq (cVar 3)) (.one 4) (cYes) (cCall F_q_place [cVar 4, cVar 1]) [4]))))) (sRet (cC (.bool false))) (sNext)) (sIf (cT (cBin oNe (cUn oList (cVar 3)) (cUn oSortSetI (cVar 3)))) (sRet (cC (.bool false))) (sNext)))) (sRet (cC (.bool true))))))
noncomputable def F_q_is_shape_v2 : Dn.Fn := dBody 5 S_q_is_shape_v2
theorem u_q_is_shape_v2 {a0 a1 : RV} {f : Feed} : F_q_is_shape_v2 [a0, a1] f = dEnd (S_q_is_shape_v2 [fnSlot a0, fnSlot a1, .emp, .emp, .emp] f) := rfl
/-- _law_due(_law_kinds_here, _law_thing); slots: 0 _law_kinds_here, 1 _law_thing, 2 _law_rows_here, 3 _law_size, 4 _law_kind, 5 _law_some, 6 _law_word, 7 _law_home, 8 _law_weights_here, 9 _law_ways, 10 _law_led, 11 _law_at, 12 _law_following_here, 13 _law_out, 14 _law_k -/
noncomputable def S_q_due_v7 : Sm := sSeq (sSet 2 (cCall F_q_rows_v2 [cVar 0])) (sSeq (sSet 3 (cUn oLen (cVar 2))) (sSeq (sIf (tNotX (cT (cCall F_q_is_shape_v2 [cVar 1, cVar 3]))) (sRet (cTup [cC (.str "shape"), cC (.int 0)])) (sNext)) (sSeq (sIf (cT (cBin oEq (cBin oIx (cVar 1) (cC (.int 0))) (cC (.str "apart")))) (sSeq (sFor (iSeq (cBin oIx (cVar 1) (cC (.int 1)))) (.one 4) (sIf (cT (cBin (oInF false) (cVar 4) (cBin oIx (cVar 1) (cC (.int 2))))) (sRet (cTup [cC (.str "both"), cVar 4])) (sNext))) (sSeq (sFor (iSeq (cSl (cVar 1) (some (cC (.int 1))) none)) (.one 5) (sFor (iSeq (cVar 5)) (.one 4) (sIf (cT (cCall F_q_is_out [cVar 2, cVar 4, cVar 5])) (sRet (cTup [cC (.str "out"), cVar 4])) (sNext)))) (sRet (cLst [cC (.str "apart")])))) (sNext)) (sSeq (sAsg (.many [6, 7, 8, 9]) (cVar 1)) (sSeq (sIf (cT (cBin oNe (cCall F_q_all [cVar 8]) (cTup [cC (.int 1), cC (.int 1)]))) (sRet (cTup [cC (.str "whole"), cC (.int 0)])) (sNext)) (sSeq (sFor (iRange1 (cVar 3)) (.one 4) (sIf (cT (cBin oNe (cCall F_q_all [cLc (iRange1 (cVar 3)) (.one 14) (cYes) (cCall F_q_by [cBin oIx (cVar 8) (cVar 14), cBin oIx (cBin oIx (cVar 2) (cVar 14)) (cVar 4)]) [14]]) (cBin oIx (cVar 8) (cVar 4)))) (sRet (cTup [cC (.str "weight"), cVar 4])) (sNext))) (sSeq (sSet 10 (cLst [cVar 7])) (sSeq (sFor (iRange1 (cUn oLen (cVar 9))) (.one 11) (sSeq (sAsg (.many [4, 12]) (cBin oIx (cVar 9) (cVar 11))) (sSeq (sIf (tOrX (cT (cBin (oInF false) (cVar 4) (cVar 10))) (tOrX (cT (cBin oEq (cBin oIx (cBin oIx (cVar 2) (cVar 4)) (cVar 12)) (cTup [cC (.int 0), cC (.int 1)]))) (cT (cBin (oInF true) (cVar 12) (cVar 10))))) (sRet (cTup [cC (.str "way"), cVar 11])) (sNext)) (sApp 10 (cVar 4))))) (sSeq (sFrz 10) (sSeq (sSet 13 (cLc (iRange1 (cVar 3)) (.one 4) (cT (cBin (oInF true) (cVar 4) (cVar 10))) (cVar 4) [4])) (sSeq (sFrz 13) (sRet (cIf (cT (cBin oEq (cVar 13) (cLst []))) (cLst [cC (.str "share")]) (cTup [cC (.str "lacks"), cBin oIx (cVar 13) (cC (.int 0))]))))))))))))))
noncomputable def F_q_due_v7 : Dn.Fn := dBody 15 S_q_due_v7
theorem u_q_due_v7 {a0 a1 : RV} {f : Feed} : F_q_due_v7 [a0, a1] f = dEnd (S_q_due_v7 [fnSlot a0, fnSlot a1, .emp, .emp, .emp, .emp, .emp, .emp, .emp, .emp, .emp, .emp, .emp, .emp, .emp] f) := rfl
end Fp
namespace Fp
open PySem PySem.Spec L2 Dn
/-- no dict, small texts, ints of at most 560 figures, depth and bulk bounded -/
structure Nice (b k : Nat) (d : PyData) : Prop where
  can : d.canLay0 = true
  sh : d.showable = true
  short : d.intsShort 600 = true
  dep : d.depth ≤ k
  bk : d.bulk ≤ b
structure NiceL (b k : Nat) (ds : List PyData) : Prop where
  can : PyData.canLayAll0 ds = true
  sh : PyData.showableAll ds = true
  short : PyData.intsShortAll 600 ds = true
  dep : PyData.depthAll ds ≤ k
  bk : PyData.bulkAll ds ≤ b
theorem Nice.up {b k c l : Nat} {d : PyData} (h : Nice b k d) (hb : b ≤ c) (hk : k ≤ l) : Nice c l d := ⟨h.can, h.sh, h.short, Nat.le_trans h.dep hk, Nat.le_trans h.bk hb⟩
theorem Nice.shaped {b k : Nat} {d : PyData} (h : Nice b k d) (hk : k ≤ 64) : SeqAt.shaped d = true := by
  unfold SeqAt.shaped
  rw [h.can, decide_eq_true (Nat.le_trans h.dep hk)]
  rfl
theorem Nice.shows {b k : Nat} {d : PyData} (h : Nice b k d) (hk : k ≤ 60) (hb : b ≤ 16000) : shows d = true := by
  have hd : d.hasDict = false := PyData.hasDict_of_canLay d h.can
  have hl := PyData.shown_le_bulk 600 (by decide) d (PyData.leavesShort_of_canLay0 600 d h.can h.short)
  have h3 : d.shown.length ≤ 10000000 := by
    have := h.bk
    have e : (600 + 2) * d.bulk ≤ 602 * 16000 := Nat.mul_le_mul_left _ (by omega)
    omega
  unfold Dn.shows
  rw [h.sh, hd, decide_eq_true (Nat.le_trans h.dep hk), decide_eq_true h3]
  rfl
theorem nice_int {i : Int} (h : i.natAbs < 10 ^ 560) : Nice 0 0 (.int i) := by
  refine ⟨rfl, ?_, ?_, Nat.le_refl 0, Nat.le_refl 0⟩
  · simp only [PyData.showable, decide_eq_true_eq]
    by_cases z : i.natAbs = 0
    · rw [z]
      decide
    · rw [Nat.log2_lt z]
      exact Nat.lt_of_lt_of_le h (by decide)
  · simp only [PyData.intsShort, decide_eq_true_eq]
    have e := int_text_length_le10 (k := 560) (by decide) h
    show (Str.ofString (toString i)).length ≤ 600
    rw [ofString_length]
    omega
theorem niceL_nil {k : Nat} : NiceL 0 k [] := ⟨rfl, rfl, rfl, Nat.zero_le _, Nat.le_refl 0⟩
theorem niceL_cons {b c k : Nat} {d : PyData} {ds : List PyData} (h : Nice b k d) (t : NiceL c k ds) : NiceL (b + 1 + c) k (d :: ds) := by
  refine ⟨?_, ?_, ?_, ?_, ?_⟩
  · simp only [PyData.canLayAll0, h.can, t.can, Bool.and_self]
  · simp only [PyData.showableAll, h.sh, t.sh, Bool.and_self]
  · simp only [PyData.intsShortAll, h.short, t.short, Bool.and_self]
  · simp only [PyData.depthAll]
    exact Nat.max_le.mpr ⟨h.dep, t.dep⟩
  · simp only [PyData.bulkAll]
    have := h.bk
    have := t.bk
    omega
theorem niceL_of {b k : Nat} : ∀ {ds : List PyData}, (∀ d ∈ ds, Nice b k d) → NiceL (ds.length * (b + 1)) k ds
  | [], _ => by
    rw [List.length_nil, Nat.zero_mul]
    exact niceL_nil
  | d :: ds, h => by
    have q := niceL_cons (h d List.mem_cons_self) (niceL_of fun e he => h e (List.mem_cons_of_mem _ he))
    have e : (d :: ds).length * (b + 1) = b + 1 + ds.length * (b + 1) := by
      rw [List.length_cons, Nat.add_mul, Nat.one_mul, Nat.add_comm]
    rw [e]
    exact q
theorem NiceL.up {b k c l : Nat} {ds : List PyData} (h : NiceL b k ds) (hb : b ≤ c) (hk : k ≤ l) : NiceL c l ds := ⟨h.can, h.sh, h.short, Nat.le_trans h.dep hk, Nat.le_trans h.bk hb⟩
theorem nice_tuple {b k : Nat} {ds : List PyData} (h : NiceL b k ds) : Nice b (k + 1) (.tuple ds) :=
  ⟨by simpa only [PyData.canLay0] using h.can, by simpa only [PyData.showable] using h.sh, by simpa only [PyData.intsShort] using h.short, by simpa only [PyData.depth] using Nat.succ_le_succ h.dep, by simpa only [PyData.bulk] using h.bk⟩
theorem canLay_ints : ∀ ns : List Int, PyData.canLayAll0 (ns.map .int) = true
  | [] => rfl
  | n :: r => by
    simp only [List.map_cons, PyData.canLayAll0, PyData.canLay0, canLay_ints r, Bool.and_self]
theorem depth_ints : ∀ ns : List Int, PyData.depthAll (ns.map .int) = 0
  | [] => rfl
  | n :: r => by
    simp only [List.map_cons, PyData.depthAll, PyData.depth, depth_ints r, Nat.max_self]
@[simp] theorem shaped_int {i : Int} : SeqAt.shaped (.int i) = true := rfl
@[simp] theorem shaped_bool {i : Bool} : SeqAt.shaped (.bool i) = true := rfl
theorem shaped_tuple {ds : List PyData} (h : PyData.canLayAll0 ds = true) (h2 : PyData.depthAll ds ≤ 63) : SeqAt.shaped (.tuple ds) = true := by
  unfold SeqAt.shaped
  have e1 : PyData.canLay0 (.tuple ds) = true := by simpa only [PyData.canLay0] using h
  have e2 : PyData.depth (.tuple ds) = PyData.depthAll ds + 1 := by simp only [PyData.depth]
  rw [e1, e2]
  exact decide_eq_true (by omega)
theorem shaped_list {ds : List PyData} (h : PyData.canLayAll0 ds = true) (h2 : PyData.depthAll ds ≤ 63) : SeqAt.shaped (.list ds) = true := by
  unfold SeqAt.shaped
  have e1 : PyData.canLay0 (.list ds) = true := by simpa only [PyData.canLay0] using h
  have e2 : PyData.depth (.list ds) = PyData.depthAll ds + 1 := by simp only [PyData.depth]
  rw [e1, e2]
  exact decide_eq_true (by omega)
@[simp] theorem shaped_list_ints {ns : List Int} : SeqAt.shaped (.list (ns.map .int)) = true := shaped_list (canLay_ints ns) (by rw [depth_ints]; decide)
@[simp] theorem shaped_list_nil : SeqAt.shaped (.list []) = true := rfl
theorem eqv_ints : ∀ (ns ms : List Int), PyData.eqvAll (ns.map .int) (ms.map .int) = decide (ns = ms)
  | [], [] => rfl
  | [], m :: ms => by
    simp only [List.map_nil, List.map_cons, PyData.eqvAll]
    exact (decide_eq_false (fun h => by cases h)).symm
  | n :: ns, [] => by
    simp only [List.map_nil, List.map_cons, PyData.eqvAll]
    exact (decide_eq_false (fun h => by cases h)).symm
  | n :: ns, m :: ms => by
    simp only [List.map_cons, PyData.eqvAll, PyData.eqv, eqv_ints ns ms]
    by_cases h : n = m
    · by_cases h2 : ns = ms
      · simp [h, h2]
      · simp [h, h2]
    · simp [h]
theorem log2_small {i : Int} {k : Nat} (h : i.natAbs < 2 ^ k) (hk : 0 < k) : i.natAbs.log2 < k := by
  by_cases z : i.natAbs = 0
  · rw [z]
    exact hk
  · exact (Nat.log2_lt z).mpr h
theorem mulC_small {i j : Int} {k l : Nat} (h : i.natAbs < 2 ^ k) (h2 : j.natAbs < 2 ^ l) (hk : k + l < 1000000) (h0 : 0 < k := by decide) (h1 : 0 < l := by decide) : mulC i j = true := by
  have a := log2_small h h0
  have b := log2_small h2 h1
  exact decide_eq_true (by omega)
/-- what a draw tells -/
structure Fd (t : Int) (f : Feed) : Prop where
  t0 : 0 ≤ f.turn
  t1 : f.turn ≤ t
  s0 : 0 ≤ f.spot
  s1 : f.spot ≤ t
theorem Fd.up {t u : Int} {f : Feed} (h : Fd t f) (hu : t ≤ u) : Fd u f := ⟨h.t0, Int.le_trans h.t1 hu, h.s0, Int.le_trans h.s1 hu⟩
theorem fd_a {t l : Int} {f : Feed} {cs : List Int} (h : Fd t f) : Fd (t + 1) ⟨cs, f.spot, l, f.turn + 1⟩ := ⟨by have := h.t0; show 0 ≤ f.turn + 1; omega, by have := h.t1; show f.turn + 1 ≤ t + 1; omega, h.s0, by have := h.s1; show f.spot ≤ t + 1; omega⟩
theorem fd_b {t l : Int} {f : Feed} {cs : List Int} (h : Fd t f) : Fd (t + 1) ⟨cs, f.spot + 1, l, f.turn + 1⟩ := ⟨by have := h.t0; show 0 ≤ f.turn + 1; omega, by have := h.t1; show f.turn + 1 ≤ t + 1; omega, by have := h.s0; show 0 ≤ f.spot + 1; omega, by have := h.s1; show f.spot + 1 ≤ t + 1; omega⟩
def Drawn (t : Int) (s : Int) (rv : RV) (f2 : Feed) : Prop := ∃ i : Int, rv = .dat (.int i) ∧ 0 ≤ i ∧ i < s ∧ Fd (t + 1) f2
theorem cells_ne (f : Feed) : oNe (.list (f.cells.map .int)) (.list []) = some (.dat (.bool (!decide (f.cells = [])))) := by
  rw [oNe_of shaped_list_ints shaped_list_nil]
  have := eqv_ints f.cells []
  rw [List.map_nil] at this
  simp only [PyData.eqv, this]
@[simp] theorem ne_nil2 : oNe (.list []) (.list []) = some (.dat (.bool false)) := by
  rw [oNe_of rfl rfl]
  rfl
theorem at_mod {cs : List Int} {i : Int} (h : ¬ cs = []) : oMod (.int i) (.int cs.length) = some (.dat (.int (i % cs.length))) ∧ ∃ c, atI (cs.map PyData.int) (i % cs.length) = some (.int c) := by
  have hl : (0 : Int) < cs.length := by
    have := List.length_pos_iff.mpr h
    omega
  refine ⟨oMod_int hl, ?_⟩
  have h1 := Int.emod_nonneg i (show (cs.length : Int) ≠ 0 by omega)
  have h2 := Int.emod_lt_of_pos i hl
  obtain ⟨n, e⟩ := Int.eq_ofNat_of_zero_le h1
  rw [e] at h2 ⊢
  have hn : n < cs.length := by omega
  exact ⟨cs[n], by rw [Dn.atI_nat, List.getElem?_map, List.getElem?_eq_getElem hn]; rfl⟩
theorem drawn_mk {t : Int} {s i : Int} (hs : 0 < s) {g : Feed} (h : Fd (t + 1) g) : Drawn t s (.dat (.int (i % s))) g := ⟨_, rfl, Int.emod_nonneg _ (by omega), Int.emod_lt_of_pos _ hs, h⟩
theorem draw_v3_ok {s t : Int} {f : Feed} (hs : 0 < s) (h2 : s < 2 ^ 500) (hF : Fd t f) (ht : t < 2 ^ 40) : Ev (F_q_draw_v3 [.feed, .dat (.int s)] f) (Drawn t s) := by
  have t0 := hF.t0
  have t1 := hF.t1
  have t2 := hF.s0
  have t3 := hF.s1
  have hl : s.natAbs.log2 < 9000 := Nat.lt_trans (log2_small (k := 500) (by omega) (by decide)) (by decide)
  have m1 : oMul (.int 40009) (.int (f.turn + 1)) = some (.dat (.int (40009 * (f.turn + 1)))) := oMul_int (mulC_small (k := 16) (l := 41) (by decide) (by omega) (by decide))
  have m2 : oMul (.int 99991) (.int (f.turn + 1)) = some (.dat (.int (99991 * (f.turn + 1)))) := oMul_int (mulC_small (k := 17) (l := 41) (by decide) (by omega) (by decide))
  have p0 : oPow (.int 10) (.int 18) = some (.dat (.int (10 ^ 18))) := oPow_int (by decide) (by decide) (by decide)
  have p1 : ∀ c : Int, oPow (.int (c % 999983 + 40009 * (f.turn + 1) + 11)) (.int 5) = some (.dat (.int ((c % 999983 + 40009 * (f.turn + 1) + 11) ^ 5))) := fun c => oPow_int (by decide) (by decide) (by omega)
  have p2 : ∀ c : Int, oPow (.int (c % 2147483647 + 99991 * (f.turn + 1))) (.int 5) = some (.dat (.int ((c % 2147483647 + 99991 * (f.turn + 1)) ^ 5))) := fun c => oPow_int (by decide) (by decide) (by omega)
  have q1 : ∀ c : Int, oMod (.int c) (.int 999983) = some (.dat (.int (c % 999983))) := fun c => oMod_int (by decide)
  have q2 : ∀ c : Int, oMod (.int c) (.int 2147483647) = some (.dat (.int (c % 2147483647))) := fun c => oMod_int (by decide)
  have q3 : ∀ c : Int, oMod (.int c) (.int 2147483587) = some (.dat (.int (c % 2147483587))) := fun c => oMod_int (by decide)
  have q4 : ∀ c : Int, oDiv (.int c) (.int 16) = some (.dat (.int (c / 16))) := fun c => oDiv_int (by decide) (by decide)
  have p9 : oPow (.int (5 + 40009 * (f.turn + 1) + 11)) (.int 5) = some (.dat (.int ((5 + 40009 * (f.turn + 1) + 11) ^ 5))) := oPow_int (by decide) (by decide) (by omega)
  rw [u_q_draw_v3, ev_dEnd]
  unfold S_q_draw_v3
  simp only [e_seq, e_set, e_feedS, e_feed, e_Bin, e_V, e_C, e_if, e_T, e_ret, e_next]
  simp [oMod_int hs, oDiv_int hs hl, ev_ite]
  refine ⟨fun h => drawn_mk hs (by first | exact fd_a hF | exact fd_b hF), fun h => ?_⟩
  by_cases hc : f.cells = []
  · simp [cells_ne, p9, hc, ev_ite, oMod_int hs, oDiv_int hs hl, m1, m2, p0, p1, p2, q1, q2, q3, q4]
    repeat' (first | exact drawn_mk hs (by first | exact fd_a hF | exact fd_b hF) | apply And.intro | intro _)
  · obtain ⟨w1, c, w2⟩ := at_mod (i := f.spot) hc
    simp [cells_ne, p9, hc, ev_ite, oMod_int hs, oDiv_int hs hl, m1, m2, p0, p1, p2, q1, q2, q3, q4, w1, w2]
    repeat' (first | exact drawn_mk hs (by first | exact fd_a hF | exact fd_b hF) | apply And.intro | intro _)
end Fp
namespace Fp
open PySem PySem.Spec L2 Dn
abbrev rat (p : Int) (q : Nat) : PyData := .tuple [.int p, .int q]
/-- in lowest terms -/
def low (p : Int) (q : Nat) : PyData := rat (p / (Nat.gcd p.natAbs q : Nat)) (q / Nat.gcd p.natAbs q)
theorem common_ok {a b : Nat} {f : Feed} : F_common [.dat (.int a), .dat (.int b)] f = .ok (.dat (.int (Nat.gcd a b : Nat))) f := by
  apply ev_is
  rw [u_common, ev_dEnd]
  unfold S_common
  simp only [e_seq, ev_bind]
  refine ev_while (I := fun n ρ g => g = f ∧ ∃ x y : Nat, n = y ∧ ρ = [.dat (.int x), .dat (.int y)] ∧ Nat.gcd x y = Nat.gcd a b) (n := b) ?_ ⟨rfl, a, b, rfl, rfl, rfl⟩
  rintro n ρ g ⟨rfl, x, y, rfl, rfl, e⟩
  simp
  refine ⟨fun h => ?_, fun h => ?_⟩
  · have hy : (0 : Int) < n := by omega
    simp [oMod_int hy]
    exact ⟨x % n, Nat.mod_lt _ (by omega), n, ⟨rfl, by omega⟩, by rw [← e, Nat.gcd_comm x n, Nat.gcd_rec n x]; exact Nat.gcd_comm _ _⟩
  · subst h
    rw [Nat.gcd_zero_right] at e
    rw [e]
theorem lowest_ok {a : Int} {b : Nat} {f : Feed} (hb : 0 < b) (h2 : b < 2 ^ 2000) : F_q_lowest [.dat (.int a), .dat (.int b)] f = .ok (.dat (low a b)) f := by
  have hg : 0 < Nat.gcd a.natAbs b := Nat.gcd_pos_of_pos_right _ hb
  have hl : Nat.gcd a.natAbs b ≤ b := Nat.gcd_le_right _ hb
  have d1 : ∀ c : Int, oDiv (.int c) (.int (Nat.gcd a.natAbs b : Nat)) = some (.dat (.int (c / (Nat.gcd a.natAbs b : Nat)))) := fun c => oDiv_int (by omega) (Nat.lt_trans (log2_small (k := 2000) (by rw [Int.natAbs_natCast]; omega) (by decide)) (by decide))
  apply ev_is
  rw [u_q_lowest, ev_dEnd]
  unfold S_q_lowest
  simp
  refine ev_while (I := fun n ρ g => g = f ∧ ∃ x y : Nat, n = y ∧ ρ = [.dat (.int a), .dat (.int b), .dat (.int x), .dat (.int y)] ∧ Nat.gcd x y = Nat.gcd a.natAbs b) (n := b) ?_ ⟨rfl, a.natAbs, b, rfl, rfl, rfl⟩
  rintro n ρ g ⟨rfl, x, y, rfl, rfl, e⟩
  simp
  refine ⟨fun h => ?_, fun h => ?_⟩
  · have hy : (0 : Int) < n := by omega
    simp [oMod_int hy]
    exact ⟨x % n, Nat.mod_lt _ (by omega), n, ⟨rfl, by omega⟩, by rw [← e, Nat.gcd_comm x n, Nat.gcd_rec n x]; exact Nat.gcd_comm _ _⟩
  · subst h
    rw [Nat.gcd_zero_right] at e
    subst e
    simp [d1, low]
@[simp] theorem is_whole_int {i : Int} {f : Feed} : F_is_whole [.dat (.int i)] f = .ok (.dat (.bool true)) f := by
  apply ev_is
  rw [u_is_whole, ev_dEnd]
  unfold S_is_whole
  simp [isOf, tyName]
theorem ev_forT {τ : Type} {enc : τ → PyData} {T : Tgt} {s : Sm} {P : Ctl → Feed → Prop} (I : List τ → Rho → Feed → Prop) (hs : ∀ x xs ρ f, I (x :: xs) ρ f → ∃ ρ1, T.put (enc x) ρ = some ρ1 ∧ Ev (s ρ1 f) (LoopP (I xs) P)) (he : ∀ ρ f, I [] ρ f → P (.nx ρ) f) :
    ∀ (xs : List τ) (ρ : Rho) (f : Feed), I xs ρ f → Ev (forN T s (xs.map enc) ρ f) P := by
  intro xs ρ f h
  refine ev_forL (fun r ρ f => ∃ ys : List τ, r = ys.map enc ∧ I ys ρ f) (fun d r ρ f z => ?_) (fun ρ f z => ?_) _ ρ f ⟨xs, rfl, h⟩
  · obtain ⟨ys, e, z⟩ := z
    cases ys with
    | nil => cases e
    | cons y ys =>
      cases e
      obtain ⟨ρ1, p, q⟩ := hs y ys ρ f z
      refine ⟨ρ1, p, q.mono fun c f1 w => ?_⟩
      cases c with
      | nx ρ2 => exact ⟨ys, rfl, w⟩
      | ct ρ2 => exact ⟨ys, rfl, w⟩
      | bk ρ2 => exact w
      | rt v => exact w
  · obtain ⟨ys, e, z⟩ := z
    cases ys with
    | nil => exact he ρ f z
    | cons y ys => cases e
theorem eqv_rat {p r : Int} {q s : Nat} : PyData.eqv (rat p q) (rat r s) = (decide (p = r) && decide (q = s)) := by
  simp only [PyData.eqv, PyData.eqvAll, Bool.and_true]
  congr 1
  by_cases h : q = s
  · rw [h]
    simp
  · simp [h]
    omega
theorem shaped_rat {p : Int} {q : Nat} : SeqAt.shaped (rat p q) = true := by
  apply shaped_tuple
  · simp [PyData.canLayAll0, PyData.canLay0]
  · simp [PyData.depthAll, PyData.depth]
theorem eq_rat {p r : Int} {q s : Nat} : oEq (rat p q) (rat r s) = some (.dat (.bool (decide (p = r) && decide (q = s)))) := by
  rw [oEq_of shaped_rat shaped_rat, eqv_rat]
theorem nice_rat {p : Int} {q : Nat} (h1 : p.natAbs < 10 ^ 560) (h2 : q < 10 ^ 560) : Nice 2 1 (rat p q) :=
  nice_tuple ((niceL_cons (nice_int h1) (niceL_cons (nice_int (by rw [Int.natAbs_natCast]; exact h2)) niceL_nil)).up (by decide) (by decide))
theorem smallI_ok {n : Int} (h : 0 ≤ n) (h2 : n < 2 ^ 60) : smallI n = true := by
  unfold smallI
  rw [decide_eq_true (by omega), decide_eq_true (by omega)]
  rfl
theorem range_len {lo : Int} {n : Nat} : (rangeD lo n).length = n := by simp [rangeD]
theorem range_at {lo : Int} {n i : Nat} {d : PyData} (h : (rangeD lo n)[i]? = some d) : d = .int (lo + i) ∧ i < n := by
  have hi : i < n := by
    have := (List.getElem?_eq_some_iff.mp h).1
    rwa [range_len] at this
  unfold rangeD at h
  rw [List.getElem?_map, List.getElem?_range hi] at h
  cases h
  exact ⟨rfl, hi⟩
@[simp] theorem oSum_nats {ns : List Nat} : oSum (.list (ns.map fun (n : Nat) => .int n)) = some (.dat (.int (ns.sum : Nat))) := by
  have := oSum_ints (ns := ns.map fun (n : Nat) => (n : Int))
  rw [List.map_map] at this
  refine this.trans ?_
  congr 3
  induction ns with
  | nil => rfl
  | cons n r ih =>
    rw [List.map_cons, List.sum_cons, List.sum_cons, ih (by
      have := oSum_ints (ns := r.map fun (n : Nat) => (n : Int))
      rw [List.map_map] at this
      exact this)]
    simp
theorem Ev.drawn {β : Type} {t s : Int} {r : R RV} {k : PyData → Feed → R β} {Q : β → Feed → Prop} (h : Ev r (Drawn t s)) (hk : ∀ i g, 0 ≤ i → i < s → Fd (t + 1) g → Ev (k (.int i) g) Q) : Ev (pk r k) Q := by
  obtain ⟨_, g, e, i, rfl, h0, h1, hF⟩ := h
  rw [e]
  exact hk i g h0 h1 hF
theorem Ev.drawnD {β : Type} {t s : Int} {r : R RV} {k : PyData → Feed → R β} {Q : β → Feed → Prop} (h : Ev r (Drawn t s)) (hk : ∀ i g, 0 ≤ i → i < s → Fd (t + 1) g → Ev (k (.int i) g) Q) : Ev (dt r k) Q := by
  obtain ⟨_, g, e, i, rfl, h0, h1, hF⟩ := h
  rw [e]
  exact hk i g h0 h1 hF
theorem Ev.drawnE {t s : Int} {r : R RV} {Q : RV → Feed → Prop} (h : Ev r (Drawn t s)) (hk : ∀ i g, 0 ≤ i → i < s → Fd (t + 1) g → Q (.dat (.int i)) g) : Ev r Q := by
  obtain ⟨_, g, e, i, rfl, h0, h1, hF⟩ := h
  rw [e]
  exact ev_ok.mpr (hk i g h0 h1 hF)
theorem mem_le_sum : ∀ {l : List Nat} {x : Nat}, x ∈ l → x ≤ l.sum
  | y :: l, x, h => by
    rw [List.sum_cons]
    rcases List.mem_cons.mp h with e | h
    · omega
    · have := mem_le_sum h
      omega
end Fp
namespace Fp
open PySem PySem.Spec L2 Dn
section
variable {b : Bool} {i : Int} {x : Str} {xs : List PyData} {kvs : List (PyData × PyData)}
@[simp] theorem is_int_none : isOf "int" .none = false := nr rfl
@[simp] theorem is_int_bool : isOf "int" (.bool b) = true := nr rfl
@[simp] theorem is_int_int : isOf "int" (.int i) = true := nr rfl
@[simp] theorem is_int_str : isOf "int" (.str x) = false := nr rfl
@[simp] theorem is_int_list : isOf "int" (.list xs) = false := nr rfl
@[simp] theorem is_int_tuple : isOf "int" (.tuple xs) = false := nr rfl
@[simp] theorem is_int_dict : isOf "int" (.dict kvs) = false := nr rfl
@[simp] theorem is_bool_none : isOf "bool" .none = false := nr rfl
@[simp] theorem is_bool_bool : isOf "bool" (.bool b) = true := nr rfl
@[simp] theorem is_bool_int : isOf "bool" (.int i) = false := nr rfl
@[simp] theorem is_bool_str : isOf "bool" (.str x) = false := nr rfl
@[simp] theorem is_bool_list : isOf "bool" (.list xs) = false := nr rfl
@[simp] theorem is_bool_tuple : isOf "bool" (.tuple xs) = false := nr rfl
@[simp] theorem is_bool_dict : isOf "bool" (.dict kvs) = false := nr rfl
@[simp] theorem is_str_none : isOf "str" .none = false := nr rfl
@[simp] theorem is_str_bool : isOf "str" (.bool b) = false := nr rfl
@[simp] theorem is_str_int : isOf "str" (.int i) = false := nr rfl
@[simp] theorem is_str_str : isOf "str" (.str x) = true := nr rfl
@[simp] theorem is_str_list : isOf "str" (.list xs) = false := nr rfl
@[simp] theorem is_str_tuple : isOf "str" (.tuple xs) = false := nr rfl
@[simp] theorem is_str_dict : isOf "str" (.dict kvs) = false := nr rfl
@[simp] theorem is_list_none : isOf "list" .none = false := nr rfl
@[simp] theorem is_list_bool : isOf "list" (.bool b) = false := nr rfl
@[simp] theorem is_list_int : isOf "list" (.int i) = false := nr rfl
@[simp] theorem is_list_str : isOf "list" (.str x) = false := nr rfl
@[simp] theorem is_list_list : isOf "list" (.list xs) = true := nr rfl
@[simp] theorem is_list_tuple : isOf "list" (.tuple xs) = false := nr rfl
@[simp] theorem is_list_dict : isOf "list" (.dict kvs) = false := nr rfl
@[simp] theorem is_tuple_none : isOf "tuple" .none = false := nr rfl
@[simp] theorem is_tuple_bool : isOf "tuple" (.bool b) = false := nr rfl
@[simp] theorem is_tuple_int : isOf "tuple" (.int i) = false := nr rfl
@[simp] theorem is_tuple_str : isOf "tuple" (.str x) = false := nr rfl
@[simp] theorem is_tuple_list : isOf "tuple" (.list xs) = false := nr rfl
@[simp] theorem is_tuple_tuple : isOf "tuple" (.tuple xs) = true := nr rfl
@[simp] theorem is_tuple_dict : isOf "tuple" (.dict kvs) = false := nr rfl
end
def okD : List (PyData × PyData) → Bool
  | [] => true
  | [(.int k, .int v)] => decide (k = 0 ∧ v = 1)
  | [(.str x, .tuple [.int a, .int b])] => decide (x = "a" ∧ a = 0 ∧ b = 1)
  | _ => false
theorem okD_is {kvs : List (PyData × PyData)} (h : okD kvs = true) : kvs = [] ∨ kvs = [(.int 0, .int 1)] ∨ kvs = [(.str "a", .tuple [.int 0, .int 1])] := by
  unfold okD at h
  split at h
  · exact .inl rfl
  · rw [decide_eq_true_eq] at h
    obtain ⟨rfl, rfl⟩ := h
    exact .inr (.inl rfl)
  · rw [decide_eq_true_eq] at h
    obtain ⟨rfl, rfl, rfl⟩ := h
    exact .inr (.inr rfl)
  · cases h
mutual
def thg (e : Nat) : PyData → Bool
  | .int i => decide (i.natAbs < 2 ^ e)
  | .str x => x.cps.toList.all fun c => decide (c < 16 ^ 8)
  | .list xs => thgAll e xs
  | .tuple xs => thgAll e xs
  | .dict kvs => okD kvs
  | _ => true
def thgAll (e : Nat) : List PyData → Bool
  | [] => true
  | x :: xs => thg e x && thgAll e xs
end
theorem thgAll_iff {e : Nat} : ∀ {xs : List PyData}, thgAll e xs = true ↔ ∀ x ∈ xs, thg e x = true
  | [] => by simp [thgAll]
  | x :: xs => by
    rw [thgAll, Bool.and_eq_true, thgAll_iff (xs := xs)]
    simp
mutual
/-- how long it is: bits of its numbers, signs of its texts, one for each place -/
def siz : PyData → Nat
  | .int i => i.natAbs.log2 + 1
  | .str x => x.cps.size
  | .list xs => sizAll xs
  | .tuple xs => sizAll xs
  | .dict kvs => PyData.bulkKv kvs
  | _ => 0
def sizAll : List PyData → Nat
  | [] => 0
  | x :: xs => siz x + 1 + sizAll xs
end
theorem sizAll_app : ∀ xs ys : List PyData, sizAll (xs ++ ys) = sizAll xs + sizAll ys
  | [], ys => by simp [sizAll]
  | x :: xs, ys => by
    rw [List.cons_append, sizAll, sizAll, sizAll_app xs ys]
    omega
theorem depthAll_app : ∀ xs ys : List PyData, PyData.depthAll (xs ++ ys) = max (PyData.depthAll xs) (PyData.depthAll ys)
  | [], ys => by simp [PyData.depthAll]
  | x :: xs, ys => by
    rw [List.cons_append, PyData.depthAll, PyData.depthAll, depthAll_app xs ys]
    omega
theorem sizAll_len : ∀ xs : List PyData, xs.length ≤ sizAll xs
  | [] => Nat.le_refl _
  | x :: xs => by
    rw [List.length_cons, sizAll]
    have := sizAll_len xs
    omega
theorem siz_mem : ∀ {xs : List PyData} {x : PyData}, x ∈ xs → siz x + 1 ≤ sizAll xs
  | y :: ys, x, h => by
    rw [sizAll]
    rcases List.mem_cons.mp h with rfl | h
    · omega
    · have := siz_mem h
      omega
theorem depth_mem : ∀ {xs : List PyData} {x : PyData}, x ∈ xs → PyData.depth x ≤ PyData.depthAll xs
  | y :: ys, x, h => by
    rw [PyData.depthAll]
    rcases List.mem_cons.mp h with rfl | h
    · omega
    · have := depth_mem h
      omega
structure Th (e b k : Nat) (d : PyData) : Prop where
  t : thg e d = true
  k : d.depth ≤ k
  b : siz d ≤ b
structure ThL (e b k : Nat) (xs : List PyData) : Prop where
  t : thgAll e xs = true
  k : PyData.depthAll xs ≤ k
  b : sizAll xs ≤ b
mutual
theorem thg_up {e c : Nat} (h : e ≤ c) : ∀ d : PyData, thg e d = true → thg c d = true
  | .int i, q => by
    simp only [thg, decide_eq_true_eq] at q ⊢
    exact Nat.lt_of_lt_of_le q (Nat.pow_le_pow_right (by decide) h)
  | .list xs, q => by
    simp only [thg] at q ⊢
    exact thgAll_up h xs q
  | .tuple xs, q => by
    simp only [thg] at q ⊢
    exact thgAll_up h xs q
  | .str x, q => by simpa only [thg] using q
  | .none, _ => rfl
  | .bool _, _ => rfl
  | .dict kvs, q => by simpa only [thg] using q
theorem thgAll_up {e c : Nat} (h : e ≤ c) : ∀ xs : List PyData, thgAll e xs = true → thgAll c xs = true
  | [], _ => rfl
  | x :: xs, q => by
    simp only [thgAll, Bool.and_eq_true] at q ⊢
    exact ⟨thg_up h x q.1, thgAll_up h xs q.2⟩
end
section
variable {e b k c l g : Nat} {d : PyData} {xs ys : List PyData}
theorem Th.up (h : Th e b k d) (h1 : e ≤ g) (h2 : b ≤ c) (h3 : k ≤ l) : Th g c l d := ⟨thg_up h1 d h.t, Nat.le_trans h.k h3, Nat.le_trans h.b h2⟩
theorem ThL.up (h : ThL e b k xs) (h1 : e ≤ g) (h2 : b ≤ c) (h3 : k ≤ l) : ThL g c l xs := ⟨thgAll_up h1 xs h.t, Nat.le_trans h.k h3, Nat.le_trans h.b h2⟩
theorem ThL.of_app (h : ThL e b k (xs ++ ys)) : ∃ b1 b2, b1 + b2 = b ∧ ThL e b1 k xs ∧ ThL e b2 k ys := by
  have hb := h.b
  have hk := h.k
  rw [sizAll_app] at hb
  rw [depthAll_app] at hk
  have ht := thgAll_iff.mp h.t
  exact ⟨b - sizAll ys, sizAll ys, by omega, ⟨thgAll_iff.mpr fun x hx => ht x (List.mem_append_left _ hx), by omega, by omega⟩, ⟨thgAll_iff.mpr fun x hx => ht x (List.mem_append_right _ hx), by omega, Nat.le_refl _⟩⟩
theorem ThL.take (h : ThL e b k xs) (n : Nat) : ThL e b k (xs.take n) := by
  have q := h
  rw [← List.take_append_drop n xs] at q
  obtain ⟨b1, b2, e1, q1, q2⟩ := q.of_app
  exact q1.up (Nat.le_refl _) (by omega) (Nat.le_refl _)
theorem ThL.drop (h : ThL e b k xs) (n : Nat) : ThL e b k (xs.drop n) := by
  have q := h
  rw [← List.take_append_drop n xs] at q
  obtain ⟨b1, b2, e1, q1, q2⟩ := q.of_app
  exact q2.up (Nat.le_refl _) (by omega) (Nat.le_refl _)
theorem ThL.len (h : ThL e b k xs) : xs.length ≤ b := Nat.le_trans (sizAll_len xs) h.b
theorem thL_nil : ThL e 0 0 [] := ⟨rfl, Nat.le_refl 0, Nat.le_refl 0⟩
theorem thL_cons (h : Th e b k d) (q : ThL e c k xs) : ThL e (b + 1 + c) k (d :: xs) := ⟨by simp only [thgAll, h.t, q.t, Bool.and_self], by
    rw [PyData.depthAll]
    have := h.k
    have := q.k
    omega, by
    rw [sizAll]
    have := h.b
    have := q.b
    omega⟩
theorem thL_one (h : Th e b k d) : ThL e (b + 1) k [d] := thL_cons h (thL_nil.up (Nat.le_refl _) (Nat.le_refl _) (Nat.zero_le _))
theorem ThL.mem (h : ThL e b k xs) (hx : d ∈ xs) : Th e b k d := ⟨thgAll_iff.mp h.t d hx, Nat.le_trans (depth_mem hx) h.k, by
  have := siz_mem hx
  have := h.b
  omega⟩
theorem th_tuple (h : ThL e b k xs) : Th e b (k + 1) (.tuple xs) := ⟨by simpa only [thg] using h.t, by simpa only [PyData.depth] using Nat.succ_le_succ h.k, by simpa only [siz] using h.b⟩
theorem th_list (h : ThL e b k xs) : Th e b (k + 1) (.list xs) := ⟨by simpa only [thg] using h.t, by simpa only [PyData.depth] using Nat.succ_le_succ h.k, by simpa only [siz] using h.b⟩
theorem Th.tup (h : Th e b k (.tuple xs)) : ∃ j, j + 1 = k ∧ ThL e b j xs := by
  have hk := h.k
  simp only [PyData.depth] at hk
  exact ⟨k - 1, by omega, by simpa only [thg] using h.t, by omega, by simpa only [siz] using h.b⟩
theorem Th.lst (h : Th e b k (.list xs)) : ∃ j, j + 1 = k ∧ ThL e b j xs := by
  have hk := h.k
  simp only [PyData.depth] at hk
  exact ⟨k - 1, by omega, by simpa only [thg] using h.t, by omega, by simpa only [siz] using h.b⟩
theorem siz_int {i : Int} {n : Nat} (h : i.natAbs < 2 ^ n) : siz (.int i) ≤ n + 1 := by
  simp only [siz]
  by_cases z : i.natAbs = 0
  · rw [z, show Nat.log2 0 = 0 from rfl]
    omega
  · have := (Nat.log2_lt z).mpr h
    omega
theorem int_siz {i : Int} {b : Nat} (h : siz (.int i) ≤ b) : i.natAbs < 2 ^ b := by
  simp only [siz] at h
  exact Nat.lt_of_lt_of_le Nat.lt_log2_self (Nat.pow_le_pow_right (by decide) h)
theorem th_int {i : Int} (h : i.natAbs < 2 ^ e) : Th e (e + 1) 0 (.int i) := ⟨by simpa only [thg, decide_eq_true_eq] using h, Nat.le_refl 0, siz_int h⟩
theorem Th.oky (h : Th e b k d) : okTy d = true := by
  cases d with
  | dict kvs =>
    have q : okD kvs = true := by simpa only [thg] using h.t
    rcases okD_is q with rfl | rfl | rfl <;> rfl
  | _ => rfl
end
mutual
theorem thg_bare {e : Nat} : ∀ d : PyData, thg e d = true → bare d = true
  | .list xs, q => by
    simp only [thg] at q
    simp only [bare]
    exact thgAll_bare xs q
  | .tuple xs, q => by
    simp only [thg] at q
    simp only [bare]
    exact thgAll_bare xs q
  | .int _, _ => rfl
  | .str _, _ => rfl
  | .none, _ => rfl
  | .bool _, _ => rfl
  | .dict kvs, q => by
    have q : okD kvs = true := by simpa only [thg] using q
    rcases okD_is q with rfl | rfl | rfl <;> rfl
theorem thgAll_bare {e : Nat} : ∀ xs : List PyData, thgAll e xs = true → bareAll xs = true
  | [], _ => rfl
  | x :: xs, q => by
    simp only [thgAll, Bool.and_eq_true] at q
    simp only [bareAll, Bool.and_eq_true]
    exact ⟨thg_bare x q.1, thgAll_bare xs q.2⟩
end
mutual
theorem thg_showable {e : Nat} (he : e ≤ 1850) : ∀ d : PyData, thg e d = true → d.showable = true ∧ d.leavesShort 600 = true
  | .list xs, q => by
    simp only [thg] at q
    simp only [PyData.showable, PyData.leavesShort]
    exact thgAll_showable he xs q
  | .tuple xs, q => by
    simp only [thg] at q
    simp only [PyData.showable, PyData.leavesShort]
    exact thgAll_showable he xs q
  | .int i, q => by
    simp only [thg, decide_eq_true_eq] at q
    have q2 : i.natAbs < 2 ^ 1850 := Nat.lt_of_lt_of_le q (Nat.pow_le_pow_right (by decide) he)
    have q3 : i.natAbs < 10 ^ 560 := Nat.lt_of_lt_of_le q2 (by decide)
    have z := nice_int q3
    refine ⟨z.sh, ?_⟩
    have := z.short
    simpa only [PyData.intsShort, PyData.leavesShort] using this
  | .str x, q => by
    simp only [thg] at q
    simp only [PyData.showable, PyData.leavesShort]
    exact ⟨trivial, q⟩
  | .none, _ => ⟨rfl, rfl⟩
  | .bool _, _ => ⟨rfl, rfl⟩
  | .dict kvs, q => by
    have q : okD kvs = true := by simpa only [thg] using q
    rcases okD_is q with rfl | rfl | rfl <;> exact ⟨by decide +kernel, by decide +kernel⟩
theorem thgAll_showable {e : Nat} (he : e ≤ 1850) : ∀ xs : List PyData, thgAll e xs = true → PyData.showableAll xs = true ∧ PyData.leavesShortAll 600 xs = true
  | [], _ => ⟨rfl, rfl⟩
  | x :: xs, q => by
    simp only [thgAll, Bool.and_eq_true] at q
    have a := thg_showable he x q.1
    have b := thgAll_showable he xs q.2
    simp only [PyData.showableAll, PyData.leavesShortAll, a.1, a.2, b.1, b.2, Bool.and_self]
    exact ⟨trivial, trivial⟩
end
open StrLaws in
theorem shown_int {i : Int} : (PyData.shown (.int i)).length ≤ siz (.int i) + 1 := by
  have h : i.natAbs < 10 ^ (siz (.int i)) := by
    have := int_siz (i := i) (Nat.le_refl _)
    exact Nat.lt_of_lt_of_le this (Nat.pow_le_pow_left (by decide) _)
  have e := int_text_length_le10 (k := siz (.int i)) (by simp only [siz]; omega) h
  show (Str.ofString (toString i)).length ≤ _
  rw [ofString_length]
  omega
open StrLaws in
mutual
theorem shown_siz {e : Nat} : ∀ d : PyData, thg e d = true → d.shown.length ≤ 12 * siz d + 10
  | .none, _ => by
    have e : (PyData.shown .none).length = 4 := rfl
    omega
  | .bool b, _ => by
    have e : (PyData.shown (.bool b)).length ≤ 5 := by cases b <;> decide
    omega
  | .int i, _ => by
    have := shown_int (i := i)
    omega
  | .str x, h => by
    have hx : ∀ c ∈ x.cps.toList, c < 16 ^ 8 := by simpa only [thg, List.all_eq_true, decide_eq_true_eq] using h
    have e := reprText_len x hx
    have e2 : x.length = x.cps.size := rfl
    simp only [PyData.shown, siz]
    omega
  | .list xs, h => by
    have h1 := shownAll_siz xs (by simpa only [thg] using h)
    have h2 := listText_len_le (PyData.shownAll xs)
    have h3 := PyData.shownAll_length xs
    simp only [PyData.shown, siz]
    omega
  | .tuple xs, h => by
    have h1 := shownAll_siz xs (by simpa only [thg] using h)
    have h2 := tupleText_len_le (PyData.shownAll xs)
    have h3 := PyData.shownAll_length xs
    simp only [PyData.shown, siz]
    omega
  | .dict kvs, h => by
    have q : okD kvs = true := by simpa only [thg] using h
    rcases okD_is q with rfl | rfl | rfl
    · have e : (PyData.shown (.dict [])).length = 2 := by decide +kernel
      omega
    · have e : (PyData.shown (.dict [(.int 0, .int 1)])).length = 6 := by decide +kernel
      omega
    · have e : (PyData.shown (.dict [(.str "a", .tuple [.int 0, .int 1])])).length = 13 := by decide +kernel
      have e2 : siz (.dict [(.str "a", .tuple [.int 0, .int 1])]) = 5 := by decide +kernel
      omega
theorem shownAll_siz {e : Nat} : ∀ xs : List PyData, thgAll e xs = true → ((PyData.shownAll xs).map (·.length)).sum + 2 * xs.length ≤ 12 * sizAll xs
  | [], _ => by simp only [PyData.shownAll, sizAll, List.map_nil, List.sum_nil, List.length_nil]; omega
  | x :: xs, h => by
    have h' : thg e x = true ∧ thgAll e xs = true := by simpa only [thgAll, Bool.and_eq_true] using h
    have h1 := shown_siz x h'.1
    have h2 := shownAll_siz xs h'.2
    simp only [PyData.shownAll, sizAll, List.map_cons, List.sum_cons, List.length_cons]
    omega
end
theorem Th.shows {e b k : Nat} {d : PyData} (h : Th e b k d) (he : e ≤ 1850) (hb : b ≤ 800000) (hk : k ≤ 60) : showsX d = true := by
  have a := thg_showable he d h.t
  have hl := shown_siz d h.t
  have h3 : d.shown.length ≤ 10000000 := by
    have h4 := h.b
    omega
  unfold showsX
  rw [thg_bare d h.t, a.1, decide_eq_true (Nat.le_trans h.k hk), decide_eq_true h3]
  rfl
theorem oReprX_of {d : PyData} (h : showsX d = true) : oReprX d = some (.dat (.str d.shown)) := by
  unfold oReprX
  rw [if_pos h]
end Fp
namespace Fp
open PySem PySem.Spec L2 Dn
section
variable {e b k : Nat} {d : PyData} {xs : List PyData}
end
end Fp
namespace Fp
open PySem PySem.Spec L2 Dn
/-- a rational number as a ratio in lowest terms -/
def enc (x : Rat) : PyData := .tuple [.int x.num, .int (x.den : Nat)]
theorem low_eq {p : Int} {q : Nat} (hq : 0 < q) : low p q = enc (mkRat p q) := by
  have h : mkRat p q = Rat.normalize p q (by omega) := by
    unfold mkRat
    rw [dif_neg (by omega)]
  rw [h, Rat.normalize_eq]
  rfl
theorem cast_ne {D : Nat} (hD : 0 < D) : (D : Rat) ≠ 0 := by
  intro z
  have := Rat.natCast_eq_zero_iff.mp z
  omega
theorem num_div (x : Rat) : x = x.num / (x.den : Rat) := by
  rw [← Rat.mkRat_eq_div, Rat.mkRat_self]
theorem mul_den (x : Rat) : x * (x.den : Rat) = (x.num : Rat) := by
  have h := num_div x
  have d := cast_ne x.den_pos
  grind
/-- a whole number comes of it by D -/
def Wh (D : Nat) (x : Rat) : Prop := ∃ i : Int, x * (D : Rat) = (i : Rat)
theorem Wh.dvd {D : Nat} {x : Rat} (hD : 0 < D) (h : Wh D x) : x.den ∣ D := by
  obtain ⟨i, h⟩ := h
  have e : x = mkRat i D := by
    rw [Rat.mkRat_eq_div, ← h]
    have d := cast_ne hD
    grind
  rw [e, Rat.den_mkRat, if_neg (by omega)]
  exact Nat.div_dvd_of_dvd (Nat.gcd_dvd_left _ _)
theorem Wh.up {D E : Nat} {x : Rat} (h : Wh D x) (hd : D ∣ E) : Wh E x := by
  obtain ⟨k, rfl⟩ := hd
  obtain ⟨i, h⟩ := h
  refine ⟨i * k, ?_⟩
  rw [Rat.natCast_mul, Rat.intCast_mul, Rat.intCast_natCast, ← h]
  grind
theorem Wh.add {D : Nat} {x y : Rat} (h : Wh D x) (k : Wh D y) : Wh D (x + y) := by
  obtain ⟨i, h⟩ := h
  obtain ⟨j, k⟩ := k
  refine ⟨i + j, ?_⟩
  rw [Rat.intCast_add, ← h, ← k]
  grind
theorem Wh.neg {D : Nat} {x : Rat} (h : Wh D x) : Wh D (-x) := by
  obtain ⟨i, h⟩ := h
  refine ⟨-i, ?_⟩
  rw [Rat.intCast_neg, ← h]
  grind
theorem Wh.sub {D : Nat} {x y : Rat} (h : Wh D x) (k : Wh D y) : Wh D (x - y) := by
  rw [Rat.sub_eq_add_neg]
  exact h.add k.neg
theorem Wh.mul {D E : Nat} {x y : Rat} (h : Wh D x) (k : Wh E y) : Wh (D * E) (x * y) := by
  obtain ⟨i, h⟩ := h
  obtain ⟨j, k⟩ := k
  refine ⟨i * j, ?_⟩
  rw [Rat.intCast_mul, ← h, ← k, Rat.natCast_mul]
  grind
theorem wh_int {D : Nat} (i : Int) : Wh D (i : Rat) := ⟨i * D, by rw [Rat.intCast_mul, Rat.intCast_natCast]⟩
theorem wh_0 {D : Nat} : Wh D 0 := wh_int 0
theorem wh_1 {D : Nat} : Wh D 1 := wh_int 1
/-- at most B either way -/
def Ab (B x : Rat) : Prop := -B ≤ x ∧ x ≤ B
theorem Ab.up {B C x : Rat} (h : Ab B x) (hC : B ≤ C) : Ab C x := ⟨by have := h.1; grind, by have := h.2; grind⟩
theorem Ab.add {B C x y : Rat} (h : Ab B x) (k : Ab C y) : Ab (B + C) (x + y) := ⟨by have := h.1; have := k.1; grind, by have := h.2; have := k.2; grind⟩
theorem Ab.sub {B C x y : Rat} (h : Ab B x) (k : Ab C y) : Ab (B + C) (x - y) := ⟨by have := h.1; have := k.2; grind, by have := h.2; have := k.1; grind⟩
theorem Ab.mul {B C x y : Rat} (h : Ab B x) (k : Ab C y) : Ab (B * C) (x * y) := by
  obtain ⟨h1, h2⟩ := h
  obtain ⟨k1, k2⟩ := k
  have a := Rat.mul_nonneg (show 0 ≤ B - x by grind) (show 0 ≤ C + y by grind)
  have b := Rat.mul_nonneg (show 0 ≤ B + x by grind) (show 0 ≤ C - y by grind)
  have c := Rat.mul_nonneg (show 0 ≤ B - x by grind) (show 0 ≤ C - y by grind)
  have d := Rat.mul_nonneg (show 0 ≤ B + x by grind) (show 0 ≤ C + y by grind)
  exact ⟨by grind, by grind⟩
theorem ab_01 {x : Rat} (h : 0 ≤ x) (h1 : x ≤ 1) : Ab 1 x := ⟨by grind, h1⟩
theorem ab_0 {B : Rat} (h : 0 ≤ B) : Ab B 0 := ⟨by grind, h⟩
/-- short enough for the operations -/
structure Sz (n : Nat) (x : Rat) : Prop where
  num : x.num.natAbs < 2 ^ n
  den : x.den < 2 ^ n
theorem Sz.up {m n : Nat} {x : Rat} (h : Sz m x) (hn : m ≤ n) : Sz n x := ⟨Nat.lt_of_lt_of_le h.num (Nat.pow_le_pow_right (by decide) hn), Nat.lt_of_lt_of_le h.den (Nat.pow_le_pow_right (by decide) hn)⟩
theorem num_le {B : Nat} {x : Rat} (h : Ab (B : Rat) x) : x.num.natAbs ≤ B * x.den := by
  obtain ⟨h1, h2⟩ := h
  have e := mul_den x
  have d : (0 : Rat) ≤ (x.den : Rat) := Rat.natCast_nonneg
  have a := Rat.mul_nonneg (show 0 ≤ (B : Rat) - x by grind) d
  have b := Rat.mul_nonneg (show 0 ≤ (B : Rat) + x by grind) d
  have a2 : ((x.num : Int) : Rat) ≤ ((B * x.den : Int) : Rat) := by
    rw [Rat.intCast_mul, Rat.intCast_natCast, Rat.intCast_natCast, ← e]
    grind
  have b2 : ((-(B * x.den) : Int) : Rat) ≤ ((x.num : Int) : Rat) := by
    rw [Rat.intCast_neg, Rat.intCast_mul, Rat.intCast_natCast, Rat.intCast_natCast, ← e]
    grind
  have a3 := Rat.intCast_le_intCast.mp a2
  have b3 := Rat.intCast_le_intCast.mp b2
  rw [← Int.natCast_mul] at a3 b3
  omega
theorem sz_of {D B n : Nat} {x : Rat} (hD : 0 < D) (hw : Wh D x) (ha : Ab (B : Rat) x) (h1 : B * D < 2 ^ n) (h2 : D < 2 ^ n) : Sz n x := by
  have hd := Nat.le_of_dvd hD (hw.dvd hD)
  exact ⟨Nat.lt_of_le_of_lt (num_le ha) (Nat.lt_of_le_of_lt (Nat.mul_le_mul_left B hd) h1), Nat.lt_of_le_of_lt hd h2⟩
section
variable {x y : Rat} {f : Feed}
theorem mulC_sz {a b : Int} {n : Nat} (h : a.natAbs < 2 ^ n) (h2 : b.natAbs < 2 ^ n) (hn : n ≤ 4000) : mulC a b = true := by
  have h3 : (2 : Nat) ^ n ≤ 2 ^ 4000 := Nat.pow_le_pow_right (by decide) hn
  exact mulC_small (k := 4000) (l := 4000) (Nat.lt_of_lt_of_le h h3) (Nat.lt_of_lt_of_le h2 h3) (by decide)
theorem ratio_big {p : Int} {q : Nat} {f : Feed} (hq : 0 < q) (h1 : p.natAbs < 2 ^ 8500) (h2 : q < 2 ^ 8500) : F_ratio [.dat (.int p), .dat (.int q)] f = .ok (.dat (enc (mkRat p q))) f := by
  have hg : 0 < Nat.gcd p.natAbs q := Nat.gcd_pos_of_pos_right _ hq
  have hl : Nat.gcd p.natAbs q ≤ q := Nat.gcd_le_right _ hq
  have d1 : ∀ c : Int, oDiv (.int c) (.int (Nat.gcd p.natAbs q : Nat)) = some (.dat (.int (c / (Nat.gcd p.natAbs q : Nat)))) := fun c => oDiv_int (by omega) (Nat.lt_trans (log2_small (k := 8500) (by rw [Int.natAbs_natCast]; omega) (by decide)) (by decide))
  have m1 : ∀ c : Int, c.natAbs < 2 ^ 8500 → oMul (.int 1) (.int c) = some (.dat (.int (1 * c))) := fun c hc => oMul_int (mulC_small (k := 1) (l := 8500) (by decide) hc (by decide))
  have m2 := m1 p h1
  have m3 := m1 q (by rw [Int.natAbs_natCast]; exact h2)
  have z1 : ¬ (q : Int) < 0 := by omega
  have z2 : ¬ (q : Int) = 0 := by omega
  have z3 : ¬ q = 0 := by omega
  rw [← low_eq hq]
  apply ev_is
  rw [u_ratio, ev_dEnd]
  unfold S_ratio
  simp [common_ok, z1, z2, z3, m2, m3, d1, ev_ite]
  simp [low]
theorem prod_lt {a b : Nat} {n : Nat} (h : a < 2 ^ n) (h2 : b < 2 ^ n) (hn : n ≤ 4000) : a * b < 2 ^ 8000 := by
  have h3 : (2 : Nat) ^ n ≤ 2 ^ 4000 := Nat.pow_le_pow_right (by decide) hn
  have := Nat.mul_lt_mul_of_lt_of_lt (Nat.lt_of_lt_of_le h h3) (Nat.lt_of_lt_of_le h2 h3)
  exact Nat.lt_of_lt_of_le this (by decide)
theorem add_eq (x y : Rat) : mkRat (x.num * y.den + y.num * x.den) (x.den * y.den) = x + y := by
  rw [Rat.mkRat_eq_div, Rat.natCast_mul, Rat.intCast_add, Rat.intCast_mul, Rat.intCast_mul, Rat.intCast_natCast, Rat.intCast_natCast, ← mul_den x, ← mul_den y]
  have a := cast_ne x.den_pos
  have b := cast_ne y.den_pos
  grind
theorem mul_eq (x y : Rat) : mkRat (x.num * y.num) (x.den * y.den) = x * y := by
  rw [Rat.mkRat_eq_div, Rat.natCast_mul, Rat.intCast_mul, ← mul_den x, ← mul_den y]
  have a := cast_ne x.den_pos
  have b := cast_ne y.den_pos
  grind
theorem plus_q {n : Nat} (hx : Sz n x) (hy : Sz n y) (hn : n ≤ 4000) : F_plus [.dat (enc x), .dat (enc y)] f = .ok (.dat (enc (x + y))) f := by
  have m1 : oMul (.int x.num) (.int (y.den : Nat)) = some (.dat (.int (x.num * y.den))) := oMul_int (mulC_sz hx.num (by rw [Int.natAbs_natCast]; exact hy.den) hn)
  have m2 : oMul (.int y.num) (.int (x.den : Nat)) = some (.dat (.int (y.num * x.den))) := oMul_int (mulC_sz hy.num (by rw [Int.natAbs_natCast]; exact hx.den) hn)
  have m3 : oMul (.int (x.den : Nat)) (.int (y.den : Nat)) = some (.dat (.int (x.den * y.den))) := oMul_int (mulC_sz (by rw [Int.natAbs_natCast]; exact hx.den) (by rw [Int.natAbs_natCast]; exact hy.den) hn)
  have b1 := prod_lt hx.num hy.den hn
  have b2 := prod_lt hy.num hx.den hn
  have b3 := prod_lt hx.den hy.den hn
  have k : (2 : Nat) ^ 8000 + 2 ^ 8000 ≤ 2 ^ 8500 := by decide
  have b4 : (x.num * y.den + y.num * x.den).natAbs < 2 ^ 8500 := by
    have a1 : (x.num * y.den).natAbs = x.num.natAbs * y.den := by rw [Int.natAbs_mul, Int.natAbs_natCast]
    have a2 : (y.num * x.den).natAbs = y.num.natAbs * x.den := by rw [Int.natAbs_mul, Int.natAbs_natCast]
    have a3 := Int.natAbs_add_le (x.num * y.den) (y.num * x.den)
    omega
  have r1 := ratio_big (f := f) (Nat.mul_pos x.den_pos y.den_pos) b4 (by omega)
  rw [Int.natCast_mul, add_eq] at r1
  apply ev_is
  rw [u_plus, ev_dEnd]
  unfold S_plus enc
  simp [m1, m2, m3]
  exact ⟨_, f, r1, by simp [enc]⟩
theorem times_q {n : Nat} (hx : Sz n x) (hy : Sz n y) (hn : n ≤ 4000) : F_times [.dat (enc x), .dat (enc y)] f = .ok (.dat (enc (x * y))) f := by
  have m1 : oMul (.int x.num) (.int y.num) = some (.dat (.int (x.num * y.num))) := oMul_int (mulC_sz hx.num hy.num hn)
  have m3 : oMul (.int (x.den : Nat)) (.int (y.den : Nat)) = some (.dat (.int (x.den * y.den))) := oMul_int (mulC_sz (by rw [Int.natAbs_natCast]; exact hx.den) (by rw [Int.natAbs_natCast]; exact hy.den) hn)
  have b1 := prod_lt hx.num hy.num hn
  have b3 := prod_lt hx.den hy.den hn
  have k : (2 : Nat) ^ 8000 ≤ 2 ^ 8500 := by decide
  have b4 : (x.num * y.num).natAbs < 2 ^ 8500 := by
    rw [Int.natAbs_mul]
    omega
  have r1 := ratio_big (f := f) (Nat.mul_pos x.den_pos y.den_pos) b4 (by omega)
  rw [Int.natCast_mul, mul_eq] at r1
  apply ev_is
  rw [u_times, ev_dEnd]
  unfold S_times enc
  simp [m1, m3]
  exact ⟨_, f, r1, by simp [enc]⟩
end
end Fp
namespace Fp
open PySem PySem.Spec L2 Dn
theorem shaped_enc {x : Rat} : SeqAt.shaped (enc x) = true := shaped_rat (p := x.num) (q := x.den)
theorem eqv_enc {x y : Rat} : PyData.eqv (enc x) (enc y) = decide (x = y) := by
  refine (eqv_rat (p := x.num) (q := x.den) (r := y.num) (s := y.den)).trans ?_
  by_cases h : x = y
  · subst h
    simp
  · rw [decide_eq_false h]
    by_cases a : x.num = y.num
    · by_cases b : x.den = y.den
      · exact absurd (Rat.ext a b) h
      · simp [b]
    · simp [a]
theorem eq_enc {x y : Rat} : oEq (enc x) (enc y) = some (.dat (.bool (decide (x = y)))) := by
  rw [oEq_of shaped_enc shaped_enc, eqv_enc]
theorem ne_enc {x y : Rat} : oNe (enc x) (enc y) = some (.dat (.bool (!decide (x = y)))) := by
  rw [oNe_of shaped_enc shaped_enc, eqv_enc]
theorem eq_enc0 {x : Rat} : oEq (enc x) (.tuple [.int 0, .int 1]) = some (.dat (.bool (decide (x = 0)))) := eq_enc (y := 0)
theorem ne_enc0 {x : Rat} : oNe (enc x) (.tuple [.int 0, .int 1]) = some (.dat (.bool (!decide (x = 0)))) := ne_enc (y := 0)
theorem nice_enc {x : Rat} {n : Nat} (h : Sz n x) (hn : n ≤ 1850) : Nice 2 1 (enc x) := by
  have k : (2 : Nat) ^ n ≤ 2 ^ 1850 := Nat.pow_le_pow_right (by decide) hn
  have k2 : (2 : Nat) ^ 1850 < 10 ^ 560 := by decide
  have := h.num
  have := h.den
  exact nice_rat (p := x.num) (q := x.den) (by omega) (by omega)
section
variable {x y : Rat} {f : Feed}
theorem ab_sz {D B n : Nat} (hD : 0 < D) (hw : Wh D x) (ha : Ab (B : Rat) x) (hB : 0 < B) (h1 : B * D < 2 ^ n) : Sz n x := sz_of hD hw ha h1 (Nat.lt_of_le_of_lt (Nat.le_mul_of_pos_left D hB) h1)
end
theorem sum_wh {D : Nat} : ∀ {xs : List Rat}, (∀ x ∈ xs, Wh D x) → Wh D xs.sum
  | [], _ => wh_0
  | x :: xs, h => by
    rw [List.sum_cons]
    exact (h x List.mem_cons_self).add (sum_wh fun y hy => h y (List.mem_cons_of_mem _ hy))
end Fp
namespace Fp
open PySem PySem.Spec L2 Dn
structure Life where
  row : List Rat
  step : Rat
def lifeD (L : Life) : PyData := .tuple [.tuple (L.row.map enc), enc L.step]
def lastR (L : Life) : Rat := L.row.getLastD 0
/-- all chances, added -/
def tot (L : Life) : Rat := L.row.sum + lastR L * L.step / (1 - L.step)
/-- the chance at k -/
def ch (L : Life) (k : Nat) : Rat := if k ≤ L.row.length then L.row.getD (k - 1) 0 else if L.step = 0 then 0 else lastR L * L.step ^ (k - L.row.length)
/-- what is needed of a life here: W the rows' bottom, s the step's -/
structure LOk (W s : Nat) (L : Life) : Prop where
  W0 : 0 < W
  s0 : 0 < s
  row : ∀ x ∈ L.row, Wh W x ∧ 0 ≤ x ∧ x ≤ 1
  step : Wh s L.step
  st0 : 0 ≤ L.step
  st1 : L.step < 1
  emp : L.row = [] → L.step = 0
  tot1 : tot L ≤ 1
theorem lastR_mem {L : Life} (h : L.row ≠ []) : lastR L ∈ L.row := by
  unfold lastR
  rw [List.getLastD_eq_getLast?, List.getLast?_eq_some_getLast h]
  exact List.getLast_mem h
theorem wh_pow {D : Nat} {x : Rat} (h : Wh D x) : ∀ n : Nat, Wh (D ^ n) (x ^ n)
  | 0 => by
    rw [Rat.pow_zero, Nat.pow_zero]
    exact wh_1
  | n + 1 => by
    rw [Rat.pow_succ, Nat.pow_succ]
    exact (wh_pow h n).mul h
theorem pow_01 {x : Rat} (h : 0 ≤ x) (h1 : x ≤ 1) : ∀ n : Nat, 0 ≤ x ^ n ∧ x ^ n ≤ 1
  | 0 => by
    rw [Rat.pow_zero]
    exact ⟨by decide, by decide⟩
  | n + 1 => by
    rw [Rat.pow_succ]
    obtain ⟨a, b⟩ := pow_01 h h1 n
    have c := Rat.mul_nonneg a h
    have d := Rat.mul_nonneg (show 0 ≤ 1 - x ^ n by grind) h
    exact ⟨c, by grind⟩
theorem mul_01 {x y : Rat} (h : 0 ≤ x ∧ x ≤ 1) (k : 0 ≤ y ∧ y ≤ 1) : 0 ≤ x * y ∧ x * y ≤ 1 := by
  have c := Rat.mul_nonneg h.1 k.1
  have d := Rat.mul_nonneg (show 0 ≤ 1 - x by grind) k.1
  exact ⟨c, by grind⟩
section
variable {W s : Nat} {L : Life}
theorem LOk.tail (h : LOk W s L) (hr : L.row ≠ []) (n : Nat) : Wh (W * s ^ n) (lastR L * L.step ^ n) ∧ 0 ≤ lastR L * L.step ^ n ∧ lastR L * L.step ^ n ≤ 1 := by
  have a := h.row _ (lastR_mem hr)
  have b := pow_01 h.st0 (by have := h.st1; grind) n
  exact ⟨a.1.mul (wh_pow h.step n), mul_01 a.2 b⟩
theorem LOk.ch (h : LOk W s L) {k m : Nat} (hk : k ≤ m) : Wh (W * s ^ m) (ch L k) ∧ 0 ≤ Fp.ch L k ∧ Fp.ch L k ≤ 1 := by
  have z : Wh (W * s ^ m) 0 ∧ (0 : Rat) ≤ 0 ∧ (0 : Rat) ≤ 1 := ⟨wh_0, by decide, by decide⟩
  unfold Fp.ch
  split
  · rename_i hl
    by_cases q : k - 1 < L.row.length
    · rw [List.getD_eq_getElem?_getD, List.getElem?_eq_getElem q]
      have a := h.row _ (List.getElem_mem q)
      exact ⟨a.1.up (Nat.dvd_mul_right _ _), a.2⟩
    · rw [List.getD_eq_getElem?_getD, List.getElem?_eq_none (by omega)]
      exact z
  · split
    · exact z
    · rename_i h1 h2
      have hr : L.row ≠ [] := fun q => h2 (h.emp q)
      have a := h.tail hr (k - L.row.length)
      exact ⟨a.1.up (Nat.mul_dvd_mul_left W (Nat.pow_dvd_pow s (by omega))), a.2⟩
end
theorem atI_last {x : Rat} {row : List Rat} (h : row ≠ []) : atI (row.map enc) (-1) = some (enc (row.getLastD 0)) := by
  obtain ⟨ys, y, rfl⟩ : ∃ ys y, row = ys ++ [y] := ⟨row.dropLast, row.getLast h, (List.dropLast_concat_getLast h).symm⟩
  rw [List.map_append, List.map_cons, List.map_nil]
  rw [L2.atI_last]
  simp
end Fp
namespace Fp
open PySem PySem.Spec L2 Dn
theorem ev_step {s s2 : Sm} {ρ : Rho} {f : Feed} {P : Ctl → Feed → Prop} (Q : Rho → Feed → Prop) (h : Ev (s ρ f) fun c g => ∃ ρ2, c = .nx ρ2 ∧ Q ρ2 g) (k : ∀ ρ2 g, Q ρ2 g → Ev (s2 ρ2 g) P) : Ev (sSeq s s2 ρ f) P := by
  rw [e_seq, ev_bind]
  refine h.mono ?_
  rintro _ g ⟨ρ2, rfl, q⟩
  rw [e_then_nx]
  exact k ρ2 g q
theorem wh_mk {W : Nat} {i : Int} (hW : 0 < W) : Wh W (mkRat i W) := by
  refine ⟨i, ?_⟩
  rw [Rat.mkRat_eq_div]
  have := cast_ne hW
  grind
theorem mk_mul {W : Nat} {i : Int} (hW : 0 < W) : mkRat i W * (W : Rat) = (i : Rat) := by
  rw [Rat.mkRat_eq_div]
  have := cast_ne hW
  grind
theorem frac01 {W i : Nat} (hW : 0 < W) (h : i ≤ W) : 0 ≤ mkRat (i : Nat) W ∧ mkRat (i : Nat) W ≤ 1 := by
  have e := mk_mul (i := (i : Nat)) hW
  have w0 : (0 : Rat) < (W : Rat) := Rat.natCast_pos.mpr hW
  rw [Rat.intCast_natCast] at e
  have h2 : (i : Rat) ≤ (W : Rat) := Rat.natCast_le_natCast.mpr h
  have h3 : (0 : Rat) ≤ (i : Rat) := Rat.natCast_nonneg
  exact ⟨Rat.le_of_mul_le_mul_right (c := (W : Rat)) (by grind) w0, Rat.le_of_mul_le_mul_right (c := (W : Rat)) (by grind) w0⟩
theorem range0 {n : Nat} : rangeD 0 n = (List.range n).map fun (i : Nat) => .int (i : Nat) := by
  unfold rangeD
  simp
theorem sum_mk {W B : Nat} (W0 : 0 < W) : ∀ us : List Nat, (us.map fun (w : Nat) => mkRat ((B * w : Nat) : Int) W).sum * (W : Rat) = (B : Rat) * (us.sum : Nat)
  | [] => by
    rw [List.map_nil, List.sum_nil, List.sum_nil]
    have : ((0 : Nat) : Rat) = 0 := rfl
    grind
  | u :: us => by
    have e := mk_mul (i := ((B * u : Nat) : Int)) W0
    have ih := sum_mk (B := B) W0 us
    rw [Rat.intCast_natCast, Rat.natCast_mul] at e
    rw [List.map_cons, List.sum_cons, List.sum_cons, Rat.natCast_add]
    grind
theorem tot_more {L : Life} (h : L.step < 1) : tot ⟨L.row ++ [lastR L * L.step], L.step⟩ = tot L := by
  have e : lastR ⟨L.row ++ [lastR L * L.step], L.step⟩ = lastR L * L.step := by
    unfold lastR
    simp
  unfold tot
  rw [e]
  show (L.row ++ [lastR L * L.step]).sum + lastR L * L.step * L.step / (1 - L.step) = _
  rw [List.sum_append, List.sum_cons, List.sum_nil]
  have : 1 - L.step ≠ 0 := by grind
  grind
theorem tot_zero {L : Life} {st : Rat} (h : L.step = 0) : tot ⟨L.row ++ [0], st⟩ = tot L := by
  have e : lastR ⟨L.row ++ [0], st⟩ = 0 := by
    unfold lastR
    simp
  unfold tot
  rw [e, h]
  show (L.row ++ [0]).sum + 0 * st / (1 - st) = _
  rw [List.sum_append, List.sum_cons, List.sum_nil]
  grind
theorem LOk.more {W s : Nat} {L : Life} (h : LOk W s L) (hr : L.row ≠ []) : LOk (W * s) s ⟨L.row ++ [lastR L * L.step], L.step⟩ := by
  refine ⟨Nat.mul_pos h.W0 h.s0, h.s0, fun x hx => ?_, h.step, h.st0, h.st1, fun z => by simp at z, by rw [tot_more h.st1]; exact h.tot1⟩
  rcases List.mem_append.mp hx with q | q
  · exact ⟨(h.row x q).1.up (Nat.dvd_mul_right _ _), (h.row x q).2⟩
  · have t := h.tail hr 1
    rw [Rat.pow_one, Nat.pow_one] at t
    rw [List.mem_singleton.mp q]
    exact t
end Fp
namespace Fp
open PySem PySem.Spec L2 Dn
theorem ev_stepR {s s2 : Sm} {ρ : Rho} {f : Feed} {P : Ctl → Feed → Prop} (Q : Rho → Feed → Prop) (h : Ev (s ρ f) fun c g => (∃ ρ2, c = .nx ρ2 ∧ Q ρ2 g) ∨ (∃ rv, c = .rt rv ∧ P (.rt rv) g)) (k : ∀ ρ2 g, Q ρ2 g → Ev (s2 ρ2 g) P) : Ev (sSeq s s2 ρ f) P := by
  rw [e_seq, ev_bind]
  refine Ev.mono h ?_
  rintro c g (⟨ρ2, rfl, q⟩ | ⟨rv, rfl, q⟩)
  · exact k _ _ q
  · exact ev_ok.mpr q
end Fp
namespace Fp
open PySem PySem.Spec L2 Dn
structure Tc (e b k : Nat) (d : PyData) : Prop where
  th : Th e b k d
  c : d.canLay0 = true
theorem canAll_iff : ∀ {xs : List PyData}, PyData.canLayAll0 xs = true ↔ ∀ x ∈ xs, PyData.canLay0 x = true
  | [] => by simp [PyData.canLayAll0]
  | x :: xs => by
    rw [PyData.canLayAll0, Bool.and_eq_true, canAll_iff (xs := xs)]
    simp
section
variable {e b k e' b' k' : Nat} {d : PyData} {xs ys : List PyData}
theorem Tc.up (h : Tc e b k d) (h1 : e ≤ e') (h2 : b ≤ b') (h3 : k ≤ k') : Tc e' b' k' d := ⟨h.th.up h1 h2 h3, h.c⟩
theorem Tc.shaped (h : Tc e b k d) (hk : k ≤ 64) : SeqAt.shaped d = true := by
  unfold SeqAt.shaped
  rw [h.c, Bool.true_and, decide_eq_true_eq]
  exact Nat.le_trans h.th.k hk
theorem can_tup (h : PyData.canLay0 (.tuple xs) = true) : ∀ x ∈ xs, PyData.canLay0 x = true := canAll_iff.mp h
theorem tup_can (h : ∀ x ∈ xs, PyData.canLay0 x = true) : PyData.canLay0 (.tuple xs) = true := canAll_iff.mpr h
end
end Fp
namespace Fp
open PySem PySem.Spec L2 Dn
def rs (n : Nat) (g : Nat → Rat) : Rat := ((List.range n).map g).sum
theorem sum_app : ∀ (xs ys : List Rat), (xs ++ ys).sum = xs.sum + ys.sum
  | [], ys => by
    rw [List.nil_append, List.sum_nil]
    grind
  | x :: xs, ys => by
    rw [List.cons_append, List.sum_cons, List.sum_cons, sum_app xs ys]
    grind
theorem rs_zero {g : Nat → Rat} : rs 0 g = 0 := rfl
theorem rs_succ {n : Nat} {g : Nat → Rat} : rs (n + 1) g = rs n g + g n := by
  unfold rs
  rw [List.range_succ, List.map_append, sum_app, List.map_cons, List.map_nil, List.sum_cons, List.sum_nil]
  grind
theorem rs_congr {n : Nat} {g h : Nat → Rat} (e : ∀ i, i < n → g i = h i) : rs n g = rs n h := by
  induction n with
  | zero => rfl
  | succ n ih => rw [rs_succ, rs_succ, ih fun i hi => e i (by omega), e n (by omega)]
theorem rs_add {n : Nat} {g h : Nat → Rat} : rs n (fun i => g i + h i) = rs n g + rs n h := by
  induction n with
  | zero => rw [rs_zero, rs_zero, rs_zero]; grind
  | succ n ih => rw [rs_succ, rs_succ, rs_succ, ih]; grind
theorem rs_mul {n : Nat} {g : Nat → Rat} {c : Rat} : rs n (fun i => c * g i) = c * rs n g := by
  induction n with
  | zero => rw [rs_zero, rs_zero]; grind
  | succ n ih => rw [rs_succ, rs_succ, ih]; grind
theorem rs_0 {n : Nat} : rs n (fun _ => 0) = 0 := by
  induction n with
  | zero => rfl
  | succ n ih => rw [rs_succ, ih]; grind
theorem rs_wh {D n : Nat} {g : Nat → Rat} (h : ∀ i, i < n → Wh D (g i)) : Wh D (rs n g) := by
  induction n with
  | zero => exact wh_0
  | succ n ih =>
    rw [rs_succ]
    exact (ih fun i hi => h i (by omega)).add (h n (by omega))
theorem rs_ab {n B : Nat} {g : Nat → Rat} (h : ∀ i, i < n → Ab (B : Rat) (g i)) : Ab ((n * B : Nat) : Rat) (rs n g) := by
  induction n with
  | zero => exact ab_0 Rat.natCast_nonneg
  | succ n ih =>
    rw [rs_succ, Nat.succ_mul, Rat.natCast_add]
    exact (ih fun i hi => h i (by omega)).add (h n (by omega))
/-- own plus what is behind -/
def an (c t : Nat → Rat) (n : Nat) : Rat := t n + ((List.range n).attach.map fun k => c k.1 * an c t (n - 1 - k.1)).sum
termination_by n
decreasing_by
  have := List.mem_range.mp k.2
  omega
theorem an_eq (c t : Nat → Rat) (n : Nat) : an c t n = t n + rs n (fun k => c k * an c t (n - 1 - k)) := by
  rw [an]
  congr 2
  exact List.attach_map_val (l := List.range n) (f := fun k => c k * an c t (n - 1 - k))
theorem an_wh {c t : Nat → Rat} {D E m : Nat} (hc : ∀ k, k < m → Wh D (c k)) (ht : ∀ k, k ≤ m → Wh E (t k)) : ∀ n, n ≤ m → Wh (E * D ^ n) (an c t n) := by
  intro n
  induction n using Nat.strongRecOn with
  | ind n ih =>
    intro hn
    rw [an_eq]
    refine ((ht n hn).up (Nat.dvd_mul_right _ _)).add (rs_wh fun k hk => ?_)
    have q := (hc k (by omega)).mul (ih (n - 1 - k) (by omega) (by omega))
    refine q.up ?_
    have e : D * (E * D ^ (n - 1 - k)) = E * D ^ (n - k) := by
      rw [show n - k = n - 1 - k + 1 by omega, Nat.pow_succ]
      simp only [Nat.mul_assoc, Nat.mul_left_comm, Nat.mul_comm]
    rw [e]
    exact Nat.mul_dvd_mul_left E (Nat.pow_dvd_pow D (by omega))
theorem an_ab {c t : Nat → Rat} {B M m : Nat} (hc : ∀ k, k < m → Ab 1 (c k)) (ht : ∀ k, k ≤ m → Ab (B : Rat) (t k)) (hM : m + 1 ≤ M) : ∀ n, n ≤ m → Ab ((B * M ^ n : Nat) : Rat) (an c t n) := by
  intro n
  induction n using Nat.strongRecOn with
  | ind n ih =>
    intro hn
    rw [an_eq]
    cases n with
    | zero =>
      rw [rs_zero, Nat.pow_zero, Nat.mul_one]
      have := ht 0 hn
      exact ⟨by have := this.1; grind, by have := this.2; grind⟩
    | succ n =>
      have q : ∀ k, k < n + 1 → Ab ((B * M ^ n : Nat) : Rat) (c k * an c t (n + 1 - 1 - k)) := fun k hk => by
        have a := (hc k (by omega)).mul (ih (n + 1 - 1 - k) (by omega) (by omega))
        have e : (1 : Rat) * ((B * M ^ (n + 1 - 1 - k) : Nat) : Rat) = ((B * M ^ (n + 1 - 1 - k) : Nat) : Rat) := by grind
        rw [e] at a
        exact a.up (Rat.natCast_le_natCast.mpr (Nat.mul_le_mul_left B (Nat.pow_le_pow_right (by omega) (by omega))))
      have r := (ht (n + 1) hn).add (rs_ab q)
      rw [← Rat.natCast_add] at r
      refine r.up (Rat.natCast_le_natCast.mpr ?_)
      have h1 : B ≤ B * M ^ n := Nat.le_mul_of_pos_right B (Nat.pow_pos (by omega))
      have h2 : (n + 1) * (B * M ^ n) + B * M ^ n ≤ B * M ^ (n + 1) := by
        have e : (n + 1) * (B * M ^ n) + B * M ^ n = (n + 2) * (B * M ^ n) := by rw [← Nat.succ_mul]
        have e2 : B * M ^ (n + 1) = M * (B * M ^ n) := by rw [Nat.pow_succ, ← Nat.mul_assoc, Nat.mul_comm]
        rw [e, e2]
        exact Nat.mul_le_mul_right _ (by omega)
      omega
theorem at_range {n i : Nat} {g : Nat → PyData} (h : i < n) : atI ((List.range n).map g) (i : Int) = some (g i) := by
  rw [Dn.atI_nat, List.getElem?_map, List.getElem?_range h]
  rfl
def tg (ts : List Rat) (i : Nat) : Rat := ts.getD i 0
end Fp
namespace Fp
open PySem PySem.Spec L2 Dn
def pp (c : Nat → Rat) : Nat → Nat → Rat
  | 0, n => if n = 0 then 1 else 0
  | j + 1, m => rs m fun n => pp c j n * c (m - 1 - n)
def dl (n : Nat) : Rat := if n = 0 then 1 else 0
theorem map_set {n j : Nat} {g : Nat → PyData} {x : PyData} (hj : j < n) : ((List.range n).map g).set j x = (List.range n).map fun m => if m = j then x else g m := by
  apply List.ext_getElem
  · simp
  · intro i h1 h2
    rw [List.getElem_set]
    simp
    by_cases e : j = i
    · subst e
      simp
    · rw [if_neg e, if_neg (fun z => e z.symm)]
end Fp
namespace Fp
open PySem PySem.Spec L2 Dn
end Fp
namespace Fp
open PySem PySem.Spec L2 Dn
end Fp
namespace Fp
open PySem PySem.Spec L2 Dn
end Fp
namespace Fp
open PySem PySem.Spec L2 Dn
end Fp
namespace Fp
open PySem PySem.Spec L2 Dn
/-- a whole number comes of it by K to the n-th, it is at most 2 to the e-th -/
structure G (K n e : Nat) (x : Rat) : Prop where
  w : Wh (K ^ n) x
  a : Ab ((2 ^ e : Nat) : Rat) x
section
variable {K n m e d b l : Nat} {x y : Rat}
theorem G.up (h : G K n e x) (hn : n ≤ m) (he : e ≤ d) : G K m d x := ⟨h.w.up (Nat.pow_dvd_pow K hn), h.a.up (Rat.natCast_le_natCast.mpr (Nat.pow_le_pow_right (by decide) he))⟩
theorem G.mul (h : G K n e x) (k : G K m d y) : G K (n + m) (e + d) (x * y) := ⟨by rw [Nat.pow_add]; exact h.w.mul k.w, by rw [Nat.pow_add, Rat.natCast_mul]; exact h.a.mul k.a⟩
theorem two_more {e : Nat} : ((2 ^ (e + 1) : Nat) : Rat) = ((2 ^ e : Nat) : Rat) + ((2 ^ e : Nat) : Rat) := by
  rw [← Rat.natCast_add]
  congr 1
  rw [Nat.pow_succ]
  omega
theorem G.add (h : G K n e x) (k : G K n e y) : G K n (e + 1) (x + y) := ⟨h.w.add k.w, by rw [two_more]; exact h.a.add k.a⟩
theorem G.sub (h : G K n e x) (k : G K n e y) : G K n (e + 1) (x - y) := ⟨h.w.sub k.w, by rw [two_more]; exact h.a.sub k.a⟩
theorem sum_ab {B : Nat} : ∀ {xs : List Rat}, (∀ x ∈ xs, Ab (B : Rat) x) → Ab ((xs.length * B : Nat) : Rat) xs.sum
  | [], _ => by
    rw [List.sum_nil]
    exact ab_0 Rat.natCast_nonneg
  | x :: xs, h => by
    have a := (h x List.mem_cons_self).add (sum_ab fun y hy => h y (List.mem_cons_of_mem _ hy))
    rw [← Rat.natCast_add] at a
    rw [List.sum_cons, List.length_cons, Nat.add_mul, Nat.one_mul, Nat.add_comm]
    exact a
theorem G.sum {xs : List Rat} (h : ∀ x ∈ xs, G K n e x) (hl : xs.length ≤ 2 ^ l) : G K n (e + l) xs.sum :=
  ⟨sum_wh fun x hx => (h x hx).w, (sum_ab fun x hx => (h x hx).a).up (Rat.natCast_le_natCast.mpr (by rw [Nat.pow_add, Nat.mul_comm]; exact Nat.mul_le_mul_left _ hl))⟩
theorem G.rs {N : Nat} {g : Nat → Rat} (h : ∀ k, k < N → G K n e (g k)) (hl : N ≤ 2 ^ l) : G K n (e + l) (rs N g) := by
  refine G.sum (fun x hx => ?_) (by rw [List.length_map, List.length_range]; exact hl)
  obtain ⟨k, hk, rfl⟩ := List.mem_map.mp hx
  exact h k (List.mem_range.mp hk)
theorem pow_le_two (hK : K ≤ 2 ^ b) (n : Nat) : K ^ n ≤ 2 ^ (b * n) := by
  rw [Nat.pow_mul]
  exact Nat.pow_le_pow_left hK n
theorem g_size (hK : K ≤ 2 ^ b) (hb : b * n + e < m) : 2 ^ e * K ^ n < 2 ^ m := by
  have h1 := Nat.mul_le_mul_left (2 ^ e) (pow_le_two hK n)
  rw [← Nat.pow_add] at h1
  exact Nat.lt_of_le_of_lt h1 (Nat.pow_lt_pow_right (by decide) (by omega))
theorem G.szN {N : Nat} (h : G K n e x) (K0 : 0 < K) (hK : K ≤ 2 ^ b) (hb : b * n + e < N) : Sz N x := ab_sz (Nat.pow_pos K0) h.w h.a (Nat.pow_pos (by decide)) (g_size hK hb)
theorem G.sz (h : G K n e x) (K0 : 0 < K) (hK : K ≤ 2 ^ b) (hb : b * n + e < 4000) : Sz 4000 x := h.szN K0 hK hb
theorem G.of {D : Nat} (hw : Wh D x) (hd : D ∣ K) (h0 : 0 ≤ x) (h1 : x ≤ 1) : G K 1 0 x := ⟨by rw [Nat.pow_one]; exact hw.up hd, by rw [Nat.pow_zero]; exact ab_01 h0 h1⟩
end
section
variable {K n e b : Nat} {x y : Rat} {f : Feed}
theorem num_pos {y : Rat} (h : 0 < y) : 0 < y.num := by
  have d : (0 : Rat) < (y.den : Rat) := Rat.natCast_pos.mpr y.den_pos
  have e := mul_den y
  have : (0 : Rat) < (y.num : Rat) := by
    rw [← e]
    exact Rat.mul_pos h d
  exact Rat.intCast_lt_intCast.mp (show ((0 : Int) : Rat) < (y.num : Rat) from this)
theorem div_eq {x y : Rat} (h : 0 < y) : mkRat (x.num * y.den) (x.den * y.num.toNat) = x / y := by
  have hn := num_pos h
  have e : ((y.num.toNat : Nat) : Rat) = (y.num : Rat) := by
    rw [← Rat.intCast_natCast, Int.toNat_of_nonneg (by omega)]
  rw [Rat.mkRat_eq_div, Rat.natCast_mul, Rat.intCast_mul, Rat.intCast_natCast, e, ← mul_den x, ← mul_den y]
  have a := cast_ne x.den_pos
  have b := cast_ne y.den_pos
  have c : y ≠ 0 := by grind
  grind
end
@[simp] theorem ix_enc0 {x : Rat} : oIx (enc x) (.int 0) = some (.dat (.int x.num)) := nr rfl
@[simp] theorem ix_enc1 {x : Rat} : oIx (enc x) (.int 1) = some (.dat (.int (x.den : Nat))) := nr rfl
theorem fd0 (ns : List Int) : Fd 0 (feed0 ns) := ⟨Int.le_refl 0, Int.le_refl 0, Int.le_refl 0, Int.le_refl 0⟩
end Fp
namespace Fp
open PySem PySem.Spec L2 Dn
/-- a triple: a stretch, the kind that comes next, a chance -/
structure Tri where
  st : Nat
  nx : Nat
  c : Rat
def triD (t : Tri) : PyData := .tuple [.int t.st, .int t.nx, enc t.c]
def kindD (k : List Tri) : PyData := .tuple (k.map triD)
def kindsD (ks : List (List Tri)) : PyData := .tuple (ks.map kindD)
def TLt (s t : Tri) : Prop := s.st < t.st ∨ (s.st = t.st ∧ s.nx < t.nx)
/-- a kind among n, its chances whole by W -/
structure KdOk (n W : Nat) (k : List Tri) : Prop where
  W0 : 0 < W
  len : k.length ≤ 24
  st : ∀ t ∈ k, 1 ≤ t.st ∧ t.st ≤ 6 ∧ t.nx < n
  c : ∀ t ∈ k, Wh W t.c ∧ 0 < t.c ∧ t.c ≤ 1
  sum : (k.map (·.c)).sum ≤ 1
  rise : k.Pairwise TLt
theorem KdOk.up {n W V : Nat} {k : List Tri} (h : KdOk n W k) (d : W ∣ V) (V0 : 0 < V) : KdOk n V k :=
  ⟨V0, h.len, h.st, fun t ht => ⟨(h.c t ht).1.up d, (h.c t ht).2⟩, h.sum, h.rise⟩
structure KsOk (W : Nat) (ks : List (List Tri)) : Prop where
  n1 : 1 ≤ ks.length
  n4 : ks.length ≤ 4
  W0 : 0 < W
  ok : ∀ k ∈ ks, KdOk ks.length W k
  own : ∀ k ∈ ks, ∃ V, V ≤ 200 ∧ KdOk ks.length V k
abbrev Mk3 := Nat × Nat × Nat
def keyI (x : Mk3) : List Int := [(x.1 : Int), (x.2.1 : Int)]
def markI (x : Mk3) : List Int × PyData := (keyI x, .int (x.2.2 : Nat))
theorem map_of {α β : Type} {f : α → β} {P : α → Prop} : ∀ {l : List β}, (∀ p ∈ l, ∃ x, p = f x ∧ P x) → ∃ ws : List α, l = ws.map f ∧ ∀ x ∈ ws, P x
  | [], _ => ⟨[], rfl, fun x h => by cases h⟩
  | p :: r, h => by
    obtain ⟨ws, e, q⟩ := map_of fun y hy => h y (List.mem_cons_of_mem _ hy)
    obtain ⟨x, rfl, px⟩ := h p List.mem_cons_self
    refine ⟨x :: ws, by rw [e]; rfl, fun y hy => ?_⟩
    rcases List.mem_cons.mp hy with rfl | hy
    · exact px
    · exact q y hy
theorem lex2 {a b c d : Int} : HT.lexLt [a, b] [c, d] = if a = c then (if b = d then false else decide (b < d)) else decide (a < c) := by
  rw [HT.lexLt_cons, HT.lexLt_cons]
  rfl
theorem sort_marks (ws : List Mk3) (hn : (ws.map keyI).Nodup) : ∃ vs : List Mk3, vs.Perm ws ∧ sortL (ws.map keyI) = vs.map keyI ∧ vs.Pairwise fun x y => x.1 < y.1 ∨ (x.1 = y.1 ∧ x.2.1 < y.2.1) := by
  have s : (ws.mergeSort fun x y => lexLe (keyI x) (keyI y)).Pairwise fun x y => lexLe (keyI x) (keyI y) = true :=
    List.pairwise_mergeSort (fun a b c => lexLe_trans (keyI a) (keyI b) (keyI c)) (fun a b => lexLe_total (keyI a) (keyI b)) ws
  have p : (ws.mergeSort fun x y => lexLe (keyI x) (keyI y)).Perm ws := List.mergeSort_perm ws _
  generalize (ws.mergeSort fun x y => lexLe (keyI x) (keyI y)) = vs at s p
  have s2 : Srt (vs.map keyI) := List.pairwise_map.mpr (s.imp fun {a b} h => by
    unfold lexLe at h
    simpa using h)
  refine ⟨vs, p, sortL_is s2 (p.map keyI), ?_⟩
  have nd : (vs.map keyI).Nodup := (p.map keyI).nodup_iff.mpr hn
  have nd2 : vs.Pairwise fun x y => keyI x ≠ keyI y := List.pairwise_map.mp nd
  refine ((List.pairwise_map.mp s2).and nd2).imp fun {x y} h => ?_
  obtain ⟨h1, h2⟩ := h
  unfold keyI at h1 h2
  rw [lex2] at h1
  simp only [ne_eq, List.cons.injEq, and_true, Int.natCast_inj] at h2
  split at h1
  · rename_i e
    split at h1
    · exact absurd ⟨by omega, by omega⟩ h2
    · have := of_decide_eq_false h1
      exact .inr ⟨by omega, by omega⟩
  · have := of_decide_eq_false h1
    exact .inl (by omega)
theorem perm_sumK {l m : List Rat} (h : l.Perm m) : l.sum = m.sum := by
  induction h with
  | nil => rfl
  | cons x _ ih => rw [List.sum_cons, List.sum_cons, ih]
  | swap x y l =>
    rw [List.sum_cons, List.sum_cons, List.sum_cons, List.sum_cons]
    grind
  | trans _ _ a b => exact a.trans b
def triM (T : Nat) (x : Mk3) : Tri := ⟨x.1, x.2.1, mkRat (x.2.2 : Nat) T⟩
theorem sum_mk1 {W : Nat} (W0 : 0 < W) (us : List Nat) : (us.map fun (w : Nat) => mkRat (w : Nat) W).sum * (W : Rat) = (us.sum : Nat) := by
  have := sum_mk (B := 1) W0 us
  simpa using this
theorem mk_pos {W i : Nat} (hW : 0 < W) (h : 0 < i) : 0 < mkRat (i : Nat) W := by
  have h1 := (frac01 (W := max W i) (i := i) (by omega) (by omega)).1
  have e : mkRat (i : Nat) W * (W : Rat) = (i : Rat) := mk_mul (i := i) hW
  have hW2 : (0 : Rat) < W := Rat.natCast_pos.mpr hW
  have hi : (0 : Rat) < i := Rat.natCast_pos.mpr h
  apply Rat.not_le.mp
  intro z
  have : mkRat (i : Nat) W * (W : Rat) ≤ 0 * W := Rat.mul_le_mul_of_nonneg_right z (by grind)
  grind
/-- marks, sorted, by their whole -/
theorem marks_kind {n T : Nat} {ws : List Mk3} (hn : (ws.map keyI).Nodup) (hl : ws.length ≤ 24) (hb : ∀ x ∈ ws, 1 ≤ x.1 ∧ x.1 ≤ 6 ∧ x.2.1 < n ∧ 1 ≤ x.2.2) (T0 : 0 < T) (hT : (ws.map (·.2.2)).sum ≤ T) :
    ∃ vs : List Mk3, sortL (ws.map keyI) = vs.map keyI ∧ vs.Perm ws ∧ KdOk n T (vs.map (triM T)) ∧ ((ws.map (·.2.2)).sum = T → ((vs.map (triM T)).map (·.c)).sum = 1) := by
  obtain ⟨vs, p, e, r⟩ := sort_marks ws hn
  have hs : ((vs.map (triM T)).map (·.c)).sum * (T : Rat) = ((ws.map (·.2.2)).sum : Nat) := by
    rw [← sum_mk1 T0, List.map_map, List.map_map]
    congr 1
    exact perm_sumK (p.map _)
  have hT2 : (0 : Rat) < T := Rat.natCast_pos.mpr T0
  have hTn : (T : Rat) ≠ 0 := by grind
  refine ⟨vs, e, p, ⟨T0, by rw [List.length_map, p.length_eq]; exact hl, fun t ht => ?_, fun t ht => ?_, ?_, List.pairwise_map.mpr (r.imp fun {x y} h => h)⟩, fun h => ?_⟩
  · obtain ⟨x, hx, rfl⟩ := List.mem_map.mp ht
    obtain ⟨h1, h2, h3, _⟩ := hb x (p.mem_iff.mp hx)
    exact ⟨h1, h2, h3⟩
  · obtain ⟨x, hx, rfl⟩ := List.mem_map.mp ht
    have hx2 := p.mem_iff.mp hx
    obtain ⟨_, _, _, h4⟩ := hb x hx2
    have h5 : x.2.2 ≤ T := Nat.le_trans (mem_le_sum (List.mem_map.mpr ⟨x, hx2, rfl⟩)) hT
    exact ⟨wh_mk T0, mk_pos T0 (by omega), (frac01 T0 h5).2⟩
  · have h1 : (((ws.map (·.2.2)).sum : Nat) : Rat) ≤ T := Rat.natCast_le_natCast.mpr hT
    apply Rat.not_lt.mp
    intro z
    have := Rat.mul_lt_mul_of_pos_right z hT2
    grind
  · rw [h] at hs
    have : (((vs.map (triM T)).map (·.c)).sum - 1) * (T : Rat) = 0 := by grind
    rcases Rat.mul_eq_zero.mp this with h | h
    · grind
    · exact absurd h hTn
end Fp
namespace Fp
open PySem PySem.Spec L2 Dn
theorem following_ok {t : Int} {f : Feed} {way k n : Int} (hF : Fd t f) (ht : t < 2 ^ 39) (k0 : 0 ≤ k) (kn : k < n) (n4 : n ≤ 4) : Ev (F_q_following [.feed, .dat (.int way), .dat (.int k), .dat (.int n)] f) (Drawn t n) := by
  rw [u_q_following, ev_dEnd]
  unfold S_q_following
  have m1 := oMod_int (x := k + 1) (y := n) (by omega)
  have d1 := oDiv_int (x := k) (y := 2) (by decide) (by decide)
  have hk : (k / 2).natAbs < 2 ^ 10 := by omega
  have u1 := oMul_int (x := k / 2) (y := 2) (mulC_small (k := 10) (l := 10) hk (by decide) (by decide))
  simp [m1, d1, u1, ev_ite]
  refine ⟨fun _ => ⟨_, rfl, Int.emod_nonneg _ (by omega), Int.emod_lt_of_pos _ (by omega), hF.up (by omega)⟩, fun _ => ⟨fun _ => ⟨_, rfl, k0, kn, hF.up (by omega)⟩, fun _ => ⟨fun _ => ?_, fun _ => ⟨fun _ => ?_, fun _ => ?_⟩⟩⟩⟩
  · refine Ev.drawn (draw_v3_ok (by decide) (by decide) hF (by omega)) fun a g a0 a1 hF1 => ?_
    simp
    exact ⟨_, rfl, by omega, by omega, hF1⟩
  · refine Ev.mono (draw_v3_ok (s := k + 1) (by omega) (by omega) hF (by omega)) ?_
    rintro _ g ⟨i, rfl, i0, i1, hF1⟩
    exact ⟨_, rfl, i0, by omega, hF1⟩
  · refine Ev.mono (draw_v3_ok (s := n) (by omega) (by omega) hF (by omega)) ?_
    rintro _ g ⟨i, rfl, i0, i1, hF1⟩
    exact ⟨_, rfl, i0, by omega, hF1⟩
/-- marks as they grow -/
structure MOk (n m : Nat) (kvs : List (List Int × PyData)) : Prop where
  nd : (kvs.map (·.1)).Nodup
  len : kvs.length ≤ m
  at' : ∀ p ∈ kvs, ∃ x : Mk3, p = markI x ∧ 1 ≤ x.1 ∧ x.1 ≤ 6 ∧ x.2.1 < n ∧ 1 ≤ x.2.2 ∧ x.2.2 ≤ 9
theorem MOk.put {n m : Nat} {kvs : List (List Int × PyData)} (h : MOk n m kvs) {x : Mk3} (h1 : 1 ≤ x.1) (h2 : x.1 ≤ 6) (h3 : x.2.1 < n) (h4 : 1 ≤ x.2.2) (h5 : x.2.2 ≤ 9) : MOk n (m + 1) (setK kvs (keyI x) (.int (x.2.2 : Nat))) where
  nd := setK_nodup _ _ h.nd
  len := Nat.le_trans (setK_len _ _ _) (Nat.succ_le_succ h.len)
  at' := fun p hp => by
    rcases setK_mem hp with hp | rfl
    · exact h.at' p hp
    · exact ⟨x, rfl, h1, h2, h3, h4, h5⟩
theorem sum_le_len {b : Nat} : ∀ {l : List Nat}, (∀ x ∈ l, x ≤ b) → l.sum ≤ l.length * b
  | [], _ => by simp
  | a :: r, h => by
    have := sum_le_len fun x hx => h x (List.mem_cons_of_mem _ hx)
    have := h a List.mem_cons_self
    rw [List.sum_cons, List.length_cons, Nat.succ_mul]
    omega
/-- the kind that marks tell -/
theorem MOk.kind {n m lack : Nat} {kvs : List (List Int × PyData)} (h : MOk n m kvs) (m4 : m ≤ 4) (hl : lack ≤ 9) (h0 : kvs ≠ [] ∨ 0 < lack) :
    ∃ (T : Nat) (vs : List Mk3), 0 < T ∧ T ≤ 45 ∧ oSum (.list (kvs.map (·.2))) = some (.dat (.int ((T : Int) - lack))) ∧ sortL (kvs.map (·.1)) = vs.map keyI ∧ (∀ x ∈ vs, getK kvs (keyI x) = some (.int (x.2.2 : Nat))) ∧ vs.length ≤ 4 ∧ KdOk n T (vs.map (triM T)) ∧ (lack = 0 → ((vs.map (triM T)).map (·.c)).sum = 1) := by
  obtain ⟨ws, e, hw⟩ := map_of h.at'
  subst e
  have k1 : (ws.map markI).map (·.1) = ws.map keyI := by
    rw [List.map_map]
    rfl
  have k2 : (ws.map markI).map (·.2) = (ws.map (·.2.2)).map fun (w : Nat) => PyData.int w := by
    rw [List.map_map, List.map_map]
    rfl
  have hn := h.nd
  rw [k1] at hn
  have hlen : ws.length ≤ 4 := by
    have := h.len
    rw [List.length_map] at this
    omega
  have hs9 : (ws.map (·.2.2)).sum ≤ 36 := by
    have := sum_le_len (b := 9) (l := ws.map (·.2.2)) fun x hx => by
      obtain ⟨y, hy, rfl⟩ := List.mem_map.mp hx
      exact (hw y hy).2.2.2.2
    rw [List.length_map] at this
    omega
  have T0 : 0 < (ws.map (·.2.2)).sum + lack := by
    rcases h0 with h0 | h0
    · cases ws with
      | nil => exact absurd rfl h0
      | cons a r =>
        have := (hw a List.mem_cons_self).2.2.2.1
        rw [List.map_cons, List.sum_cons]
        omega
    · omega
  obtain ⟨vs, e1, e2, e3, e4⟩ := marks_kind hn (by omega) (fun x hx => ⟨(hw x hx).1, (hw x hx).2.1, (hw x hx).2.2.1, (hw x hx).2.2.2.1⟩) T0 (Nat.le_add_right _ _)
  refine ⟨(ws.map (·.2.2)).sum + lack, vs, T0, by omega, ?_, by rw [k1, e1], fun x hx => ?_, by rw [e2.length_eq]; exact hlen, e3, fun z => e4 (by omega)⟩
  · rw [k2, oSum_nats]
    congr 3
    omega
  · exact getK_of_mem (p := markI x) h.nd (List.mem_map.mpr ⟨x, e2.mem_iff.mp hx, rfl⟩)
theorem setK_ne {kvs : List (List Int × PyData)} {x : List Int} {d : PyData} : setK kvs x d ≠ [] := fun z => by
  have := setK_get kvs x x d
  rw [z, if_pos rfl] at this
  cases this
def fullK (k : List Tri) : Prop := (k.map (·.c)).sum = 1
/-- kinds so far -/
structure SoFar (n i : Nat) (full : Bool) (ks : List (List Tri)) : Prop where
  len : ks.length = i
  W : ∃ W, 0 < W ∧ W ≤ 200 ^ i ∧ ∀ k ∈ ks, KdOk n W k
  full : full = true → ∀ k ∈ ks, fullK k
  own : ∀ k ∈ ks, ∃ V, V ≤ 200 ∧ KdOk n V k
theorem SoFar.nil {n : Nat} {full : Bool} : SoFar n 0 full [] := ⟨rfl, ⟨1, by decide, by decide, fun k h => (by cases h)⟩, fun _ k h => (by cases h), fun k h => (by cases h)⟩
theorem SoFar.snoc {n i T : Nat} {full : Bool} {ks : List (List Tri)} {k : List Tri} (h : SoFar n i full ks) (hk : KdOk n T k) (hT : T ≤ 200) (hf : full = true → fullK k) : SoFar n (i + 1) full (ks ++ [k]) := by
  obtain ⟨W, W0, W1, w⟩ := h.W
  refine ⟨by rw [List.length_append, h.len]; rfl, ⟨W * T, Nat.mul_pos W0 hk.W0, ?_, fun l hl => ?_⟩, fun z l hl => ?_, fun l hl => ?_⟩
  · rw [Nat.pow_succ]
    exact Nat.mul_le_mul W1 hT
  · rcases List.mem_append.mp hl with hl | hl
    · exact (w l hl).up (Nat.dvd_mul_right _ _) (Nat.mul_pos W0 hk.W0)
    · rw [List.mem_singleton] at hl
      subst hl
      exact hk.up (Nat.dvd_mul_left _ _) (Nat.mul_pos W0 hk.W0)
  · rcases List.mem_append.mp hl with hl | hl
    · exact h.full z l hl
    · rw [List.mem_singleton] at hl
      subst hl
      exact hf z
  · rcases List.mem_append.mp hl with hl | hl
    · exact h.own l hl
    · rw [List.mem_singleton] at hl
      subst hl
      exact ⟨T, hT, hk⟩
theorem SoFar.all {n : Nat} {full : Bool} {ks : List (List Tri)} (h : SoFar n n full ks) (n1 : 1 ≤ n) (n4 : n ≤ 4) : ∃ W, W ≤ 2 ^ 31 ∧ KsOk W ks := by
  obtain ⟨W, W0, W1, w⟩ := h.W
  have : 200 ^ n ≤ 200 ^ 4 := Nat.pow_le_pow_right (by decide) n4
  exact ⟨W, by omega, by rw [h.len]; exact n1, by rw [h.len]; exact n4, W0, by rw [h.len]; exact w, by rw [h.len]; exact h.own⟩
theorem kinds_ok {t : Int} {f : Feed} {n : Nat} {full : Bool} (hF : Fd t f) (ht : t < 2 ^ 30) (t0 : 0 ≤ t) (n1 : 1 ≤ n) (n4 : n ≤ 4) : Ev (F_q_kinds [.feed, .dat (.int n), .dat (.bool full)] f) fun rv g => ∃ ks W, rv = .dat (kindsD ks) ∧ KsOk W ks ∧ W ≤ 2 ^ 31 ∧ ks.length = n ∧ (full = true → ∀ k ∈ ks, fullK k) ∧ Fd (t + 70) g := by
  rw [u_q_kinds, ev_dEnd]
  unfold S_q_kinds
  simp
  refine Ev.drawnE (draw_v3_ok (by decide) (by decide) hF (by omega)) fun way f1 way0 way1 hF1 => ?_
  simp [smallI_ok (n := (n : Int)) (by omega) (by omega)]
  refine ev_for (I := fun i ρ g => Fd (t + 1 + 15 * i) g ∧ ∃ ks s5 s6 s7 s8 s9 s10, SoFar n i full ks ∧ ρ = [.feed, .dat (.int n), .dat (.bool full), .dat (.int way), .own (ks.map kindD), s5, s6, s7, s8, s9, s10]) ⟨by simpa using hF1, [], _, _, _, _, _, _, SoFar.nil, rfl⟩ ?_ ?_
  · rintro k d ρ g hd ⟨hG, ks, s5, s6, s7, s8, s9, s10, hs, rfl⟩
    obtain ⟨rfl, hk⟩ := range_at hd
    refine ⟨_, rfl, ?_⟩
    simp
    refine Ev.drawn (draw_v3_ok (by decide) (by decide) hG (by omega)) fun c g1 c0 c5 hG1 => ?_
    obtain ⟨l0, hl0, el0⟩ : ∃ l : Nat, l ≤ 9 ∧ atI [PyData.int 0, PyData.int 0, PyData.int 1, PyData.int 5, PyData.int 9] c = some (.int l) := by
      obtain rfl | rfl | rfl | rfl | rfl : c = 0 ∨ c = 1 ∨ c = 2 ∨ c = 3 ∨ c = 4 := by omega
      · exact ⟨0, by decide, rfl⟩
      · exact ⟨0, by decide, rfl⟩
      · exact ⟨1, by decide, rfl⟩
      · exact ⟨5, by decide, rfl⟩
      · exact ⟨9, by decide, rfl⟩
    obtain ⟨lack, hl, elack, lf⟩ : ∃ lack : Nat, lack ≤ 9 ∧ oMul (.int l0) (.int (if full = false then 1 else 0)) = some (.dat (.int lack)) ∧ (full = true → lack = 0) := by
      cases full with
      | true => exact ⟨0, by decide, by rw [oMul_int (mulC_small (k := 10) (l := 10) (by omega) (by decide) (by decide))]; simp, fun _ => rfl⟩
      | false => exact ⟨l0, hl0, by rw [oMul_int (mulC_small (k := 10) (l := 10) (by omega) (by decide) (by decide))]; simp, fun z => by cases z⟩
    simp [el0, elack]
    refine Ev.drawn (draw_v3_ok (by decide) (by decide) hG1 (by omega)) fun m g2 m0 m4 hG2 => ?_
    simp [smallI_ok (n := 1 + m) (by omega) (by omega)]
    refine ev_for (I := fun i ρ g => Fd (t + 1 + 15 * k + 2 + 3 * i) g ∧ ∃ kvs s8 s9, MOk n i kvs ∧ (0 < i → kvs ≠ []) ∧ ρ = [.feed, .dat (.int n), .dat (.bool full), .dat (.int way), .own (ks.map kindD), .dat (.int k), .dct (.T kvs), .dat (.int lack), s8, s9, s10]) ⟨hG2.up (by omega), [], _, _, ⟨List.Pairwise.nil, Nat.le_refl 0, fun p hp => by cases hp⟩, fun z => by omega, rfl⟩ ?_ ?_
    · rintro i d ρ g hd ⟨hH, kvs, s8, s9, hm, hne, rfl⟩
      obtain ⟨rfl, hi⟩ := range_at hd
      refine ⟨_, rfl, ?_⟩
      simp
      refine Ev.drawn (draw_v3_ok (by decide) (by decide) hH (by omega)) fun a g3 a0 a6 hH3 => ?_
      simp
      refine Ev.drawnD (following_ok hH3 (by omega) (by omega) (by omega) (by omega)) fun b g4 b0 bn hH4 => ?_
      simp
      refine Ev.drawn (draw_v3_ok (by decide) (by decide) hH4 (by omega)) fun w g5 w0 w9 hH5 => ?_
      have hp := hm.put (x := ((1 + a).toNat, b.toNat, (1 + w).toNat)) (by dsimp only; omega) (by dsimp only; omega) (by dsimp only; omega) (by dsimp only; omega) (by dsimp only; omega)
      have e1 : keyI ((1 + a).toNat, b.toNat, (1 + w).toNat) = [1 + a, b] := by
        unfold keyI
        simp
        omega
      have e2 : (((1 + w).toNat : Nat) : Int) = 1 + w := by omega
      have hlen := hm.len
      rw [e1] at hp
      dsimp only at hp
      rw [e2] at hp
      simp [show kvs.length < 100000 by omega]
      exact ⟨hH5.up (by omega), hp, fun z => setK_ne z⟩
    · rintro ρ g ⟨hH, kvs, s8, s9, hm, hne, rfl⟩
      rw [range_len] at hm hH hne
      rw [e_then_nx]
      refine ev_step (fun ρ2 g2 => Fd (t + 1 + 15 * (k + 1)) g2 ∧ ∃ kvs s8 s9, MOk n 4 kvs ∧ (kvs ≠ [] ∨ 0 < lack) ∧ ρ2 = [.feed, .dat (.int n), .dat (.bool full), .dat (.int way), .own (ks.map kindD), .dat (.int k), .dct (.T kvs), .dat (.int lack), s8, s9, s10]) ?_ ?_
      · have hm4 : MOk n 4 kvs := ⟨hm.nd, Nat.le_trans hm.len (by omega), hm.at'⟩
        have hne := hne (by omega)
        have h0 : MOk n 4 [] := ⟨List.Pairwise.nil, Nat.zero_le _, fun p hp => by cases hp⟩
        by_cases h9 : lack = 9
        · subst h9
          simp
          refine Ev.drawn (draw_v3_ok (by decide) (by decide) hH (by omega)) fun c g1 c0 c3 hH1 => ?_
          simp
          by_cases c9 : c = 0
          · simp [c9]
            exact ⟨hH1.up (by omega), h0⟩
          · simp [c9]
            exact ⟨hH1.up (by omega), hm4⟩
        · simp [show ¬ (lack : Int) = 9 by omega]
          exact ⟨hH.up (by omega), hm4, .inl hne⟩
      · rintro ρ g ⟨hH, kvs, s8, s9, hm, h0, rfl⟩
        obtain ⟨T, vs, T0, T45, e1, e2, e3, e4, e5, e6⟩ := hm.kind (Nat.le_refl 4) hl h0
        have k0 : ∀ x : Mk3, (keyI x)[0]? = some (x.1 : Int) := fun _ => rfl
        have k1 : ∀ x : Mk3, (keyI x)[1]? = some (x.2.1 : Int) := fun _ => rfl
        have lc : ∀ s8 : Slot, lcN (.one 9) cYes (cTup [cBin oIx (cVar 9) (cC (.int 0)), cBin oIx (cVar 9) (cC (.int 1)), cCall F_q_lowest [cDGet 6 (cVar 9), cVar 10]]) [.feed, .dat (.int n), .dat (.bool full), .dat (.int way), .own (ks.map kindD), .dat (.int k), .dct (.T kvs), .dat (.int lack), s8, .emp, .dat (.int T)] ((vs.map keyI).map tupI) [] g = .ok (vs.map fun x => triD (triM T x)) g := fun s8 => by
          rw [List.map_map]
          refine lc_map (by omega) fun x hx => ⟨_, rfl, ?_⟩
          simp [e3 x hx, k0, k1, lowest_ok T0 (show T < 2 ^ 2000 by omega), low_eq T0]
          rfl
        have e7 : (vs.map fun x => triD (triM T x)) = (vs.map (triM T)).map triD := by rw [List.map_map]; rfl
        have e8 : ks.map kindD ++ [.tuple ((vs.map (triM T)).map triD)] = (ks ++ [vs.map (triM T)]).map kindD := by rw [List.map_append]; rfl
        have hlen := hm.len
        have hkl := hs.len
        simp only [e_seq, e_set, e_Bin, e_Un, e_dvals]
        simp [e1, show kvs.length ≤ 100000 by omega, e2]
        rw [← List.map_map, lc]
        simp [show ks.length < 100000 by omega, e7, e8]
        exact ⟨hH, _, hs.snoc e5 (by omega) fun z => e6 (lf z), by simp [kindD]⟩
  · rintro ρ g ⟨hG, ks, s5, s6, s7, s8, s9, s10, hs, rfl⟩
    simp
    rw [range_len] at hs hG
    obtain ⟨W, hW, hk⟩ := hs.all n1 n4
    exact ⟨ks, rfl, W, hk, hW, hs.len, hs.full, hG.up (by omega)⟩
end Fp
namespace Fp
open PySem PySem.Spec L2 Dn
/-- all chances behind k -/
def rest (L : Life) (k : Nat) : Rat := tot L - rs k fun i => ch L (i + 1)
/-- it lasts more than k -/
def lasts (L : Life) (k : Nat) : Rat := 1 - rs k fun i => ch L (i + 1)
/-- the bottom of all to m -/
abbrev kk (W s m : Nat) : Nat := 12 * (W * s ^ m)
section
variable {W s m k : Nat} {L : Life} {f : Feed}
theorem LOk.k0 (h : LOk W s L) : 0 < kk W s m := Nat.mul_pos (by decide) (Nat.mul_pos h.W0 (Nat.pow_pos h.s0))
theorem LOk.st1' (h : LOk W s L) : L.step ≤ 1 := by
  have := h.st1
  grind
theorem LOk.gch (h : LOk W s L) (hk : k ≤ m) : G (kk W s m) 1 0 (Fp.ch L k) := by
  have c := h.ch hk
  exact G.of c.1 (Nat.dvd_mul_left _ _) c.2.1 c.2.2
end
end Fp
namespace Fp
open PySem PySem.Spec L2 Dn
end Fp
namespace Fp
open PySem PySem.Spec L2 Dn
@[simp] theorem ix_life0 {L : Life} : oIx (lifeD L) (.int 0) = some (.dat (.tuple (L.row.map enc))) := nr rfl
@[simp] theorem ix_life1 {L : Life} : oIx (lifeD L) (.int 1) = some (.dat (enc L.step)) := nr rfl
theorem G.an {K d e m : Nat} {c t : Nat → Rat} (hc : ∀ k, k < m → G K 1 0 (c k)) (ht : ∀ k, k ≤ m → G K d e (t k)) (hm : m ≤ 31) : ∀ n, n ≤ m → G K (d + n) (e + 5 * n) (an c t n) := fun n hn => by
  refine ⟨?_, ?_⟩
  · rw [Nat.pow_add]
    exact an_wh (fun k hk => by have := (hc k hk).w; rwa [Nat.pow_one] at this) (fun k hk => (ht k hk).w) n hn
  · have a := an_ab (B := 2 ^ e) (M := 32) (m := m) (c := c) (t := t) (fun k hk => by have := (hc k hk).a; rwa [Nat.pow_zero] at this) (fun k hk => (ht k hk).a) (by omega) n hn
    rwa [show 2 ^ e * 32 ^ n = 2 ^ (e + 5 * n) by rw [Nat.pow_add, Nat.pow_mul]] at a
end Fp
namespace Fp
open PySem PySem.Spec L2 Dn
section
variable {W s N : Nat} {L : Life} {f : Feed}
end
end Fp
namespace Fp
open PySem PySem.Spec L2 Dn
def far (L : Life) (n : Nat) : Life := ⟨List.replicate n 0 ++ L.row, L.step⟩
theorem sum_zeros : ∀ n : Nat, (List.replicate n (0 : Rat)).sum = 0
  | 0 => rfl
  | n + 1 => by
    rw [List.replicate_succ, List.sum_cons, sum_zeros n]
    grind
theorem far_tot {L : Life} {n : Nat} (h : L.row = [] → L.step = 0) : tot (far L n) = tot L := by
  unfold tot far
  show (List.replicate n 0 ++ L.row).sum + lastR ⟨List.replicate n 0 ++ L.row, L.step⟩ * L.step / (1 - L.step) = _
  rw [List.sum_append, sum_zeros, Rat.zero_add]
  congr 1
  by_cases z : L.row = []
  · rw [h z, Rat.mul_zero, Rat.mul_zero]
  · congr 2
    unfold lastR
    rw [List.getLastD_eq_getLast?, List.getLastD_eq_getLast?, List.getLast?_append, List.getLast?_eq_some_getLast z]
    rfl
theorem LOk.far {W s n : Nat} {L : Life} (h : LOk W s L) : LOk W s (Fp.far L n) := by
  refine ⟨h.W0, h.s0, fun x hx => ?_, h.step, h.st0, h.st1, fun z => ?_, by rw [far_tot h.emp]; exact h.tot1⟩
  · rcases List.mem_append.mp hx with q | q
    · rw [List.eq_of_mem_replicate q]
      exact ⟨wh_0, by decide, by decide⟩
    · exact h.row x q
  · exact h.emp (List.append_eq_nil_iff.mp z).2
end Fp
namespace Fp
open PySem PySem.Spec L2 Dn
@[simp] theorem isNone_enc {x : Rat} : isNone (enc x) = false := nr rfl
@[simp] theorem isNone_none : isNone .none = true := nr rfl
theorem sz_mk {p : Int} {q n : Nat} (hq : 0 < q) (h1 : p.natAbs < 2 ^ n) (h2 : q < 2 ^ n) : Sz n (mkRat p q) := by
  refine ⟨?_, ?_⟩
  · rw [Rat.num_mkRat, if_neg (by omega), Int.natAbs_ediv_of_dvd (Int.ofNat_dvd_left.mpr (Nat.gcd_dvd_right _ _))]
    exact Nat.lt_of_le_of_lt (Nat.div_le_self _ _) h1
  · rw [Rat.den_mkRat, if_neg (by omega)]
    exact Nat.lt_of_le_of_lt (Nat.div_le_self _ _) h2
theorem Sz.mul {a b : Nat} {x y : Rat} (hx : Sz a x) (hy : Sz b y) : Sz (a + b) (x * y) := by
  rw [← mul_eq]
  refine sz_mk (Nat.mul_pos x.den_pos y.den_pos) ?_ ?_
  · rw [Int.natAbs_mul, Nat.pow_add]
    exact Nat.mul_lt_mul_of_lt_of_lt hx.num hy.num
  · rw [Nat.pow_add]
    exact Nat.mul_lt_mul_of_lt_of_lt hx.den hy.den
theorem Sz.add {a b : Nat} {x y : Rat} (hx : Sz a x) (hy : Sz b y) : Sz (a + b + 1) (x + y) := by
  rw [← add_eq]
  have h1 := Nat.mul_lt_mul_of_lt_of_lt hx.num hy.den
  have h2 := Nat.mul_lt_mul_of_lt_of_lt hy.num hx.den
  have h3 := Nat.mul_lt_mul_of_lt_of_lt hx.den hy.den
  have e : 2 ^ (a + b + 1) = 2 ^ a * 2 ^ b + 2 ^ b * 2 ^ a := by
    rw [Nat.pow_succ, Nat.pow_add, Nat.mul_comm (2 ^ b)]
    omega
  refine sz_mk (Nat.mul_pos x.den_pos y.den_pos) ?_ ?_
  · have a1 : (x.num * y.den).natAbs = x.num.natAbs * y.den := by rw [Int.natAbs_mul, Int.natAbs_natCast]
    have a2 : (y.num * x.den).natAbs = y.num.natAbs * x.den := by rw [Int.natAbs_mul, Int.natAbs_natCast]
    have a3 := Int.natAbs_add_le (x.num * y.den) (y.num * x.den)
    omega
  · omega
theorem Sz.neg {a : Nat} {x : Rat} (hx : Sz a x) : Sz a (-x) := ⟨by rw [show (-x).num = -x.num from rfl, Int.natAbs_neg]; exact hx.num, by rw [show (-x).den = x.den from rfl]; exact hx.den⟩
theorem Sz.sub {a b : Nat} {x y : Rat} (hx : Sz a x) (hy : Sz b y) : Sz (a + b + 1) (x - y) := by
  rw [Rat.sub_eq_add_neg]
  exact hx.add hy.neg
section
variable {W s m k N : Nat} {L : Life} {f : Feed}
end
end Fp
namespace Fp
open PySem PySem.Spec L2 Dn
/-- of a row from its end: noughts out -/
def tz : List Rat → List Rat
  | [] => []
  | x :: r => if x = 0 then tz r else x :: r
/-- .. chances that go on by the step out -/
def ts (st : Rat) : List Rat → List Rat
  | [] => []
  | x :: r => match r with
    | [] => [x]
    | y :: r2 => if y * st = x then ts st (y :: r2) else x :: y :: r2
theorem ts_two (st x y : Rat) (r : List Rat) : ts st (x :: y :: r) = if y * st = x then ts st (y :: r) else x :: y :: r := by
  rw [ts]
theorem ts_one (st x : Rat) : ts st [x] = [x] := by
  rw [ts]
def shortR (r : List Rat) (st : Rat) : Life := if r.head? = some 0 ∨ st = 0 then ⟨(tz r).reverse, 0⟩ else ⟨(ts st r).reverse, st⟩
def shortL (L : Life) : Life := shortR L.row.reverse L.step
/-- a row from its end, as data -/
def rd (r : List Rat) : List PyData := r.reverse.map enc
/-- what a life's numbers are: short -/
def Plain (L : Life) : Prop := (∀ x ∈ L.row, Sz 400 x) ∧ Sz 400 L.step
theorem LOk.plain {W s : Nat} {L : Life} (h : LOk W s L) (hW : W ≤ 2 ^ 90) (hs : s ≤ 4) : Plain L :=
  ⟨fun x hx => ab_sz (B := 1) h.W0 (h.row x hx).1 (ab_01 (h.row x hx).2.1 (h.row x hx).2.2) (by decide) (Nat.lt_of_le_of_lt (Nat.mul_le_mul_left 1 hW) (by decide)), ab_sz (B := 1) h.s0 h.step (ab_01 h.st0 h.st1') (by decide) (Nat.lt_of_le_of_lt (Nat.mul_le_mul_left 1 hs) (by decide))⟩
section
variable {L : Life} {f : Feed}
end
end Fp
namespace Fp
open PySem PySem.Spec L2 Dn
/-- chances of a kind, of some triples, added -/
def cp (k : List Tri) (p : Tri → Bool) : Rat := ((k.filter p).map (·.c)).sum
theorem cp_snoc {k : List Tri} {t : Tri} {p : Tri → Bool} : cp (k ++ [t]) p = cp k p + if p t = true then t.c else 0 := by
  unfold cp
  rw [List.filter_append, List.map_append, sum_app]
  congr 1
  by_cases h : p t = true
  · rw [List.filter_cons_of_pos h, if_pos h]
    show t.c + 0 = t.c
    grind
  · rw [List.filter_cons_of_neg h, if_neg h]
    rfl
theorem cp_cons {k : List Tri} {t : Tri} {p : Tri → Bool} : cp (t :: k) p = (if p t = true then t.c else 0) + cp k p := by
  unfold cp
  by_cases h : p t = true
  · rw [List.filter_cons_of_pos h, if_pos h]
    simp
  · rw [List.filter_cons_of_neg h, if_neg h]
    simp [Rat.zero_add]
theorem cp_bd {k : List Tri} {p : Tri → Bool} (h : ∀ t ∈ k, 0 ≤ t.c) : 0 ≤ cp k p ∧ cp k p ≤ (k.map (·.c)).sum := by
  induction k with
  | nil => exact ⟨Rat.le_refl, Rat.le_refl⟩
  | cons t k ih =>
    obtain ⟨h1, h2⟩ := ih fun s hs => h s (List.mem_cons_of_mem _ hs)
    have h3 := h t List.mem_cons_self
    rw [cp_cons, List.map_cons, List.sum_cons]
    constructor
    · split <;> grind
    · split <;> grind
theorem cp_wh {W : Nat} {k : List Tri} {p : Tri → Bool} (h : ∀ t ∈ k, Wh W t.c) : Wh W (cp k p) :=
  sum_wh fun x hx => by
    obtain ⟨t, ht, rfl⟩ := List.mem_map.mp hx
    exact h t (List.mem_filter.mp ht).1
theorem KdOk.cp {n W : Nat} {k : List Tri} (h : KdOk n W k) (p : Tri → Bool) : Wh W (cp k p) ∧ 0 ≤ Fp.cp k p ∧ Fp.cp k p ≤ 1 := by
  have := cp_bd (p := p) fun t ht => (show 0 ≤ t.c by have := (h.c t ht).2.1; grind)
  have h1 := h.sum
  exact ⟨cp_wh fun t ht => (h.c t ht).1, this.1, by grind⟩
theorem sz01 {D n : Nat} {x : Rat} (hD : 0 < D) (w : Wh D x) (h0 : 0 ≤ x) (h1 : x ≤ 1) (hn : D < 2 ^ n) : Sz n x := ab_sz (B := 1) hD w (by simpa using ab_01 h0 h1) (by decide) (by omega)
theorem KdOk.cpS {n W : Nat} {k : List Tri} (h : KdOk n W k) (hW : W ≤ 2 ^ 31) (p : Tri → Bool) : Sz 40 (Fp.cp k p) := by
  obtain ⟨w, h0, h1⟩ := h.cp p
  exact sz01 h.W0 w h0 h1 (by omega)
theorem KdOk.cS {n W : Nat} {k : List Tri} (h : KdOk n W k) (hW : W ≤ 2 ^ 31) {t : Tri} (ht : t ∈ k) : Sz 40 t.c := by
  obtain ⟨w, h0, h1⟩ := h.c t ht
  exact sz01 h.W0 w (by grind) h1 (by omega)
/-- a part of a kind is a kind -/
theorem KdOk.sub {n W : Nat} {k l : List Tri} (h : KdOk n W k) (s : l.Sublist k) : KdOk n W l where
  W0 := h.W0
  len := Nat.le_trans s.length_le h.len
  st := fun t ht => h.st t (s.subset ht)
  c := fun t ht => h.c t (s.subset ht)
  sum := by
    have hc : ∀ t ∈ k, 0 ≤ t.c := fun t ht => by have := (h.c t ht).2.1; grind
    have h1 := h.sum
    have : ∀ {k l : List Tri}, l.Sublist k → (∀ t ∈ k, 0 ≤ t.c) → (l.map (·.c)).sum ≤ (k.map (·.c)).sum := by
      intro k l s
      induction s with
      | slnil => exact fun _ => Rat.le_refl
      | cons a _ ih =>
        intro h
        have h1 := ih fun t ht => h t (List.mem_cons_of_mem _ ht)
        have h2 := h a List.mem_cons_self
        rw [List.map_cons, List.sum_cons]
        grind
      | cons_cons a _ ih =>
        intro h
        have h1 := ih fun t ht => h t (List.mem_cons_of_mem _ ht)
        rw [List.map_cons, List.map_cons, List.sum_cons, List.sum_cons]
        grind
    have := this s hc
    grind
  rise := h.rise.sublist s
def pN (f : Nat) (t : Tri) : Bool := decide (t.nx = f)
def pS (j : Nat) (t : Tri) : Bool := decide (t.st = j)
/-- a list that chances are put to, triple by triple -/
theorem put_row {n j : Nat} {g : Nat → Rat} {x : Rat} (hj : j < n) : ((List.range n).map fun m => enc (g m)).set j (enc x) = (List.range n).map fun m => enc (if m = j then x else g m) := by
  rw [map_set hj]
  refine List.map_congr_left fun m _ => ?_
  split <;> rfl
def rowN (n : Nat) (k : List Tri) : List PyData := (List.range n).map fun f => enc (cp k (pN f))
def rowsD (ks : List (List Tri)) : PyData := .tuple (ks.map fun k => .tuple (rowN ks.length k))
theorem const_row (n : Nat) : (List.range n).map (fun _ => enc 0) = List.replicate n (enc 0) := by
  rw [List.map_const', List.length_range]
theorem rowN_len {n : Nat} {k : List Tri} : (rowN n k).length = n := by
  unfold rowN
  rw [List.length_map, List.length_range]
theorem rowN_at {n j : Nat} {k : List Tri} (h : j < n) : atI (rowN n k) (j : Int) = some (enc (cp k (pN j))) := at_range h
theorem rowN_put {n : Nat} {k : List Tri} {t : Tri} (h : t.nx < n) : (rowN n k).set t.nx (enc (cp k (pN t.nx) + t.c)) = rowN n (k ++ [t]) := by
  unfold rowN
  rw [put_row h]
  refine List.map_congr_left fun m _ => ?_
  rw [cp_snoc]
  unfold pN
  by_cases e : m = t.nx
  · subst e
    rw [if_pos rfl, if_pos (decide_eq_true rfl)]
  · rw [if_neg e, if_neg (by simp; exact fun z => e z.symm)]
    congr 1
    grind
theorem chain_q {W : Nat} {ks : List (List Tri)} {f : Feed} (h : KsOk W ks) (hW : W ≤ 2 ^ 31) : F_chain [.dat (kindsD ks)] f = .ok (.dat (rowsD ks)) f := by
  apply ev_is
  rw [u_chain, ev_dEnd]
  unfold S_chain kindsD
  simp
  refine ev_forT (I := fun (rest : List (List Tri)) ρ g => g = f ∧ ∃ done s2 s3 s4 s5 s6 s7, done ++ rest = ks ∧ ρ = [.dat (.tuple (ks.map kindD)), .own (done.map fun k => .tuple (rowN ks.length k)), s2, s3, s4, s5, s6, s7]) ?_ ?_ ks _ f ⟨rfl, [], _, _, _, _, _, _, rfl, rfl⟩
  · rintro k rest ρ g ⟨rfl, done, s2, s3, s4, s5, s6, s7, e, rfl⟩
    have hk : KdOk ks.length W k := h.ok k (by rw [← e]; simp)
    have hn4 := h.n4
    have hdl : done.length < 100000 := by
      have := congrArg List.length e
      rw [List.length_append, List.length_cons] at this
      omega
    refine ⟨_, rfl, ?_⟩
    have lc : lcN (.one 7) cYes (cC d_NOUGHT) [.dat (.tuple (ks.map kindD)), .own (done.map fun k => .tuple (rowN ks.length k)), .dat (kindD k), s3, s4, s5, s6, .emp] (ks.map kindD) [] g = .ok (ks.map fun _ => enc 0) g := by
      refine lc_map (by omega) fun x hx => ⟨_, rfl, ?_⟩
      simp
      rfl
    have e0 : (ks.map fun _ => enc 0) = rowN ks.length [] := by
      rw [List.map_const']
      unfold rowN
      rw [← const_row]
      rfl
    simp
    rw [lc]
    simp [e0, kindD]
    refine ev_forT (I := fun (rest2 : List Tri) ρ f2 => f2 = g ∧ ∃ dn s4 s5 s6, dn ++ rest2 = k ∧ ρ = [.dat (.tuple (ks.map kindD)), .own (done.map fun k => .tuple (rowN ks.length k)), .dat (.tuple (k.map triD)), .own (rowN ks.length dn), s4, s5, s6, s7]) ?_ ?_ k _ g ⟨rfl, [], _, _, _, rfl, rfl⟩
    · rintro t rest2 ρ f2 ⟨rfl, dn, s4, s5, s6, e2, rfl⟩
      have ht : t ∈ k := by rw [← e2]; simp
      have hd : KdOk ks.length W dn := hk.sub (by rw [← e2]; exact List.sublist_append_left _ _)
      have p1 := plus_q (f := f2) (hd.cpS hW (pN t.nx)) (hk.cS hW ht) (by decide)
      have hx := (hk.st t ht).2.2
      refine ⟨_, rfl, ?_⟩
      simp [-Dn.atI_nat, rowN_at hx, p1, rowN_len, hx, rowN_put hx]
      exact ⟨dn ++ [t], by rw [← e2]; simp, rfl⟩
    · rintro ρ f2 ⟨rfl, dn, s4, s5, s6, e2, rfl⟩
      simp at e2
      subst e2
      simp [hdl]
      exact ⟨done ++ [dn], by rw [← e]; simp, by simp⟩
  · rintro ρ g ⟨rfl, done, s2, s3, s4, s5, s6, s7, e, rfl⟩
    simp at e
    subst e
    simp
    rfl
/-- the life of how long a kind lasts -/
def rowS (k : List Tri) : List Rat := (List.range 6).map fun j => cp k (pS (j + 1))
theorem KdOk.plain {n W : Nat} {k : List Tri} (h : KdOk n W k) (hW : W ≤ 2 ^ 31) : Plain ⟨rowS k, 0⟩ := by
  refine ⟨fun x hx => ?_, sz01 (D := 1) (by decide) wh_0 Rat.le_refl (by show (0 : Rat) ≤ 1; decide) (by decide)⟩
  obtain ⟨j, _, rfl⟩ := List.mem_map.mp hx
  exact (h.cpS hW _).up (by decide)
theorem lowest_big {p : Int} {q : Nat} {f : Feed} (hq : 0 < q) (h2 : q < 2 ^ 8500) : F_q_lowest [.dat (.int p), .dat (.int q)] f = .ok (.dat (enc (mkRat p q))) f := by
  have hg : 0 < Nat.gcd p.natAbs q := Nat.gcd_pos_of_pos_right _ hq
  have hl : Nat.gcd p.natAbs q ≤ q := Nat.gcd_le_right _ hq
  have d1 : ∀ c : Int, oDiv (.int c) (.int (Nat.gcd p.natAbs q : Nat)) = some (.dat (.int (c / (Nat.gcd p.natAbs q : Nat)))) := fun c => oDiv_int (by omega) (Nat.lt_trans (log2_small (k := 8500) (by rw [Int.natAbs_natCast]; omega) (by decide)) (by decide))
  rw [← low_eq hq]
  apply ev_is
  rw [u_q_lowest, ev_dEnd]
  unfold S_q_lowest
  simp
  refine ev_while (I := fun n ρ g => g = f ∧ ∃ x y : Nat, n = y ∧ ρ = [.dat (.int p), .dat (.int q), .dat (.int x), .dat (.int y)] ∧ Nat.gcd x y = Nat.gcd p.natAbs q) (n := q) ?_ ⟨rfl, p.natAbs, q, rfl, rfl, rfl⟩
  rintro n ρ g ⟨rfl, x, y, rfl, rfl, e⟩
  simp
  refine ⟨fun h => ?_, fun h => ?_⟩
  · have hy : (0 : Int) < n := by omega
    simp [oMod_int hy]
    exact ⟨x % n, Nat.mod_lt _ (by omega), n, ⟨rfl, by omega⟩, by rw [← e, Nat.gcd_comm x n, Nat.gcd_rec n x]; exact Nat.gcd_comm _ _⟩
  · subst h
    rw [Nat.gcd_zero_right] at e
    subst e
    simp [d1, low]
theorem q_add_q {n : Nat} {x y : Rat} {f : Feed} (hx : Sz n x) (hy : Sz n y) (hn : n ≤ 4000) : F_q_add [.dat (enc x), .dat (enc y)] f = .ok (.dat (enc (x + y))) f := by
  have m1 : oMul (.int x.num) (.int (y.den : Nat)) = some (.dat (.int (x.num * y.den))) := oMul_int (mulC_sz hx.num (by rw [Int.natAbs_natCast]; exact hy.den) hn)
  have m2 : oMul (.int y.num) (.int (x.den : Nat)) = some (.dat (.int (y.num * x.den))) := oMul_int (mulC_sz hy.num (by rw [Int.natAbs_natCast]; exact hx.den) hn)
  have m3 : oMul (.int (x.den : Nat)) (.int (y.den : Nat)) = some (.dat (.int ((x.den * y.den : Nat) : Int))) := by
    rw [oMul_int (mulC_sz (by rw [Int.natAbs_natCast]; exact hx.den) (by rw [Int.natAbs_natCast]; exact hy.den) hn), Int.natCast_mul]
  have b3 := prod_lt hx.den hy.den hn
  have kk : (2 : Nat) ^ 8000 ≤ 2 ^ 8500 := by decide
  have p := lowest_big (f := f) (p := x.num * y.den + y.num * x.den) (Nat.mul_pos x.den_pos y.den_pos) (by omega)
  rw [add_eq] at p
  apply ev_is
  rw [u_q_add, ev_dEnd]
  unfold S_q_add
  rw [Int.natCast_mul] at m3 p
  simp [m1, m2, m3, p]
theorem q_all_d {d0 : PyData} {D B L : Nat} {xs : List Rat} {f : Feed} (hd : seqOf d0 = some (xs.map enc)) (hD : 0 < D) (hB : 0 < B) (hw : ∀ x ∈ xs, Wh D x) (hb : ∀ x ∈ xs, Ab (B : Rat) x) (hL : xs.length ≤ L) (hs : B * (L + 1) * D < 2 ^ 4000) : F_q_all [.dat d0] f = .ok (.dat (enc xs.sum)) f := by
  apply ev_is
  rw [u_q_all, ev_dEnd]
  unfold S_q_all
  simp [hd]
  refine ev_forT (I := fun (rest : List Rat) ρ g => g = f ∧ ∃ (acc : Rat) (k : Nat) (s2 : Slot), ρ = [.dat d0, .dat (enc acc), s2] ∧ acc + rest.sum = xs.sum ∧ Wh D acc ∧ Ab ((B * k : Nat) : Rat) acc ∧ k + rest.length ≤ L ∧ (∀ x ∈ rest, Wh D x ∧ Ab (B : Rat) x)) ?_ ?_ xs _ f ⟨rfl, 0, 0, .emp, rfl, by grind, wh_0, ab_0 Rat.natCast_nonneg, by omega, fun x hx => ⟨hw x hx, hb x hx⟩⟩
  · rintro x rest ρ g ⟨rfl, acc, k, s2, rfl, e, w, a, l, h⟩
    obtain ⟨hx1, hx2⟩ := h x List.mem_cons_self
    rw [List.length_cons] at l
    rw [List.sum_cons] at e
    have hm : ∀ j, j ≤ L → (B * (j + 1)) * D < 2 ^ 4000 := fun j hj => Nat.lt_of_le_of_lt (Nat.mul_le_mul_right D (Nat.mul_le_mul_left B (by omega))) hs
    have s1 : Sz 4000 acc := ab_sz hD w (a.up (Rat.natCast_le_natCast.mpr (Nat.mul_le_mul_left B (Nat.le_succ k)))) (Nat.mul_pos hB (Nat.succ_pos k)) (hm k (by omega))
    have s2 : Sz 4000 x := ab_sz hD hx1 hx2 hB (by have := hm 0 (by omega); rwa [Nat.zero_add, Nat.mul_one] at this)
    have p := q_add_q (f := g) s1 s2 (Nat.le_refl _)
    refine ⟨_, rfl, ?_⟩
    simp [p]
    refine ⟨acc + x, rfl, by grind, w.add hx1, k + 1, ?_, by omega, fun y hy => h y (List.mem_cons_of_mem _ hy)⟩
    have := a.add hx2
    rw [← Rat.natCast_add] at this
    rw [← Rat.natCast_mul, Nat.mul_succ]
    exact this
  · rintro ρ g ⟨rfl, acc, k, s2, rfl, e, w, a, l, h⟩
    simp
    rw [List.sum_nil] at e
    have : acc = xs.sum := by grind
    rw [this]
theorem q_all_gd {K n e b : Nat} {f : Feed} {d0 : PyData} {xs : List Rat} (hd : seqOf d0 = some (xs.map enc)) (h : ∀ x ∈ xs, G K n e x) (K0 : 0 < K) (hK : K ≤ 2 ^ b) (hl : xs.length ≤ 255) (hb : b * n + e + 8 < 4000) : F_q_all [.dat d0] f = .ok (.dat (enc xs.sum)) f :=
  q_all_d (D := K ^ n) (B := 2 ^ e) (L := 255) hd (Nat.pow_pos K0) (Nat.pow_pos (by decide)) (fun x hx => (h x hx).w) (fun x hx => (h x hx).a) hl (by
    rw [show 2 ^ e * (255 + 1) = 2 ^ (e + 8) by rw [Nat.pow_add]]
    exact g_size hK hb)
theorem KdOk.g {n W : Nat} {k : List Tri} (h : KdOk n W k) {t : Tri} (ht : t ∈ k) : G W 1 0 t.c := G.of (h.c t ht).1 (Nat.dvd_refl _) (by have := (h.c t ht).2.1; grind) (h.c t ht).2.2
/-- some triples of a kind, their chances added -/
theorem q_all_cp {n W : Nat} {k : List Tri} {p : Tri → Bool} {f : Feed} (h : KdOk n W k) (hW : W ≤ 2 ^ 31) : F_q_all [.dat (.list ((k.filter p).map fun t => enc t.c))] f = .ok (.dat (enc (cp k p))) f := by
  have e : ((k.filter p).map fun t => enc t.c) = ((k.filter p).map (·.c)).map enc := by rw [List.map_map]; rfl
  rw [e]
  refine q_all_gd (K := W) (n := 1) (e := 0) (b := 31) rfl (fun x hx => ?_) h.W0 hW ?_ (by decide)
  · obtain ⟨t, ht, rfl⟩ := List.mem_map.mp hx
    exact h.g (List.mem_filter.mp ht).1
  · rw [List.length_map]
    have := List.length_filter_le p k
    have := h.len
    omega
end Fp
namespace Fp
open PySem PySem.Spec L2 Dn
/-- a bounded life of weights -/
abbrev bnd (ws : List Nat) (T : Nat) : PyData := .tuple [.tuple (ws.map fun w => low (w : Nat) T), rat 0 1]
def wt (ws : List Nat) (i : Nat) : Nat := ws.getD i 0
end Fp
namespace Fp
open PySem PySem.Spec L2 Dn
theorem nice_tri {n W : Nat} {k : List Tri} (h : KdOk n W k) (hW : W ≤ 2 ^ 31) (hn : n ≤ 4) {t : Tri} (ht : t ∈ k) : Nice 5 2 (triD t) := by
  obtain ⟨h1, h2, h3⟩ := h.st t ht
  have e := nice_enc (h.cS hW ht) (by decide)
  have kk : (6 : Nat) < 10 ^ 560 := by decide
  exact nice_tuple (niceL_cons ((nice_int (i := (t.st : Int)) (by rw [Int.natAbs_natCast]; omega)).up (Nat.le_refl 0) (Nat.zero_le 1)) (niceL_cons ((nice_int (i := (t.nx : Int)) (by rw [Int.natAbs_natCast]; omega)).up (Nat.le_refl 0) (Nat.zero_le 1)) (niceL_cons e niceL_nil)))
theorem nice_kind {n W : Nat} {k : List Tri} (h : KdOk n W k) (hW : W ≤ 2 ^ 31) (hn : n ≤ 4) : Nice 144 3 (kindD k) := by
  have := niceL_of (b := 5) (k := 2) (ds := k.map triD) fun d hd => by
    obtain ⟨t, ht, rfl⟩ := List.mem_map.mp hd
    exact nice_tri h hW hn ht
  rw [List.length_map] at this
  have hl := h.len
  exact nice_tuple (this.up (by omega) (Nat.le_refl 2))
theorem nice_kinds {W : Nat} {ks : List (List Tri)} (h : KsOk W ks) (hW : W ≤ 2 ^ 31) : Nice 580 4 (kindsD ks) := by
  have := niceL_of (b := 144) (k := 3) (ds := ks.map kindD) fun d hd => by
    obtain ⟨t, ht, rfl⟩ := List.mem_map.mp hd
    exact nice_kind (h.ok t ht) hW h.n4
  rw [List.length_map] at this
  have hl := h.n4
  exact nice_tuple (this.up (by omega) (Nat.le_refl 3))
theorem q_rows_q {W : Nat} {ks : List (List Tri)} {f : Feed} (h : KsOk W ks) (hW : W ≤ 2 ^ 31) : F_q_rows_v2 [.dat (kindsD ks)] f = .ok (.dat (rowsD ks)) f := by
  have hn4 := h.n4
  apply ev_is
  rw [u_q_rows_v2, ev_dEnd]
  unfold S_q_rows_v2 kindsD
  simp
  refine ev_forT (I := fun (rest : List (List Tri)) ρ g => g = f ∧ ∃ done s2, done ++ rest = ks ∧ ρ = [.dat (.tuple (ks.map kindD)), .own (done.map fun k => .tuple (rowN ks.length k)), s2, .emp, .emp]) ?_ ?_ ks _ f ⟨rfl, [], _, rfl, rfl⟩
  · rintro k rest ρ g ⟨rfl, done, s2, e, rfl⟩
    have hk : KdOk ks.length W k := h.ok k (by rw [← e]; simp)
    have hkl := hk.len
    have hdl : done.length < 100000 := by
      have := congrArg List.length e
      rw [List.length_append, List.length_cons] at this
      omega
    refine ⟨_, rfl, ?_⟩
    have lc2 : ∀ j : Nat, lcN (.one 4) (cT (cBin oEq (cBin oIx (cVar 4) (cC (.int 1))) (cVar 3))) (cBin oIx (cVar 4) (cC (.int 2))) [.dat (.tuple (ks.map kindD)), .own (done.map fun k => .tuple (rowN ks.length k)), .dat (.tuple (k.map triD)), .dat (.int j), .emp] (k.map triD) [] g = .ok ((k.filter (pN j)).map fun t => enc t.c) g := fun j => by
      refine lc_pure (by omega) fun t ht => ⟨_, rfl, ?_, fun _ => ?_⟩
      · have e0 : decide ((t.nx : Int) = (j : Int)) = pN j t := by
          unfold pN
          rw [decide_eq_decide]
          omega
        unfold triD
        simp [e0]
      · unfold triD
        simp
    have lc : lcN (.one 3) cYes (cCall F_q_all [cLc (iSeq (cVar 2)) (.one 4) (cT (cBin oEq (cBin oIx (cVar 4) (cC (.int 1))) (cVar 3))) (cBin oIx (cVar 4) (cC (.int 2))) [4]]) [.dat (.tuple (ks.map kindD)), .own (done.map fun k => .tuple (rowN ks.length k)), .dat (.tuple (k.map triD)), .emp, .emp] (rangeD 0 ks.length) [] g = .ok (rowN ks.length k) g := by
      rw [range0]
      refine lc_map (by rw [List.length_range]; omega) fun j hj => ⟨_, rfl, ?_⟩
      simp [lc2, q_all_cp hk hW]
    simp [kindD, smallI_ok (n := (ks.length : Int)) (by omega) (by omega)]
    rw [lc]
    simp [hdl]
    exact ⟨done ++ [k], by rw [← e]; simp, by simp⟩
  · rintro ρ g ⟨rfl, done, s2, e, rfl⟩
    simp at e
    subst e
    simp
    rfl
end Fp
namespace Fp
open PySem PySem.Spec L2 Dn
end Fp
namespace Fp
open PySem PySem.Spec L2 Dn
section
variable {p q : Int} {f : Feed} {x y : Rat}
end
end Fp
namespace Fp
open PySem PySem.Spec L2 Dn
def isW : PyData → Bool
  | .int _ => true
  | _ => false
def isr2 : PyData → PyData → Bool
  | .int p, .int q => decide (0 < q ∧ Nat.gcd p.natAbs q.natAbs = 1)
  | _, _ => false
def isr : PyData → Bool
  | .tuple [x, y] => isr2 x y
  | _ => false
theorem is_whole_any {d : PyData} {f : Feed} (hd : okTy d = true) : F_is_whole [.dat d] f = .ok (.dat (.bool (isW d))) f := by
  apply ev_is
  rw [u_is_whole, ev_dEnd]
  unfold S_is_whole
  cases d with
  | dict kvs => simp [isW, hd]
  | _ => simp [isW]
theorem isr2_no {x y : PyData} (h : ¬ (isW x = true ∧ isW y = true)) : isr2 x y = false := by
  cases x <;> cases y <;> simp [isr2, isW] at h ⊢
theorem isW_int {x : PyData} (h : isW x = true) : ∃ i, x = .int i := by
  cases x <;> simp [isW] at h ⊢
theorem two_or (xs : List PyData) : (∃ x y, xs = [x, y]) ∨ (xs.length ≠ 2 ∧ isr (.tuple xs) = false) := by
  match xs with
  | [] => exact .inr ⟨by simp, rfl⟩
  | [x] => exact .inr ⟨by simp, rfl⟩
  | [x, y] => exact .inl ⟨x, y, rfl⟩
  | x :: y :: z :: r => exact .inr ⟨by simp, rfl⟩
theorem is_ratio_any {d : PyData} {f : Feed} {e b k : Nat} (hd : Th e b k d) : F_is_ratio [.dat d] f = .ok (.dat (.bool (isr d))) f := by
  apply ev_is
  rw [u_is_ratio, ev_dEnd]
  unfold S_is_ratio
  cases d with
  | tuple xs =>
    rcases two_or xs with ⟨x, y, rfl⟩ | ⟨h, e⟩
    · obtain ⟨j, _, hL⟩ := hd.tup
      have wx := fun g => is_whole_any (f := g) (hL.mem (d := x) (by simp)).oky
      have wy := fun g => is_whole_any (f := g) (hL.mem (d := y) (by simp)).oky
      by_cases hx : isW x = true
      · by_cases hy : isW y = true
        · obtain ⟨p, rfl⟩ := isW_int hx
          obtain ⟨q, rfl⟩ := isW_int hy
          by_cases hq : 1 ≤ q
          · obtain ⟨n, rfl⟩ := Int.eq_ofNat_of_zero_le (show 0 ≤ q by omega)
            simp [isr, isr2, isW, wx, wy, common_ok, hq]
            rw [decide_eq_true (show 0 < n by omega), Bool.true_and]
            rw [decide_eq_decide]
            omega
          · have hq2 : ¬ 0 < q := by omega
            simp [isr, isr2, isW, wx, wy, hq, hq2]
        · simp [isr, isr2_no, wx, wy, hx, hy]
      · simp [isr, isr2_no, wx, wy, hx]
    · have h2 : ¬ ((xs.length : Int) = 2) := by omega
      simp [h2, e]
  | dict kvs =>
    have hok := hd.oky
    simp [hok, isr]
  | _ => simp [isr]
theorem th_enc {x : Rat} {n : Nat} (h : Sz n x) : Th n (2 * n + 4) 1 (enc x) := by
  have a : Th n (n + 1) 0 (.int x.num) := th_int h.num
  have b : Th n (n + 1) 0 (.int (x.den : Nat)) := th_int (by rw [Int.natAbs_natCast]; exact h.den)
  exact (th_tuple (thL_cons a (thL_one b))).up (Nat.le_refl _) (by omega) (Nat.le_refl _)
def LastT (i : Nat) (d : PyData) : Prop := Th (204 + 4 * i) (2 ^ i * 1200 - 160) (6 + 5 * i) d
theorem LastT.ok {i : Nat} {d : PyData} (h : LastT i d) (hi : i ≤ 3) : Th 1850 16000 60 d := by
  have : 2 ^ i ≤ 2 ^ 3 := Nat.pow_le_pow_right (by decide) hi
  exact Th.up h (by omega) (by omega) (by omega)
end Fp
namespace Fp
open PySem PySem.Spec L2 Dn
def ratC : PyData → Rat
  | .tuple [.int p, .int q] => mkRat p q.toNat
  | _ => 0
theorem isr_enc {c : PyData} (h : isr c = true) : c = enc (ratC c) := by
  unfold isr at h
  split at h
  · rename_i x y
    unfold isr2 at h
    split at h
    · rename_i p q
      rw [decide_eq_true_eq] at h
      obtain ⟨n, rfl⟩ := Int.eq_ofNat_of_zero_le (show 0 ≤ q by omega)
      have n0 : n ≠ 0 := by omega
      have g : p.natAbs.Coprime n := by simpa using h.2
      have e : ratC (.tuple [.int p, .int (n : Nat)]) = ⟨p, n, n0, g⟩ := by
        show mkRat p ((n : Nat) : Int).toNat = _
        rw [Int.toNat_natCast]
        exact Rat.mkRat_self ⟨p, n, n0, g⟩
      rw [e]
      rfl
    · cases h
  · cases h
theorem isr_of (x : Rat) : isr (enc x) = true := by
  show isr2 (.int x.num) (.int (x.den : Nat)) = true
  have h := x.den_pos
  have g := x.reduced
  show decide (0 < ((x.den : Nat) : Int) ∧ Nat.gcd x.num.natAbs ((x.den : Nat) : Int).natAbs = 1) = true
  rw [decide_eq_true_eq]
  exact ⟨by omega, by simpa using g⟩
section
variable {e b k n : Nat} {d : PyData} {f : Feed}
theorem szE_of {x : Rat} (h : Th e b k (enc x)) : Sz e x := by
  obtain ⟨j, _, hL⟩ := h.tup
  have a := (hL.mem (d := .int x.num) (by simp [enc])).t
  have c := (hL.mem (d := .int (x.den : Nat)) (by simp [enc])).t
  simp only [thg, decide_eq_true_eq, Int.natAbs_natCast] at a c
  exact ⟨a, c⟩
theorem is_place_any {i : Int} : F_is_place [.dat (.int i), .dat (.int n)] f = .ok (.dat (.bool (decide (0 ≤ i ∧ i < n)))) f := by
  have w := fun g => is_whole_any (d := .int i) (f := g) rfl
  apply ev_is
  rw [u_is_place, ev_dEnd]
  unfold S_is_place
  have e1 : isW (.int i) = true := rfl
  rw [e1] at w
  by_cases h : 0 ≤ i
  · simp [w, h]
  · simp [w, h]
theorem is_place_no (hd : okTy d = true) (h : isW d = false) : F_is_place [.dat d, .dat (.int n)] f = .ok (.dat (.bool false)) f := by
  have w := fun g => is_whole_any (d := d) (f := g) hd
  rw [h] at w
  apply ev_is
  rw [u_is_place, ev_dEnd]
  unfold S_is_place
  simp [w]
end
end Fp
namespace Fp
open PySem PySem.Spec L2 Dn
def plB (n : Nat) : PyData → Bool
  | .int i => decide (0 ≤ i ∧ i < n)
  | _ => false
def prB (n : Nat) : PyData → Bool
  | .tuple [a, b] => plB n a && plB n b
  | _ => false
def wsB (n : Nat) : PyData → Bool
  | .tuple xs => decide (xs.length = n) && xs.all isr
  | _ => false
def ypB (n : Nat) : PyData → Bool
  | .tuple ys => decide (ys.length ≤ 3) && ys.all (prB n)
  | _ => false
def shB (n : Nat) : PyData → Bool
  | .tuple [.str w, h, x, y] => decide (w = Str.ofString "share") && (plB n h && (wsB n x && ypB n y))
  | _ => false
def risD : List PyData → Bool
  | [] => true
  | x :: r => match x, r with
    | .int _, [] => true
    | .int a, .int b :: _ => decide (a < b) && risD r
    | _, _ => false
def riB (n : Nat) : PyData → Bool
  | .tuple xs => !xs.isEmpty && (xs.all (plB n) && risD xs)
  | _ => false
def apB (n : Nat) : PyData → Bool
  | .tuple [.str w, a, b] => decide (w = Str.ofString "apart") && (riB n a && riB n b)
  | _ => false
def nmB (w : Str) (n : Nat) : PyData → Bool
  | .tuple (.str s :: xs) => decide (xs.length + 1 = n) && decide (s = w)
  | _ => false
theorem plB_isW {n : Nat} {d : PyData} (h : isW d = false) : plB n d = false := by
  cases d <;> first | rfl | simp [isW] at h
theorem all_map6 {τ : Type} (l : List τ) (p : τ → Bool) : oAll (.list (l.map fun x => PyData.bool (p x))) = some (.dat (.bool (l.all p))) := by
  have := oAll_bools (ns := l.map p)
  rw [List.map_map] at this
  refine this.trans ?_
  simp [List.all_map]
section
variable {e b k n : Nat} {d : PyData} {f : Feed}
theorem is_place_D (hd : Th e b k d) : F_is_place [.dat d, .dat (.int n)] f = .ok (.dat (.bool (plB n d))) f := by
  by_cases h : isW d = true
  · obtain ⟨i, rfl⟩ := isW_int h
    rw [is_place_any]
    rfl
  · rw [Bool.not_eq_true] at h
    rw [is_place_no hd.oky h, plB_isW h]
theorem is_named_any (hd : Th e b k d) {w : Str} {n : Nat} (hn : 1 ≤ n) : F_is_named [.dat d, .dat (.str w), .dat (.int n)] f = .ok (.dat (.bool (nmB w n d))) f := by
  apply ev_is
  rw [u_is_named, ev_dEnd]
  unfold S_is_named
  cases d with
  | tuple xs =>
    obtain ⟨kk, _, hL⟩ := hd.tup
    cases xs with
    | nil =>
      have z : ¬ (0 : Int) = n := by omega
      simp [nmB, z]
    | cons x r =>
      by_cases c : r.length + 1 = n
      · have ci : (r.length : Int) + 1 = n := by omega
        cases x with
        | str s => simp [nmB, ci, c]
        | dict kvs =>
          have := (hL.mem (d := .dict kvs) (by simp)).oky
          simp [nmB, ci, this]
        | _ => simp [nmB, ci]
      · have ci : ¬ (r.length : Int) + 1 = n := by omega
        cases x <;> simp [nmB, ci, c]
  | dict kvs =>
    have := hd.oky
    simp [nmB, this]
  | _ => simp [nmB]
theorem is_pair_any (hd : Th e b k d) : F_is_pair_of_kinds [.dat d, .dat (.int n)] f = .ok (.dat (.bool (prB n d))) f := by
  apply ev_is
  rw [u_is_pair_of_kinds, ev_dEnd]
  unfold S_is_pair_of_kinds
  cases d with
  | tuple xs =>
    obtain ⟨kk, _, hL⟩ := hd.tup
    by_cases c : xs.length = 2
    · match xs, c with
      | [x, y], _ =>
        have lc : lcN (.one 2) cYes (cCall F_is_place [cVar 2, cVar 1]) [.dat (.tuple [x, y]), .dat (.int n), .emp] [x, y] [] f = .ok ([x, y].map fun t => .bool (plB n t)) f := by
          have := lc_map (T := .one 2) (e := cCall F_is_place [cVar 2, cVar 1]) (ρ := [.dat (.tuple [x, y]), .dat (.int n), .emp]) (f := f) (xs := [x, y]) (enc := id) (g := fun t => .bool (plB n t)) (by simp) fun t ht => ⟨_, rfl, by
            have q := is_place_D (n := n) (f := f) (hL.mem ht)
            simp [q]⟩
          rwa [List.map_id] at this
        have al := all_map6 [x, y] (plB n)
        have e1 : prB n (.tuple [x, y]) = [x, y].all (plB n) := by simp [prB]
        rw [e1]
        generalize [x, y].map (fun t => PyData.bool (plB n t)) = bs at lc al
        simp [lc, al]
    · have c2 : ¬ (xs.length : Int) = 2 := by omega
      have e1 : prB n (.tuple xs) = false := by
        unfold prB
        split
        · rename_i a b e
          injection e with e
          rw [e] at c
          exact absurd rfl c
        · rfl
      simp [e1, c2]
  | dict kvs =>
    have := hd.oky
    simp [prB, this]
  | _ => simp [prB]
theorem is_share_any (hd : Th e b k d) (hb : b ≤ 90000) : F_is_share_shape [.dat d, .dat (.int n)] f = .ok (.dat (.bool (shB n d))) f := by
  have nm := is_named_any (f := f) hd (w := Str.ofString "share") (n := 4) (by decide)
  simp at nm
  apply ev_is
  rw [u_is_share_shape, ev_dEnd]
  unfold S_is_share_shape
  cases c : nmB (Str.ofString "share") 4 d with
  | false =>
    have e1 : shB n d = false := by
      unfold shB
      split
      · rename_i w h x y
        have : (decide (3 + 1 = 4) && decide (w = Str.ofString "share")) = false := c
        simp at this
        rw [decide_eq_false this, Bool.false_and]
      · rfl
    rw [c] at nm
    simp [nm, e1]
  | true =>
    rw [c] at nm
    obtain ⟨h, x, y, rfl⟩ : ∃ h x y, d = .tuple [.str (Str.ofString "share"), h, x, y] := by
      unfold nmB at c
      split at c
      · rename_i s xs
        rw [Bool.and_eq_true, decide_eq_true_eq, decide_eq_true_eq] at c
        obtain ⟨c1, rfl⟩ := c
        match xs, c1 with
        | [h, x, y], _ => exact ⟨h, x, y, rfl⟩
      · cases c
    obtain ⟨kk, _, hL⟩ := hd.tup
    have hh := hL.mem (d := h) (by simp)
    have hx := hL.mem (d := x) (by simp)
    have hy := hL.mem (d := y) (by simp)
    have pl := is_place_D (n := n) (f := f) hh
    have ix1 : oIx (.tuple [.str (Str.ofString "share"), h, x, y]) (.int 1) = some (.dat h) := rfl
    have sl : oSl (some 2) none (.tuple [.str (Str.ofString "share"), h, x, y]) = some (.dat (.tuple [x, y])) := rfl
    have es : shB n (.tuple [.str (Str.ofString "share"), h, x, y]) = (plB n h && (wsB n x && ypB n y)) := by
      show (decide (Str.ofString "share" = Str.ofString "share") && _) = _
      rw [decide_eq_true rfl]
      rfl
    rw [es]
    have pd : Tgt.put (.many [2, 3]) (.tuple [x, y]) [.dat (.tuple [.str (Str.ofString "share"), h, x, y]), .dat (.int n), .emp, .emp, .emp] = some [.dat (.tuple [.str (Str.ofString "share"), h, x, y]), .dat (.int n), .dat x, .dat y, .emp] := rfl
    generalize PyData.tuple [.str (Str.ofString "share"), h, x, y] = dd at *
    cases hp : plB n h with
    | false =>
      rw [hp] at pl
      simp [nm, ix1, pl]
    | true =>
      rw [hp] at pl
      refine ev_step (fun ρ g => g = f ∧ ρ = [.dat dd, .dat (.int n), .emp, .emp, .emp]) (by simp [nm, ix1, pl]) ?_
      rintro _ f ⟨rfl, rfl⟩
      refine ev_step (fun ρ g => g = f ∧ ρ = [.dat dd, .dat (.int n), .dat x, .dat y, .emp]) (by simp [sl, pd]) ?_
      rintro _ f ⟨rfl, rfl⟩
      have xw : wsB n x = true ∨ wsB n x = false := by cases wsB n x <;> simp
      have part1 : Ev (tOrX (tNotX (cT (cUn (oIsi "tuple") (cVar 2)))) (tOrX (cT (cBin oNe (cUn oLen (cVar 2)) (cVar 1))) (tNotX (cT (cUn oAll (cLc (iSeq (cVar 2)) (.one 4) (cYes) (cCall F_is_ratio [cVar 4]) [4]))))) [.dat dd, .dat (.int n), .dat x, .dat y, .emp] f) fun b g => g = f ∧ b = !wsB n x := by
        cases x with
        | tuple xs =>
          obtain ⟨kk, _, hLx⟩ := hx.tup
          have hl := hLx.len
          by_cases c : xs.length = n
          · have ci : (xs.length : Int) = n := by omega
            have lc : lcN (.one 4) cYes (cCall F_is_ratio [cVar 4]) [.dat dd, .dat (.int n), .dat (.tuple xs), .dat y, .emp] xs [] f = .ok (xs.map fun t => .bool (isr t)) f := by
              have := lc_map (T := .one 4) (e := cCall F_is_ratio [cVar 4]) (ρ := [.dat dd, .dat (.int n), .dat (.tuple xs), .dat y, .emp]) (f := f) (xs := xs) (enc := id) (g := fun t => .bool (isr t)) (by omega) fun t ht => ⟨_, rfl, by
                have q := is_ratio_any (f := f) (hLx.mem ht)
                simp [q]⟩
              rwa [List.map_id] at this
            have al := all_map6 xs isr
            have e1 : wsB n (.tuple xs) = xs.all isr := by
              show (decide (xs.length = n) && xs.all isr) = _
              rw [decide_eq_true c, Bool.true_and]
            rw [e1]
            generalize xs.map (fun t => PyData.bool (isr t)) = bs at lc al
            simp [ci, lc, al]
          · have ci : ¬ (xs.length : Int) = n := by omega
            have e1 : wsB n (.tuple xs) = false := by
              show (decide (xs.length = n) && xs.all isr) = _
              rw [decide_eq_false c, Bool.false_and]
            simp [ci, e1]
        | dict kvs =>
          have := hx.oky
          simp [wsB, this]
        | _ => simp [wsB]
      cases hw : wsB n x with
      | false =>
        rw [hw] at part1
        rw [e_seq, ev_bind, e_if, ev_bind]
        refine Ev.mono part1 ?_
        rintro _ _ ⟨rfl, rfl⟩
        simp
      | true =>
        rw [hw] at part1
        refine ev_step (fun ρ g => g = f ∧ ρ = [.dat dd, .dat (.int n), .dat x, .dat y, .emp]) ?_ ?_
        · rw [e_if, ev_bind]
          refine Ev.mono part1 ?_
          rintro _ _ ⟨rfl, rfl⟩
          simp
        rintro _ f ⟨rfl, rfl⟩
        have m3 : (d_MOST_WAYS_v2 : PyData) = .int 3 := rfl
        cases y with
        | tuple ys =>
          obtain ⟨kk, _, hLy⟩ := hy.tup
          have hl := hLy.len
          by_cases c : ys.length ≤ 3
          · have ci : ¬ (3 : Int) < ys.length := by omega
            have lc : lcN (.one 4) cYes (cCall F_is_pair_of_kinds [cVar 4, cVar 1]) [.dat dd, .dat (.int n), .dat x, .dat (.tuple ys), .emp] ys [] f = .ok (ys.map fun t => .bool (prB n t)) f := by
              have := lc_map (T := .one 4) (e := cCall F_is_pair_of_kinds [cVar 4, cVar 1]) (ρ := [.dat dd, .dat (.int n), .dat x, .dat (.tuple ys), .emp]) (f := f) (xs := ys) (enc := id) (g := fun t => .bool (prB n t)) (by omega) fun t ht => ⟨_, rfl, by
                have q := is_pair_any (n := n) (f := f) (hLy.mem ht)
                simp [q]⟩
              rwa [List.map_id] at this
            have al := all_map6 ys (prB n)
            have e1 : ypB n (.tuple ys) = ys.all (prB n) := by
              show (decide (ys.length ≤ 3) && ys.all (prB n)) = _
              rw [decide_eq_true c, Bool.true_and]
            rw [e1]
            generalize ys.map (fun t => PyData.bool (prB n t)) = bs at lc al
            simp [m3, ci, lc, al]
          · have ci : (3 : Int) < ys.length := by omega
            have e1 : ypB n (.tuple ys) = false := by
              show (decide (ys.length ≤ 3) && ys.all (prB n)) = _
              rw [decide_eq_false c, Bool.false_and]
            simp [m3, ci, e1]
        | dict kvs =>
          have := hy.oky
          simp [ypB, this]
        | _ => simp [ypB]
end
end Fp
namespace Fp
open PySem PySem.Spec L2 Dn
def risI : List Int → Bool
  | [] => true
  | [_] => true
  | a :: b :: r => decide (a < b) && risI (b :: r)
theorem risD_ints : ∀ I : List Int, risD (I.map .int) = risI I
  | [] => rfl
  | [_] => rfl
  | a :: b :: r => by
    show (decide (a < b) && risD ((b :: r).map .int)) = (decide (a < b) && risI (b :: r))
    rw [risD_ints (b :: r)]
theorem risI_range : ∀ I : List Int, risI I = (List.range (I.length - 1)).all fun k => decide (I.getD k 0 < I.getD (k + 1) 0)
  | [] => rfl
  | [_] => rfl
  | a :: b :: r => by
    have ih := risI_range (b :: r)
    show (decide (a < b) && risI (b :: r)) = _
    rw [ih]
    show _ = (List.range (r.length + 1)).all _
    rw [List.range_succ_eq_map, List.all_cons, List.all_map]
    rfl
theorem risI_pw : ∀ {I : List Int}, risI I = true ↔ I.Pairwise (· < ·)
  | [] => by simp [risI]
  | [a] => by simp [risI]
  | a :: b :: r => by
    rw [risI, Bool.and_eq_true, decide_eq_true_eq, risI_pw (I := b :: r)]
    constructor
    · rintro ⟨h1, h2⟩
      refine List.pairwise_cons.mpr ⟨fun x hx => ?_, h2⟩
      rcases List.mem_cons.mp hx with rfl | hx
      · exact h1
      · have := (List.pairwise_cons.mp h2).1 x hx
        omega
    · intro h
      obtain ⟨h1, h2⟩ := List.pairwise_cons.mp h
      exact ⟨h1 b List.mem_cons_self, h2⟩
theorem places_are {n : Nat} {xs : List PyData} (h : xs.all (plB n) = true) : ∃ A : List Nat, xs = A.map (fun (a : Nat) => PyData.int a) ∧ ∀ a ∈ A, a < n := by
  have : ∀ xs : List PyData, (∀ x ∈ xs, plB n x = true) → ∃ A : List Nat, xs = A.map (fun (a : Nat) => PyData.int a) ∧ ∀ a ∈ A, a < n := by
    intro xs
    induction xs with
    | nil => exact fun _ => ⟨[], rfl, fun a ha => absurd ha List.not_mem_nil⟩
    | cons x xs ih =>
      intro h
      obtain ⟨A, rfl, hA⟩ := ih fun y hy => h y (List.mem_cons_of_mem _ hy)
      have hx := h x List.mem_cons_self
      unfold plB at hx
      split at hx
      · rename_i i
        rw [decide_eq_true_eq] at hx
        obtain ⟨a, rfl⟩ := Int.eq_ofNat_of_zero_le hx.1
        refine ⟨a :: A, rfl, fun b hb => ?_⟩
        rcases List.mem_cons.mp hb with rfl | hb
        · omega
        · exact hA b hb
      · cases hx
  exact this xs (List.all_eq_true.mp h)
section
variable {e b k n : Nat} {d : PyData} {f : Feed}
theorem eqv_nilT6 {xs : List PyData} : PyData.eqv (.tuple xs) (.tuple []) = xs.isEmpty := by
  cases xs with
  | nil => rfl
  | cons x r => simp [PyData.eqv, PyData.eqvAll]
theorem is_rising_any (hd : Tc e b k d) (hb : b ≤ 90000) (hk : k ≤ 60) : F_is_rising_kinds [.dat d, .dat (.int n)] f = .ok (.dat (.bool (riB n d))) f := by
  apply ev_is
  rw [u_is_rising_kinds, ev_dEnd]
  unfold S_is_rising_kinds
  cases d with
  | tuple xs =>
    obtain ⟨kk, _, hL⟩ := hd.th.tup
    have hl := hL.len
    have eq := oEq_of (hd.shaped (by omega)) (show SeqAt.shaped (.tuple []) = true from rfl)
    rw [eqv_nilT6] at eq
    have lc : lcN (.one 3) cYes (cCall F_is_place [cVar 3, cVar 1]) [.dat (.tuple xs), .dat (.int n), .emp, .emp] xs [] f = .ok (xs.map fun t => .bool (plB n t)) f := by
      have := lc_map (T := .one 3) (e := cCall F_is_place [cVar 3, cVar 1]) (ρ := [.dat (.tuple xs), .dat (.int n), .emp, .emp]) (f := f) (xs := xs) (enc := id) (g := fun t => .bool (plB n t)) (by omega) fun t ht => ⟨_, rfl, by
        have q := is_place_D (n := n) (f := f) (hL.mem ht)
        simp [q]⟩
      rwa [List.map_id] at this
    have al := all_map6 xs (plB n)
    have er : riB n (.tuple xs) = (!xs.isEmpty && (xs.all (plB n) && risD xs)) := rfl
    rw [er]
    cases c1 : xs.isEmpty with
    | true =>
      rw [c1] at eq
      simp [eq]
    | false =>
      rw [c1] at eq
      cases c2 : xs.all (plB n) with
      | false =>
        rw [c2] at al
        generalize xs.map (fun t => PyData.bool (plB n t)) = bs at lc al
        simp [eq, lc, al]
      | true =>
        rw [c2] at al
        generalize xs.map (fun t => PyData.bool (plB n t)) = bs at lc al
        obtain ⟨A, rfl, hA⟩ := places_are c2
        have em : A.map (fun (a : Nat) => PyData.int a) = (A.map fun (a : Nat) => (a : Int)).map .int := by rw [List.map_map]; rfl
        have hlA : A.length ≤ 90000 := by
          rw [List.length_map] at hl
          omega
        have lc2 : ∀ s3 : Slot, lcN (.one 2) cYes (cBin oLt (cBin oIx (cVar 0) (cVar 2)) (cBin oIx (cVar 0) (cBin oAdd (cVar 2) (cC (.int 1))))) [.dat (.tuple (A.map fun (a : Nat) => PyData.int a)), .dat (.int n), .emp, s3] (rangeD 0 (A.length - 1)) [] f = .ok ((List.range (A.length - 1)).map fun k => PyData.bool (decide ((A.map fun (a : Nat) => (a : Int)).getD k 0 < (A.map fun (a : Nat) => (a : Int)).getD (k + 1) 0))) f := fun s3 => by
          unfold rangeD
          refine lc_map (by rw [List.length_range]; omega) fun i hi => ⟨_, rfl, ?_⟩
          rw [List.mem_range] at hi
          have a1 : atI (A.map fun (a : Nat) => PyData.int a) ((i : Nat) : Int) = some (.int ((A.map fun (a : Nat) => (a : Int)).getD i 0)) := by
            rw [Dn.atI_nat, List.getElem?_map, List.getElem?_eq_getElem (by omega : i < A.length), List.getD_eq_getElem?_getD, List.getElem?_map, List.getElem?_eq_getElem (by omega : i < A.length)]
            rfl
          have a2 : atI (A.map fun (a : Nat) => PyData.int a) (((i : Nat) : Int) + 1) = some (.int ((A.map fun (a : Nat) => (a : Int)).getD (i + 1) 0)) := by
            rw [show ((i : Nat) : Int) + 1 = ((i + 1 : Nat) : Int) by omega, Dn.atI_nat, List.getElem?_map, List.getElem?_eq_getElem (by omega : i + 1 < A.length), List.getD_eq_getElem?_getD, List.getElem?_map, List.getElem?_eq_getElem (by omega : i + 1 < A.length)]
            rfl
          generalize (A.map fun (a : Nat) => (a : Int)).getD i 0 = p1 at *
          generalize (A.map fun (a : Nat) => (a : Int)).getD (i + 1) 0 = p2 at *
          simp [-Dn.atI_nat, a1, a2]
        have al2 := all_map6 (List.range (A.length - 1)) fun k => decide ((A.map fun (a : Nat) => (a : Int)).getD k 0 < (A.map fun (a : Nat) => (a : Int)).getD (k + 1) 0)
        have rr := risI_range (A.map fun (a : Nat) => (a : Int))
        rw [List.length_map] at rr
        rw [← rr] at al2
        have er2 : risD (A.map fun (a : Nat) => PyData.int a) = risI (A.map fun (a : Nat) => (a : Int)) := by rw [em, risD_ints]
        rw [er2]
        generalize (List.range (A.length - 1)).map (fun k => PyData.bool (decide ((A.map fun (a : Nat) => (a : Int)).getD k 0 < (A.map fun (a : Nat) => (a : Int)).getD (k + 1) 0))) = bs2 at *
        have ln : ((A.length : Nat) : Int) - 1 = ((A.length - 1 : Nat) : Int) := by
          have : A ≠ [] := fun q => by
            rw [q] at c1
            cases c1
          have := List.length_pos_iff.mpr this
          omega
        have sm : smallI ((A.length - 1 : Nat) : Int) = true := smallI_ok (by omega) (by omega)
        have tn : (((A.length - 1 : Nat) : Int)).toNat = A.length - 1 := by omega
        have ls : (A.map fun (a : Nat) => PyData.int a).length = A.length := List.length_map _
        generalize (A.map fun (a : Nat) => PyData.int a) = xs at *
        generalize A.length - 1 = m at *
        simp [eq, lc, al, ls, ln, sm, tn, lc2, al2]
  | dict kvs =>
    have := hd.c
    simp [PyData.canLay0] at this
  | _ => simp [riB]
theorem is_apart_any (hd : Tc e b k d) (hb : b ≤ 90000) (hk : k ≤ 60) : F_is_apart_shape [.dat d, .dat (.int n)] f = .ok (.dat (.bool (apB n d))) f := by
  have nm := is_named_any (f := f) hd.th (w := Str.ofString "apart") (n := 3) (by decide)
  simp at nm
  apply ev_is
  rw [u_is_apart_shape, ev_dEnd]
  unfold S_is_apart_shape
  cases c : nmB (Str.ofString "apart") 3 d with
  | false =>
    have e1 : apB n d = false := by
      unfold apB
      split
      · rename_i w x y
        have : (decide (2 + 1 = 3) && decide (w = Str.ofString "apart")) = false := c
        simp at this
        rw [decide_eq_false this, Bool.false_and]
      · rfl
    rw [c] at nm
    simp [nm, e1]
  | true =>
    rw [c] at nm
    obtain ⟨x, y, rfl⟩ : ∃ x y, d = .tuple [.str (Str.ofString "apart"), x, y] := by
      unfold nmB at c
      split at c
      · rename_i s xs
        rw [Bool.and_eq_true, decide_eq_true_eq, decide_eq_true_eq] at c
        obtain ⟨c1, rfl⟩ := c
        match xs, c1 with
        | [x, y], _ => exact ⟨x, y, rfl⟩
      · cases c
    obtain ⟨kk, hkk, hL⟩ := hd.th.tup
    have hcL := can_tup hd.c
    have hT : ∀ t ∈ [x, y], Tc e b kk t := fun t ht => ⟨hL.mem (List.mem_cons_of_mem _ ht), hcL t (List.mem_cons_of_mem _ ht)⟩
    have sl : oSl (some 1) none (.tuple [.str (Str.ofString "apart"), x, y]) = some (.dat (.tuple [x, y])) := rfl
    have es : apB n (.tuple [.str (Str.ofString "apart"), x, y]) = [x, y].all (riB n) := by
      show (decide (Str.ofString "apart" = Str.ofString "apart") && (riB n x && riB n y)) = _
      rw [decide_eq_true rfl]
      simp
    rw [es]
    generalize PyData.tuple [.str (Str.ofString "apart"), x, y] = dd at *
    have lc : lcN (.one 2) cYes (cCall F_is_rising_kinds [cVar 2, cVar 1]) [.dat dd, .dat (.int n), .emp] [x, y] [] f = .ok ([x, y].map fun t => .bool (riB n t)) f := by
      have := lc_map (T := .one 2) (e := cCall F_is_rising_kinds [cVar 2, cVar 1]) (ρ := [.dat dd, .dat (.int n), .emp]) (f := f) (xs := [x, y]) (enc := id) (g := fun t => .bool (riB n t)) (by simp) fun t ht => ⟨_, rfl, by
        have q := is_rising_any (n := n) (f := f) (hT t ht) hb (by omega)
        simp [q]⟩
      rwa [List.map_id] at this
    have al := all_map6 [x, y] (riB n)
    generalize [x, y].map (fun t => PyData.bool (riB n t)) = bs at lc al
    simp [nm, sl, lc, al]
end
end Fp
namespace Fp
open PySem PySem.Spec L2 Dn
section
variable {e b k n : Nat} {d : PyData} {f : Feed}
end
end Fp
namespace Fp
open PySem PySem.Spec L2 Dn
section
variable {e b k n : Nat} {d : PyData} {f : Feed}
theorem whole5 (hd : okTy d = true) : F_q_whole [.dat d] f = .ok (.dat (.bool (isW d))) f := by
  apply ev_is
  rw [u_q_whole, ev_dEnd]
  unfold S_q_whole
  cases d with
  | dict kvs => simp [isW, hd]
  | _ => simp [isW]
theorem q_is_ratio_v3_any (hd : Th e b k d) (he : e ≤ 8000) : F_q_is_ratio_v3 [.dat d] f = .ok (.dat (.bool (isr d))) f := by
  apply ev_is
  rw [u_q_is_ratio_v3, ev_dEnd]
  unfold S_q_is_ratio_v3
  cases d with
  | tuple xs =>
    rcases two_or xs with ⟨x, y, rfl⟩ | ⟨h, e⟩
    · obtain ⟨j, _, hL⟩ := hd.tup
      have wx := fun g => whole5 (f := g) (hL.mem (d := x) (by simp)).oky
      have wy := fun g => whole5 (f := g) (hL.mem (d := y) (by simp)).oky
      by_cases hx : isW x = true
      · by_cases hy : isW y = true
        · obtain ⟨p, rfl⟩ := isW_int hx
          obtain ⟨q, rfl⟩ := isW_int hy
          by_cases hq : 0 < q
          · obtain ⟨n, rfl⟩ := Int.eq_ofNat_of_zero_le (show 0 ≤ q by omega)
            have hn : 0 < n := by omega
            obtain ⟨j, _, hL⟩ := hd.tup
            have b1 := (hL.mem (d := .int (n : Nat)) (by simp)).t
            simp only [thg, decide_eq_true_eq, Int.natAbs_natCast] at b1
            have b2 : n < 2 ^ 8500 := Nat.lt_of_lt_of_le b1 (Nat.pow_le_pow_right (by decide) (by omega))
            have lw : ∀ g, F_q_lowest [.dat (.int p), .dat (.int (n : Nat))] g = .ok (.dat (low p n)) g := fun g => by rw [lowest_big hn b2, low_eq hn]
            have hg : 0 < Nat.gcd p.natAbs n := Nat.gcd_pos_of_pos_right _ hn
            have e1 : oEq (low p n) (.tuple [.int p, .int (n : Nat)]) = some (.dat (.bool (decide (Nat.gcd p.natAbs n = 1)))) := by
              have := eq_rat (p := p / (Nat.gcd p.natAbs n : Nat)) (q := n / Nat.gcd p.natAbs n) (r := p) (s := n)
              rw [show low p n = rat (p / (Nat.gcd p.natAbs n : Nat)) (n / Nat.gcd p.natAbs n) from rfl, show PyData.tuple [.int p, .int (n : Nat)] = rat p n from rfl, this]
              congr 3
              rw [Bool.eq_iff_iff]
              simp only [Bool.and_eq_true, decide_eq_true_eq]
              constructor
              · rintro ⟨_, h⟩
                exact Nat.le_antisymm (Nat.le_of_not_lt fun h1 => absurd h (Nat.ne_of_lt (Nat.div_lt_self hn h1))) hg
              · intro h
                rw [h]
                simp
            simp [isr, isr2, isW, wx, wy, lw, hq, hn, e1]
          · simp [isr, isr2, isW, wx, wy, hq]
        · simp [isr, isr2_no, wx, wy, hx, hy]
      · simp [isr, isr2_no, wx, wy, hx]
    · have h2 : ¬ ((xs.length : Int) = 2) := by omega
      simp [h2, e]
  | dict kvs =>
    have hok := hd.oky
    simp [hok, isr]
  | _ => simp [isr]
end
end Fp
namespace Fp
open PySem PySem.Spec L2 Dn
theorem false_in {τ : Type} (l : List τ) (p : τ → Bool) : oInF false (.bool false) (.list (l.map fun x => PyData.bool (p x))) = some (.dat (.bool (!l.all p))) := by
  have e : ∀ b : Bool, (PyData.eqv (.bool b) (.bool false)) = !b := fun b => by cases b <;> rfl
  have h1 : (l.map fun x => PyData.bool (p x)).all flatD = true := by
    rw [List.all_map]
    exact List.all_eq_true.mpr fun _ _ => rfl
  have h2 : ((l.map fun x => PyData.bool (p x)).any fun y => PyData.eqv y (.bool false)) = !l.all p := by
    rw [List.any_map]
    have : (fun x => PyData.eqv (PyData.bool (p x)) (.bool false)) = fun x => !p x := funext fun x => e (p x)
    show l.any (fun x => PyData.eqv (PyData.bool (p x)) (.bool false)) = _
    rw [this, List.not_all_eq_any_not]
  show (if flatD (.bool false) && (l.map fun x => PyData.bool (p x)).all flatD then _ else none) = _
  rw [h1, h2]
  simp [flatD]
theorem ne_intL {a b : List Int} : oNe (.list (a.map .int)) (.list (b.map .int)) = some (.dat (.bool (!decide (a = b)))) := by
  rw [oNe_of shaped_list_ints shaped_list_ints]
  show some (RV.dat (PyData.bool (!PyData.eqvAll (a.map .int) (b.map .int)))) = _
  rw [eqv_ints]
section
variable {e b k n : Nat} {d : PyData} {f : Feed}
theorem q_place_D (hd : Th e b k d) : F_q_place [.dat d, .dat (.int n)] f = .ok (.dat (.bool (plB n d))) f := by
  have w := fun g => whole5 (f := g) hd.oky
  apply ev_is
  rw [u_q_place, ev_dEnd]
  unfold S_q_place
  by_cases h : isW d = true
  · rw [h] at w
    obtain ⟨i, rfl⟩ := isW_int h
    by_cases h0 : 0 ≤ i
    · simp [w, h0, plB]
    · simp [w, h0, plB]
  · rw [Bool.not_eq_true] at h
    rw [h] at w
    simp [w, plB_isW h]
def plsB (n : Nat) : PyData → Bool
  | .tuple xs => !xs.isEmpty && xs.all (plB n)
  | _ => false
theorem riB_pls (h : plsB n d = false) : riB n d = false := by
  unfold plsB at h
  unfold riB
  split
  · rename_i xs
    have h : (!xs.isEmpty && xs.all (plB n)) = false := h
    rw [← Bool.and_assoc, h, Bool.false_and]
  · rfl
theorem pls_is (h : plsB n d = true) : ∃ A : List Nat, d = .tuple (A.map fun (a : Nat) => PyData.int a) ∧ A ≠ [] ∧ (∀ a ∈ A, a < n) ∧ riB n d = risI (A.map fun (a : Nat) => (a : Int)) := by
  unfold plsB at h
  split at h
  · rename_i xs
    rw [Bool.and_eq_true] at h
    obtain ⟨A, rfl, hA⟩ := places_are h.2
    refine ⟨A, rfl, fun q => ?_, hA, ?_⟩
    · rw [q] at h
      simp at h
    · show (!_ && (_ && risD _)) = _
      rw [h.1, h.2, Bool.true_and, Bool.true_and]
      have em : A.map (fun (a : Nat) => PyData.int a) = (A.map fun (a : Nat) => (a : Int)).map .int := by rw [List.map_map]; rfl
      rw [em, risD_ints]
  · cases h
theorem ddi_few {A : List Nat} (hn : n ≤ 4) (hA : ∀ a ∈ A, a < n) : (ddi (A.map fun (a : Nat) => (a : Int))).length < 64 := by
  have := len_sub (m := [0, 1, 2, 3]) (ddi_nodup (A.map fun (a : Nat) => (a : Int))) fun k hk => by
    obtain ⟨a, ha, rfl⟩ := List.mem_map.mp (ddi_mem.mp hk)
    have := hA a ha
    match a, (show a < 4 by omega) with
    | 0, _ | 1, _ | 2, _ | 3, _ => simp
  exact Nat.lt_of_le_of_lt this (by decide)
theorem rise_iff {I : List Int} : (I = riseI I) ↔ risI I = true := by
  rw [risI_pw]
  constructor
  · intro h
    rw [h]
    exact riseI_pw I
  · intro h
    exact rise_uniq h (riseI_pw I) fun k => riseI_mem.symm
theorem some_body {dd : PyData} {s2 s4 : Slot} {P : Ctl → Feed → Prop} (hd : Tc e b k d) (hb : b ≤ 4000) (hk : k ≤ 60) (hn : n ≤ 4) (h1 : riB n d = false → P (.rt (.dat (.bool false))) f) (h2 : riB n d = true → P (.nx [.dat dd, .dat (.int n), s2, .dat d, s4]) f) :
    Ev (sSeq (sIf (tOrX (tNotX (cT (cUn (oIsi "tuple") (cVar 3)))) (tOrX (cT (cBin oEq (cVar 3) (cTup []))) (cT (cBin (oInF false) (cC (.bool false)) (cLc (iSeq (cVar 3)) (.one 4) (cYes) (cCall F_q_place [cVar 4, cVar 1]) [4]))))) (sRet (cC (.bool false))) (sNext)) (sIf (cT (cBin oNe (cUn oList (cVar 3)) (cUn oSortSetI (cVar 3)))) (sRet (cC (.bool false))) (sNext)) [.dat dd, .dat (.int n), s2, .dat d, s4] f) P := by
  have t1 : tOrX (tNotX (cT (cUn (oIsi "tuple") (cVar 3)))) (tOrX (cT (cBin oEq (cVar 3) (cTup []))) (cT (cBin (oInF false) (cC (.bool false)) (cLc (iSeq (cVar 3)) (.one 4) (cYes) (cCall F_q_place [cVar 4, cVar 1]) [4])))) [.dat dd, .dat (.int n), s2, .dat d, s4] f = .ok (!plsB n d) f := by
    cases d with
    | tuple xs =>
      obtain ⟨kk, _, hL⟩ := hd.th.tup
      have hl := hL.len
      have eq := oEq_of (hd.shaped (by omega)) (show SeqAt.shaped (.tuple []) = true from rfl)
      rw [eqv_nilT6] at eq
      have lc : lcN (.one 4) cYes (cCall F_q_place [cVar 4, cVar 1]) [.dat dd, .dat (.int n), s2, .dat (.tuple xs), .emp] xs [] f = .ok (xs.map fun t => .bool (plB n t)) f := by
        have := lc_map (T := .one 4) (e := cCall F_q_place [cVar 4, cVar 1]) (ρ := [.dat dd, .dat (.int n), s2, .dat (.tuple xs), .emp]) (f := f) (xs := xs) (enc := id) (g := fun t => .bool (plB n t)) (by omega) fun t ht => ⟨_, rfl, by
          have q := q_place_D (n := n) (f := f) (hL.mem ht)
          simp [q]⟩
        rwa [List.map_id] at this
      have al := false_in xs (plB n)
      have er : plsB n (.tuple xs) = (!xs.isEmpty && xs.all (plB n)) := rfl
      rw [er]
      generalize xs.map (fun t => PyData.bool (plB n t)) = bs at lc al
      cases c1 : xs.isEmpty with
      | true =>
        rw [c1] at eq
        simp [eq]
      | false =>
        rw [c1] at eq
        simp [eq, lc, al]
    | dict kvs =>
      have := hd.c
      simp [PyData.canLay0] at this
    | _ => simp [plsB]
  cases hp : plsB n d with
  | false =>
    rw [hp] at t1
    have := h1 (riB_pls hp)
    rw [e_seq, ev_bind, e_if, t1]
    simpa using this
  | true =>
    rw [hp] at t1
    obtain ⟨A, rfl, hA0, hA, hr⟩ := pls_is hp
    obtain ⟨kk, _, hL⟩ := hd.th.tup
    have hl := hL.len
    rw [List.length_map] at hl
    have em : A.map (fun (a : Nat) => PyData.int a) = (A.map fun (a : Nat) => (a : Int)).map .int := by rw [List.map_map]; rfl
    have ss : oSortSetI (.tuple (A.map fun (a : Nat) => PyData.int a)) = some (.own ((riseI (A.map fun (a : Nat) => (a : Int))).map .int)) := by
      rw [em, oSortSetI_tuple, if_pos ⟨by rw [List.length_map]; omega, ddi_few hn hA⟩]
    have nn := ne_intL (a := A.map fun (a : Nat) => (a : Int)) (b := riseI (A.map fun (a : Nat) => (a : Int)))
    rw [← em] at nn
    have de : decide ((A.map fun (a : Nat) => (a : Int)) = riseI (A.map fun (a : Nat) => (a : Int))) = risI (A.map fun (a : Nat) => (a : Int)) := by
      rw [Bool.eq_iff_iff, decide_eq_true_eq, rise_iff]
    rw [de] at nn
    rw [hr] at h1 h2
    rw [e_seq, ev_bind, e_if, t1]
    generalize (riseI (A.map fun (a : Nat) => (a : Int))).map PyData.int = rs at *
    generalize A.map (fun (a : Nat) => PyData.int a) = xs at *
    cases hri : risI (A.map fun (a : Nat) => (a : Int)) with
    | false =>
      rw [hri] at nn
      have := h1 hri
      simp [ss, nn]
      exact this
    | true =>
      rw [hri] at nn
      have := h2 hri
      simp [ss, nn]
      exact this
theorem q_is_shape_any (hd : Tc e b k d) (hb : b ≤ 4000) (hk : k ≤ 60) (hn : n ≤ 4) (he : e ≤ 8000) : F_q_is_shape_v2 [.dat d, .dat (.int n)] f = .ok (.dat (.bool (shB n d || apB n d))) f := by
  apply ev_is
  rw [u_q_is_shape_v2, ev_dEnd]
  unfold S_q_is_shape_v2
  have sne : ¬ Str.ofString "share" = Str.ofString "apart" := by decide +kernel
  cases d with
  | tuple xs =>
    obtain ⟨kk, hkk, hL⟩ := hd.th.tup
    have hcL := can_tup hd.c
    have no : (xs.length ≠ 3 ∧ xs.length ≠ 4) → (shB n (.tuple xs) || apB n (.tuple xs)) = false := fun h => by
      match xs, h with
      | [], _ => rfl
      | [_], _ => simp [shB, apB]
      | [_, _], _ => simp [shB, apB]
      | _ :: _ :: _ :: _ :: _ :: _, _ => simp [shB, apB]
    match xs, hL, hcL, no with
    | [], _, _, no =>
      have i2 : oInF true (.int 0) (.tuple [.int 3, .int 4]) = some (.dat (.bool true)) := rfl
      have := no (by simp)
      simp [i2, this]
    | [x], _, _, no =>
      have i2 : oInF true (.int 1) (.tuple [.int 3, .int 4]) = some (.dat (.bool true)) := rfl
      have := no (by simp)
      simp [i2, this]
    | [x, y], _, _, no =>
      have i2 : oInF true (.int 2) (.tuple [.int 3, .int 4]) = some (.dat (.bool true)) := rfl
      have := no (by simp)
      simp [i2, this]
    | x :: y :: z :: u :: v :: r, _, _, no =>
      have i2 : oInF true (.int ((r.length : Int) + 1 + 1 + 1 + 1 + 1)) (.tuple [.int 3, .int 4]) = some (.dat (.bool true)) := by
        have h1 : ¬ (3 : Int) = (r.length : Int) + 1 + 1 + 1 + 1 + 1 := by omega
        have h2 : ¬ (4 : Int) = (r.length : Int) + 1 + 1 + 1 + 1 + 1 := by omega
        unfold oInF
        simp [seqOf, flatD, PyData.eqv, h1, h2]
      have := no (by simp)
      simp [i2, this]
    | [x, y, z], hL, hcL, _ =>
      have i2 : oInF true (.int 3) (.tuple [.int 3, .int 4]) = some (.dat (.bool false)) := rfl
      have hx := (hL.mem (d := x) (by simp)).oky
      have hsh : shB n (.tuple [x, y, z]) = false := by simp [shB]
      rw [hsh, Bool.false_or]
      by_cases ix : isOf "str" x = true
      · obtain ⟨w, rfl⟩ : ∃ w, x = .str w := by
          cases x <;> first | exact ⟨_, rfl⟩ | simp at ix
        by_cases hw : w = Str.ofString "apart"
        · subst hw
          have ea : apB n (.tuple [.str (Str.ofString "apart"), y, z]) = (riB n y && riB n z) := by
            show (decide (Str.ofString "apart" = Str.ofString "apart") && (riB n y && riB n z)) = _
            rw [decide_eq_true rfl]
            rfl
          rw [ea]
          have hy : Tc e b kk y := ⟨hL.mem (by simp), hcL y (by simp)⟩
          have hz : Tc e b kk z := ⟨hL.mem (by simp), hcL z (by simp)⟩
          have sl : oSl (some 1) none (.tuple [.str (Str.ofString "apart"), y, z]) = some (.dat (.tuple [y, z])) := rfl
          have s0 : oIx (.tuple [.str (Str.ofString "apart"), y, z]) (.int 0) = some (.dat (.str (Str.ofString "apart"))) := rfl
          have l0 : oLen (.tuple [.str (Str.ofString "apart"), y, z]) = some (.dat (.int 3)) := rfl
          have t0 : oIsi "tuple" (.tuple [.str (Str.ofString "apart"), y, z]) = some (.dat (.bool true)) := rfl
          have stS : ∀ s : Str, isOf "str" (.str s) = true := fun _ => rfl
          generalize PyData.tuple [.str (Str.ofString "apart"), y, z] = dd at *
          refine ev_step (fun ρ g => g = f ∧ ρ = [.dat dd, .dat (.int n), .emp, .emp, .emp]) (by simp [t0, l0, s0, stS, i2]) ?_
          rintro _ f ⟨rfl, rfl⟩
          refine ev_step (fun ρ g => g = f ∧ ρ = [.dat dd, .dat (.int n), .emp, .emp, .emp]) (by simp [l0, s0]) ?_
          rintro _ f ⟨rfl, rfl⟩
          refine ev_step (fun ρ g => g = f ∧ ρ = [.dat dd, .dat (.int n), .emp, .emp, .emp]) (by simp [l0, s0]) ?_
          rintro _ f ⟨rfl, rfl⟩
          refine ev_stepR (fun ρ g => g = f ∧ riB n y = true ∧ riB n z = true) ?_ ?_
          · rw [e_for]
            simp [sl]
            refine ev_forL (I := fun rest ρ g => g = f ∧ (∃ s3 s4 : Slot, ρ = [.dat dd, .dat (.int n), .emp, s3, s4]) ∧ (∀ t ∈ rest, Tc e b kk t) ∧ (riB n y && riB n z) = rest.all (riB n)) ?_ ?_ _ _ _ ⟨rfl, ⟨_, _, rfl⟩, fun t ht => by
              simp only [List.mem_cons, List.not_mem_nil, or_false] at ht
              rcases ht with rfl | rfl
              · exact hy
              · exact hz, by simp⟩
            · rintro t rest ρ g ⟨rfl, ⟨s3, s4, rfl⟩, ht, hr⟩
              refine ⟨_, rfl, ?_⟩
              rw [List.all_cons] at hr
              refine some_body (ht t List.mem_cons_self) hb (by omega) hn (fun q => ?_) fun q => ?_
              · rw [q, Bool.false_and] at hr
                rw [hr]
                change (_ ∨ (∃ rv, Ctl.rt (RV.dat (PyData.bool false)) = Ctl.rt rv ∧ rv.up = RV.dat (PyData.bool false) ∧ g = g))
                exact Or.inr ⟨_, rfl, rfl, rfl⟩
              · rw [q, Bool.true_and] at hr
                exact ⟨rfl, ⟨_, _, rfl⟩, fun u hu => ht u (List.mem_cons_of_mem _ hu), hr⟩
            · rintro ρ g ⟨rfl, ⟨s3, s4, rfl⟩, ht, hr⟩
              replace hr : (riB n y && riB n z) = true := hr
              rw [Bool.and_eq_true] at hr
              exact .inl ⟨⟨_, rfl⟩, rfl, hr⟩
          · rintro ρ g ⟨rfl, h1, h2⟩
            simp [h1, h2]
        · have e1 : apB n (.tuple [.str w, y, z]) = false := by
            show (decide (w = Str.ofString "apart") && _) = _
            rw [decide_eq_false hw, Bool.false_and]
          simp [i2, hw, e1]
      · rw [Bool.not_eq_true] at ix
        have e1 : apB n (.tuple [x, y, z]) = false := by
          cases x <;> first | rfl | simp at ix
        simp [i2, hx, ix, e1]
    | [x, y, z, u], hL, hcL, _ =>
      have i2 : oInF true (.int 4) (.tuple [.int 3, .int 4]) = some (.dat (.bool false)) := rfl
      have hx := (hL.mem (d := x) (by simp)).oky
      have hap : apB n (.tuple [x, y, z, u]) = false := by simp [apB]
      rw [hap, Bool.or_false]
      by_cases ix : isOf "str" x = true
      · obtain ⟨w, rfl⟩ : ∃ w, x = .str w := by
          cases x <;> first | exact ⟨_, rfl⟩ | simp at ix
        by_cases hw : w = Str.ofString "share"
        · subst hw
          have es : shB n (.tuple [.str (Str.ofString "share"), y, z, u]) = (plB n y && (wsB n z && ypB n u)) := by
            show (decide (Str.ofString "share" = Str.ofString "share") && _) = _
            rw [decide_eq_true rfl]
            rfl
          rw [es]
          have hy := hL.mem (d := y) (by simp)
          have hz := hL.mem (d := z) (by simp)
          have hu := hL.mem (d := u) (by simp)
          have s0 : oIx (.tuple [.str (Str.ofString "share"), y, z, u]) (.int 0) = some (.dat (.str (Str.ofString "share"))) := rfl
          have s1 : oIx (.tuple [.str (Str.ofString "share"), y, z, u]) (.int 1) = some (.dat y) := rfl
          have s2 : oIx (.tuple [.str (Str.ofString "share"), y, z, u]) (.int 2) = some (.dat z) := rfl
          have s3 : oIx (.tuple [.str (Str.ofString "share"), y, z, u]) (.int 3) = some (.dat u) := rfl
          have l0 : oLen (.tuple [.str (Str.ofString "share"), y, z, u]) = some (.dat (.int 4)) := rfl
          have t0 : oIsi "tuple" (.tuple [.str (Str.ofString "share"), y, z, u]) = some (.dat (.bool true)) := rfl
          have stS : ∀ s : Str, isOf "str" (.str s) = true := fun _ => rfl
          have pl := q_place_D (n := n) (f := f) hy
          generalize PyData.tuple [.str (Str.ofString "share"), y, z, u] = dd at *
          refine ev_step (fun ρ g => g = f ∧ ρ = [.dat dd, .dat (.int n), .emp, .emp, .emp]) (by simp [t0, l0, s0, stS, i2]) ?_
          rintro _ f ⟨rfl, rfl⟩
          refine ev_step (fun ρ g => g = f ∧ ρ = [.dat dd, .dat (.int n), .emp, .emp, .emp]) (by simp [l0, s0]) ?_
          rintro _ f ⟨rfl, rfl⟩
          rw [e_seq, ev_bind, e_if]
          simp only [e_T, e_Bin, e_Un, e_V, e_C, List.getElem?_cons_zero]
          cases hp : plB n y with
          | false =>
            rw [hp] at pl
            simp [l0, s1, pl]
          | true =>
            rw [hp] at pl
            cases z with
            | tuple xs =>
              obtain ⟨k2, _, hLx⟩ := hz.tup
              have hl := hLx.len
              by_cases c : xs.length = n
              · have ci : (xs.length : Int) = n := by omega
                have lc : lcN (.one 2) cYes (cCall F_q_is_ratio_v3 [cVar 2]) [.dat dd, .dat (.int n), .emp, .emp, .emp] xs [] f = .ok (xs.map fun t => .bool (isr t)) f := by
                  have := lc_map (T := .one 2) (e := cCall F_q_is_ratio_v3 [cVar 2]) (ρ := [.dat dd, .dat (.int n), .emp, .emp, .emp]) (f := f) (xs := xs) (enc := id) (g := fun t => .bool (isr t)) (by omega) fun t ht => ⟨_, rfl, by
                    have q := q_is_ratio_v3_any (f := f) (hLx.mem ht) he
                    simp [q]⟩
                  rwa [List.map_id] at this
                have al := false_in xs isr
                have e1 : wsB n (.tuple xs) = xs.all isr := by
                  show (decide (xs.length = n) && xs.all isr) = _
                  rw [decide_eq_true c, Bool.true_and]
                rw [e1]
                generalize xs.map (fun t => PyData.bool (isr t)) = bs at lc al
                cases c2 : xs.all isr with
                | false =>
                  rw [c2] at al
                  simp [l0, s1, pl, s2, ci, lc, al]
                | true =>
                  rw [c2] at al
                  cases u with
                  | tuple ys =>
                    obtain ⟨k3, _, hLy⟩ := hu.tup
                    have hly := hLy.len
                    by_cases c3 : ys.length ≤ 3
                    · have ci3 : ¬ (3 : Int) < ys.length := by omega
                      have e3 : ypB n (.tuple ys) = ys.all (prB n) := by
                        show (decide (ys.length ≤ 3) && ys.all (prB n)) = _
                        rw [decide_eq_true c3, Bool.true_and]
                      rw [e3]
                      generalize hR : ys.all (prB n) = R
                      simp [l0, s1, pl, s2, s3, ci, lc, al, ci3]
                      refine ev_forL (I := fun rest ρ g => g = f ∧ (∃ s2 s3 s4 : Slot, ρ = [.dat dd, .dat (.int n), s2, s3, s4]) ∧ (∀ t ∈ rest, Th e b k3 t) ∧ rest.all (prB n) = R) ?_ ?_ _ _ _ ⟨rfl, ⟨_, _, _, rfl⟩, fun t ht => hLy.mem ht, hR⟩
                      · rintro t rest ρ g ⟨rfl, ⟨s2, s3, s4, rfl⟩, ht, hr⟩
                        refine ⟨_, rfl, ?_⟩
                        rw [List.all_cons] at hr
                        have htt := ht t List.mem_cons_self
                        have htr : ∀ u ∈ rest, Th e b k3 u := fun u hu => ht u (List.mem_cons_of_mem _ hu)
                        have bad : prB n t = false → R = false := fun q => by rw [← hr, q, Bool.false_and]
                        cases t with
                        | tuple zs =>
                          obtain ⟨k4, _, hLz⟩ := htt.tup
                          by_cases cz : zs.length = 2
                          · match zs, cz, hLz with
                            | [p, q], _, hLz =>
                              have lcp : lcN (.one 4) cYes (cCall F_q_place [cVar 4, cVar 1]) [.dat dd, .dat (.int n), .dat (.tuple [p, q]), s3, .emp] [p, q] [] g = .ok ([p, q].map fun t => .bool (plB n t)) g := by
                                have := lc_map (T := .one 4) (e := cCall F_q_place [cVar 4, cVar 1]) (ρ := [.dat dd, .dat (.int n), .dat (.tuple [p, q]), s3, .emp]) (f := g) (xs := [p, q]) (enc := id) (g := fun t => .bool (plB n t)) (by simp) fun t ht => ⟨_, rfl, by
                                  have q := q_place_D (n := n) (f := g) (hLz.mem ht)
                                  simp [q]⟩
                                rwa [List.map_id] at this
                              have alp := false_in [p, q] (plB n)
                              have e4 : prB n (.tuple [p, q]) = [p, q].all (plB n) := by simp [prB]
                              generalize [p, q].map (fun t => PyData.bool (plB n t)) = bs2 at lcp alp
                              cases c5 : [p, q].all (plB n) with
                              | false =>
                                rw [c5] at alp
                                have := bad (by rw [e4, c5])
                                simp [lcp, alp, this]
                              | true =>
                                rw [c5] at alp
                                rw [e4, c5, Bool.true_and] at hr
                                simp [lcp, alp]
                                exact ⟨htr, hr⟩
                          · have ci4 : ¬ (zs.length : Int) = 2 := by omega
                            have := bad (by
                              unfold prB
                              split
                              · rename_i a b e
                                injection e with e
                                rw [e] at cz
                                exact absurd rfl cz
                              · rfl)
                            simp [ci4, this]
                        | dict kvs =>
                          have hok := htt.oky
                          have := bad rfl
                          simp [hok, this]
                        | _ =>
                          have := bad rfl
                          simp [this]
                      · rintro ρ g ⟨rfl, ⟨s2, s3, s4, rfl⟩, ht, hr⟩
                        have : R = true := by rw [← hr]; rfl
                        simp [this]
                    · have ci3 : (3 : Int) < ys.length := by omega
                      have e3 : ypB n (.tuple ys) = false := by
                        show (decide (ys.length ≤ 3) && ys.all (prB n)) = _
                        rw [decide_eq_false c3, Bool.false_and]
                      simp [l0, s1, pl, s2, s3, ci, lc, al, ci3, e3]
                  | dict kvs =>
                    have hok := hu.oky
                    simp [l0, s1, pl, s2, s3, ci, lc, al, ypB, hok]
                  | _ => simp [l0, s1, pl, s2, s3, ci, lc, al, ypB]
              · have ci : ¬ (xs.length : Int) = n := by omega
                have e1 : wsB n (.tuple xs) = false := by
                  show (decide (xs.length = n) && xs.all isr) = _
                  rw [decide_eq_false c, Bool.false_and]
                simp [l0, s1, pl, s2, ci, e1]
            | dict kvs =>
              have hok := hz.oky
              simp [l0, s1, pl, s2, wsB, hok]
            | _ => simp [l0, s1, pl, s2, wsB]
        · have e1 : shB n (.tuple [.str w, y, z, u]) = false := by
            show (decide (w = Str.ofString "share") && _) = _
            rw [decide_eq_false hw, Bool.false_and]
          simp [i2, hw, e1]
      · rw [Bool.not_eq_true] at ix
        have e1 : shB n (.tuple [x, y, z, u]) = false := by
          cases x <;> first | rfl | simp at ix
        simp [i2, hx, ix, e1]
  | dict kvs =>
    have := hd.c
    simp [PyData.canLay0] at this
  | _ => simp [shB, apB]
end
end Fp
namespace Fp
open PySem PySem.Spec L2 Dn
abbrev nD (a : Nat) : PyData := .int (a : Nat)
def natsD (A : List Nat) : List PyData := A.map nD
def rwP (n : Nat) (P : Nat → Nat → Rat) (i : Nat) : PyData := .tuple ((List.range n).map fun j => enc (P i j))
def rowsP (n : Nat) (P : Nat → Nat → Rat) : PyData := .tuple ((List.range n).map (rwP n P))
section
variable {n i j a : Nat} {P : Nat → Nat → Rat} {A B : List Nat} {f : Feed}
theorem ixR (h : i < n) : oIx (rowsP n P) (.int (i : Nat)) = some (.dat (rwP n P i)) := by
  unfold rowsP
  rw [e_ix_tuple, Dn.atI_nat, List.getElem?_map, List.getElem?_range h]
  rfl
theorem ixC (h : j < n) : oIx (rwP n P i) (.int (j : Nat)) = some (.dat (enc (P i j))) := by
  unfold rwP
  rw [e_ix_tuple, Dn.atI_nat, List.getElem?_map, List.getElem?_range h]
  rfl
theorem lenR : oLen (rowsP n P) = some (.dat (.int (n : Nat))) := by
  unfold rowsP
  simp
theorem inNs {neg : Bool} : oInF neg (.int (a : Nat)) (.list (natsD A)) = some (.dat (.bool (neg ^^ decide (a ∈ A)))) := by
  have h1 : (natsD A).all flatD = true := by
    unfold natsD
    rw [List.all_map]
    exact List.all_eq_true.mpr fun _ _ => rfl
  have h2 : ((natsD A).any fun y => PyData.eqv y (.int (a : Nat))) = decide (a ∈ A) := by
    unfold natsD
    rw [List.any_map, Bool.eq_iff_iff, List.any_eq_true, decide_eq_true_eq]
    constructor
    · rintro ⟨x, hx, h⟩
      have : (x : Int) = a := of_decide_eq_true h
      have : x = a := by omega
      rwa [← this]
    · intro h
      exact ⟨a, h, decide_eq_true rfl⟩
  unfold oInF
  simp only [seqOf, h1, h2]
  cases neg <;> simp [flatD]
theorem inNt {neg : Bool} : oInF neg (.int (a : Nat)) (.tuple (natsD A)) = some (.dat (.bool (neg ^^ decide (a ∈ A)))) := by
  have := inNs (neg := neg) (a := a) (A := A)
  unfold oInF at this ⊢
  exact this
theorem led_q (hi : i < n) (hj : j < n) : F_is_led_to [.dat (rowsP n P), .dat (.int (i : Nat)), .dat (.int (j : Nat))] f = .ok (.dat (.bool (!decide (P i j = 0)))) f := by
  have e1 := ixR (P := P) hi
  have e2 := ixC (P := P) (i := i) hj
  have e3 := ne_enc0 (x := P i j)
  apply ev_is
  rw [u_is_led_to, ev_dEnd]
  unfold S_is_led_to
  generalize rowsP n P = R at *
  generalize rwP n P i = r at *
  generalize enc (P i j) = x at *
  simp [e1, e2, e3]
/-- is a kind led out of a set? -/
def outB (n : Nat) (P : Nat → Nat → Rat) (S : List Nat) (i : Nat) : Bool := (List.range n).any fun j => !decide (P i j = 0) && !decide (j ∈ S)
theorem all_out {S : List Nat} : ((List.range n).filter fun j => !decide (P i j = 0)).all (fun j => decide (j ∈ S)) = !outB n P S i := by
  unfold outB
  rw [List.all_filter, List.not_any_eq_all_not]
  congr 1
  funext j
  cases decide (P i j = 0) <;> cases decide (j ∈ S) <;> rfl
theorem q_is_out_q {S : List Nat} {s : PyData} (hs : s = .tuple (natsD S) ∨ s = .list (natsD S)) (hn : n ≤ 4) (hi : i < n) : F_q_is_out [.dat (rowsP n P), .dat (.int (i : Nat)), .dat s] f = .ok (.dat (.bool (outB n P S i))) f := by
  have e0 := lenR (n := n) (P := P)
  have e1 := ixR (P := P) hi
  have ins : ∀ j : Nat, oInF true (.int (j : Nat)) s = some (.dat (.bool (!decide (j ∈ S)))) := fun j => by
    rcases hs with rfl | rfl
    · rw [inNt]; simp
    · rw [inNs]; simp
  have lc : ∀ s3 : Slot, lcN (.one 3) (tAndX (cT (cBin oNe (cBin oIx (cBin oIx (cVar 0) (cVar 1)) (cVar 3)) (cTup [cC (.int 0), cC (.int 1)]))) (cT (cBin (oInF true) (cVar 3) (cVar 2)))) (cVar 3) [.dat (rowsP n P), .dat (.int (i : Nat)), .dat s, s3] (rangeD 0 n) [] f = .ok (((List.range n).filter fun j => !decide (P i j = 0) && !decide (j ∈ S)).map nD) f := fun s3 => by
    unfold rangeD
    refine lc_pure (by rw [List.length_range]; omega) fun j hj => ⟨_, rfl, ?_, fun _ => by simp⟩
    rw [List.mem_range] at hj
    have e2 := ixC (P := P) (i := i) hj
    have e3 := ne_enc0 (x := P i j)
    have e4 := ins j
    generalize rowsP n P = R at *
    generalize rwP n P i = r at *
    generalize enc (P i j) = x at *
    cases h0 : decide (P i j = 0) with
    | true =>
      rw [h0] at e3
      simp [e1, e2, e3]
    | false =>
      rw [h0] at e3
      simp [e1, e2, e3, e4]
  have nn : oNe (.list (((List.range n).filter fun j => !decide (P i j = 0) && !decide (j ∈ S)).map nD)) (.list []) = some (.dat (.bool (outB n P S i))) := by
    have := ne_intL (a := ((List.range n).filter fun j => !decide (P i j = 0) && !decide (j ∈ S)).map fun (a : Nat) => (a : Int)) (b := [])
    rw [List.map_map] at this
    refine Eq.trans this ?_
    congr 3
    unfold outB
    rw [Bool.eq_iff_iff]
    simp [List.filter_eq_nil_iff]
  apply ev_is
  rw [u_q_is_out, ev_dEnd]
  unfold S_q_is_out
  generalize ((List.range n).filter fun j => !decide (P i j = 0) && !decide (j ∈ S)).map nD = L at *
  generalize rowsP n P = R at *
  simp [e0, smallI_ok (n := (n : Int)) (by omega) (by omega), lc, nn]
/-- loops that look for the first one -/
theorem scanF {α : Type} {T : Tgt} {s : Sm} {f : Feed} {enc : α → PyData} (p : α → Bool) (X : α → R Ctl) (I : Rho → Prop) (hX : ∀ a, (∃ v, X a = .ok (.rt v) f) ∨ ∃ c vs, X a = .ex c vs f) :
    ∀ (l : List α) (ρ : Rho), I ρ → (∀ a ∈ l, ∀ ρ, I ρ → ∃ ρ1, T.put (enc a) ρ = some ρ1 ∧ (p a = true → s ρ1 f = X a) ∧ (p a = false → ∃ ρ2, s ρ1 f = .ok (.nx ρ2) f ∧ I ρ2)) →
      (∀ a, l.find? p = some a → forN T s (l.map enc) ρ f = X a) ∧ (l.find? p = none → ∃ ρ2, forN T s (l.map enc) ρ f = .ok (.nx ρ2) f ∧ I ρ2)
  | [], ρ, h, _ => ⟨fun a z => by simp at z, fun _ => ⟨ρ, rfl, h⟩⟩
  | d :: ds, ρ, h, hs => by
    obtain ⟨ρ1, e1, y, n⟩ := hs d List.mem_cons_self ρ h
    rw [List.map_cons, List.find?_cons]
    cases c : p d with
    | true =>
      refine ⟨fun a z => ?_, fun z => by cases z⟩
      cases z
      unfold forN
      rw [e1]
      simp only [y c]
      rcases hX d with ⟨v, e⟩ | ⟨c, vs, e⟩
      · rw [e]
        rfl
      · rw [e]
        rfl
    | false =>
      obtain ⟨ρ2, e2, h2⟩ := n c
      have ih := scanF p X I hX ds ρ2 h2 fun a ha ρ hI => hs a (List.mem_cons_of_mem _ ha) ρ hI
      have st : forN T s (enc d :: ds.map enc) ρ f = forN T s (ds.map enc) ρ2 f := by
        rw [forN]
        simp only [e1, e2, bind_ok]
      rw [st]
      exact ih
end
end Fp
namespace Fp
open PySem PySem.Spec L2 Dn
/-- the first thing amiss in a paper apart -/
def vA (n : Nat) (P : Nat → Nat → Rat) (A B : List Nat) : Option (Str × Nat) :=
  match A.find? fun k => decide (k ∈ B) with
  | some k => some ("both", k)
  | none => match A.find? (outB n P A) with
    | some k => some ("out", k)
    | none => (B.find? (outB n P B)).map fun k => ("out", k)
def exR (w : Str) (k : Nat) {α : Type} (f : Feed) : R α := .ex "NoPaper" [("place", .int (k : Nat)), ("word", .str w)] f
def telR (v : Option (Str × Nat)) (d : PyData) (f : Feed) : R RV := match v with
  | some (w, k) => exR w k f
  | none => .ok (.dat d) f
section
variable {n : Nat} {P : Nat → Nat → Rat} {A B : List Nat} {f : Feed}
theorem look_out {S : List Nat} (hn : n ≤ 4) (hS : ∀ a ∈ S, a < n) {d1 d2 : PyData} {s3 s5 : Slot} :
    (∀ k, S.find? (outB n P S) = some k → forN (.one 3) (sIf (tNotX (cT (cUn oAll (cLc (iRange1 (cUn oLen (cVar 0))) (.one 5) (cT (cCall F_is_led_to [cVar 0, cVar 3, cVar 5])) (cBin (oInF false) (cVar 5) (cVar 4)) [5])))) (sRaise "NoPaper" ["word", "place"] [cC (.str "out"), cVar 3]) (sNext)) (natsD S) [.dat (rowsP n P), .dat d1, .dat d2, s3, .dat (.tuple (natsD S)), s5] f = exR "out" k f) ∧
    (S.find? (outB n P S) = none → ∃ t3 t5 : Slot, forN (.one 3) (sIf (tNotX (cT (cUn oAll (cLc (iRange1 (cUn oLen (cVar 0))) (.one 5) (cT (cCall F_is_led_to [cVar 0, cVar 3, cVar 5])) (cBin (oInF false) (cVar 5) (cVar 4)) [5])))) (sRaise "NoPaper" ["word", "place"] [cC (.str "out"), cVar 3]) (sNext)) (natsD S) [.dat (rowsP n P), .dat d1, .dat d2, s3, .dat (.tuple (natsD S)), s5] f = .ok (.nx [.dat (rowsP n P), .dat d1, .dat d2, t3, .dat (.tuple (natsD S)), t5]) f) := by
  have e0 := lenR (n := n) (P := P)
  have led := fun i j (hi : i < n) (hj : j < n) g => led_q (P := P) (f := g) hi hj
  have ins := fun j : Nat => inNt (neg := false) (a := j) (A := S)
  have lc : ∀ (i : Nat), i < n → ∀ s5 : Slot, lcN (.one 5) (cT (cCall F_is_led_to [cVar 0, cVar 3, cVar 5])) (cBin (oInF false) (cVar 5) (cVar 4)) [.dat (rowsP n P), .dat d1, .dat d2, .dat (.int (i : Nat)), .dat (.tuple (natsD S)), s5] (rangeD 0 n) [] f = .ok (((List.range n).filter fun j => !decide (P i j = 0)).map fun j => .bool (decide (j ∈ S))) f := fun i hi s5 => by
    unfold rangeD
    refine lc_pure (by rw [List.length_range]; omega) fun j hj => ⟨_, rfl, ?_, fun _ => ?_⟩
    · rw [List.mem_range] at hj
      have q := led i j hi hj f
      generalize rowsP n P = R at *
      simp [q]
    · have q := ins j
      rw [Bool.false_xor] at q
      generalize natsD S = T at *
      simp [q]
  have sc := scanF (T := .one 3) (s := sIf (tNotX (cT (cUn oAll (cLc (iRange1 (cUn oLen (cVar 0))) (.one 5) (cT (cCall F_is_led_to [cVar 0, cVar 3, cVar 5])) (cBin (oInF false) (cVar 5) (cVar 4)) [5])))) (sRaise "NoPaper" ["word", "place"] [cC (.str "out"), cVar 3]) (sNext)) (f := f) (enc := nD) (outB n P S) (fun k => exR "out" k f) (fun ρ => ∃ s3 s5 : Slot, ρ = [.dat (rowsP n P), .dat d1, .dat d2, s3, .dat (.tuple (natsD S)), s5]) (fun k => .inr ⟨_, _, rfl⟩) S [.dat (rowsP n P), .dat d1, .dat d2, s3, .dat (.tuple (natsD S)), s5] ⟨_, _, rfl⟩ (by
    rintro i hi ρ ⟨s3, s5, rfl⟩
    have lci := lc i (hS i hi) .emp
    have al := all_map6 ((List.range n).filter fun j => !decide (P i j = 0)) fun j => decide (j ∈ S)
    rw [all_out] at al
    generalize ((List.range n).filter fun j => !decide (P i j = 0)).map (fun j => PyData.bool (decide (j ∈ S))) = bs at *
    generalize rowsP n P = R at *
    generalize natsD S = T at *
    refine ⟨_, rfl, fun c => ?_, fun c => ?_⟩
    · rw [c] at al
      simp [e0, smallI_ok (n := (n : Int)) (by omega) (by omega), lci, al, exR]
    · rw [c] at al
      simp [e0, smallI_ok (n := (n : Int)) (by omega) (by omega), lci, al])
  refine ⟨fun k hk => sc.1 k hk, fun hk => ?_⟩
  obtain ⟨ρ2, e, s3, s5, rfl⟩ := sc.2 hk
  exact ⟨s3, s5, e⟩
theorem look_apart_q (hn : n ≤ 4) (hA : ∀ a ∈ A, a < n) (hB : ∀ a ∈ B, a < n) : F_look_at_apart_X [.dat (rowsP n P), .dat (.tuple (natsD A)), .dat (.tuple (natsD B))] f = telR (vA n P A B) .none f := by
  rw [u_look_at_apart_X]
  unfold S_look_at_apart_X
  have sc := scanF (T := .one 3) (s := sIf (cT (cBin (oInF false) (cVar 3) (cVar 2))) (sRaise "NoPaper" ["word", "place"] [cC (.str "both"), cVar 3]) (sNext)) (f := f) (enc := nD) (fun k => decide (k ∈ B)) (fun k => exR "both" k f) (fun ρ => ∃ s3 : Slot, ρ = [.dat (rowsP n P), .dat (.tuple (natsD A)), .dat (.tuple (natsD B)), s3, .emp, .emp]) (fun k => .inr ⟨_, _, rfl⟩) A [.dat (rowsP n P), .dat (.tuple (natsD A)), .dat (.tuple (natsD B)), .emp, .emp, .emp] ⟨_, rfl⟩ (by
    rintro i hi ρ ⟨s3, rfl⟩
    have q := inNt (neg := false) (a := i) (A := B)
    rw [Bool.false_xor] at q
    generalize rowsP n P = R at *
    generalize natsD B = T at *
    refine ⟨_, rfl, fun c => ?_, fun c => ?_⟩
    · rw [c] at q
      simp [q, exR]
    · rw [c] at q
      simp [q])
  have l1 := fun s3 s5 => look_out (P := P) (f := f) (d1 := .tuple (natsD A)) (d2 := .tuple (natsD B)) (s3 := s3) (s5 := s5) hn hA
  have l2 := fun s3 s5 => look_out (P := P) (f := f) (d1 := .tuple (natsD A)) (d2 := .tuple (natsD B)) (s3 := s3) (s5 := s5) hn hB
  have sq : ∀ l : List Nat, seqOf (.tuple (natsD l)) = some (natsD l) := fun _ => rfl
  have s2 := sq A
  have s3' := sq B
  have e9 : ∀ l : List Nat, l.map nD = natsD l := fun _ => rfl
  rw [e9] at sc
  generalize sIf (tNotX (cT (cUn oAll (cLc (iRange1 (cUn oLen (cVar 0))) (.one 5) (cT (cCall F_is_led_to [cVar 0, cVar 3, cVar 5])) (cBin (oInF false) (cVar 5) (cVar 4)) [5])))) (sRaise "NoPaper" ["word", "place"] [cC (.str "out"), cVar 3]) (sNext) = body at *
  unfold vA
  generalize rowsP n P = R at *
  cases q1 : A.find? fun k => decide (k ∈ B) with
  | some k =>
    have := sc.1 k q1
    generalize natsD A = TA at *
    generalize natsD B = TB at *
    simp [s2, this, telR, exR]
  | none =>
    obtain ⟨ρ2, e, s30, rfl⟩ := sc.2 q1
    simp only
    cases q2 : A.find? (outB n P A) with
    | some k =>
      have := (l1 s30 .emp).1 k q2
      generalize natsD A = TA at *
      generalize natsD B = TB at *
      simp [s2, e, forN, this, telR, exR]
    | none =>
      obtain ⟨s31, s51, e2⟩ := (l1 s30 .emp).2 q2
      simp only
      cases q3 : B.find? (outB n P B) with
      | some k =>
        have := (l2 s31 s51).1 k q3
        generalize natsD A = TA at *
        generalize natsD B = TB at *
        simp [s2, s3', e, forN, e2, this, telR, exR]
      | none =>
        obtain ⟨s32, s52, e3⟩ := (l2 s31 s51).2 q3
        generalize natsD A = TA at *
        generalize natsD B = TB at *
        simp [s2, s3', e, forN, e2, e3, telR]
end
end Fp
namespace Fp
open PySem PySem.Spec L2 Dn
/-- numbers that are short enough to be reckoned with: chances of rows, weights -/
structure RW (n : Nat) (P : Nat → Nat → Rat) (w : Nat → Rat) : Prop where
  n4 : n ≤ 4
  W : ∃ W : Nat, 0 < W ∧ W ≤ 2 ^ 31 ∧ ∀ i j, i < n → j < n → Wh W (P i j) ∧ 0 ≤ P i j ∧ P i j ≤ 1
  e : ∃ e : Nat, e ≤ 700 ∧ ∀ i, i < n → Sz e (w i)
theorem put_two5 {i j : Nat} {a b : PyData} {ρ : Rho} : (Tgt.many [i, j]).put (.tuple [a, b]) ρ = some ((ρ.set i (.dat a)).set j (.dat b)) := rfl
def wsD (n : Nat) (w : Nat → Rat) : List PyData := (List.range n).map fun i => enc (w i)
/-- what the chain makes of weights -/
def stat (n : Nat) (P : Nat → Nat → Rat) (w : Nat → Rat) (k : Nat) : Rat := rs n fun j => w j * P j k
theorem wh_prod {e : Nat} {w : Nat → Rat} : ∀ n, (∀ i, i < n → Sz e (w i)) → ∃ D, 0 < D ∧ D ≤ 2 ^ (e * n) ∧ ∀ i, i < n → Wh D (w i)
  | 0, _ => ⟨1, by decide, Nat.one_le_two_pow, fun i h => by omega⟩
  | n + 1, h => by
    obtain ⟨D, D0, d1, d2⟩ := wh_prod n fun i hi => h i (by omega)
    refine ⟨(w n).den * D, Nat.mul_pos (w n).den_pos D0, ?_, fun i hi => ?_⟩
    · rw [Nat.mul_succ, Nat.pow_add, Nat.mul_comm]
      exact Nat.mul_le_mul d1 (Nat.le_of_lt (h n (by omega)).den)
    · rcases Nat.lt_or_eq_of_le (Nat.le_of_lt_succ hi) with hi | rfl
      · exact (d2 i hi).up (Nat.dvd_mul_left _ _)
      · exact (show Wh (w i).den (w i) from ⟨(w i).num, mul_den _⟩).up (Nat.dvd_mul_right _ _)
theorem ab_of_sz {e : Nat} {x : Rat} (h : Sz e x) : Ab ((2 ^ e : Nat) : Rat) x := by
  have md := mul_den x
  have d1 : (1 : Rat) ≤ (x.den : Rat) := by
    have := Rat.natCast_le_natCast.mpr (show 1 ≤ x.den from x.den_pos)
    simpa using this
  have b0 : (0 : Rat) ≤ ((2 ^ e : Nat) : Rat) := Rat.natCast_nonneg
  have n1 : (x.num : Rat) ≤ ((2 ^ e : Nat) : Rat) := by
    have := h.num
    have q : x.num ≤ ((2 ^ e : Nat) : Int) := by omega
    exact Rat.intCast_le_intCast.mpr q
  have n2 : -((2 ^ e : Nat) : Rat) ≤ (x.num : Rat) := by
    have := h.num
    have q : -((2 ^ e : Nat) : Int) ≤ x.num := by omega
    have := Rat.intCast_le_intCast.mpr q
    rw [Rat.intCast_neg] at this
    exact this
  generalize ((2 ^ e : Nat) : Rat) = B at *
  constructor
  · apply Rat.not_lt.mp
    intro hlt
    have := Rat.mul_nonneg (show 0 ≤ -B - x by grind) (show 0 ≤ (x.den : Rat) - 1 by grind)
    have := Rat.mul_nonneg b0 (show 0 ≤ (x.den : Rat) - 1 by grind)
    grind
  · apply Rat.not_lt.mp
    intro hlt
    have := Rat.mul_nonneg (show 0 ≤ x - B by grind) (show 0 ≤ (x.den : Rat) - 1 by grind)
    have := Rat.mul_nonneg b0 (show 0 ≤ (x.den : Rat) - 1 by grind)
    grind
section
variable {n : Nat} {P : Nat → Nat → Rat} {w : Nat → Rat} {f : Feed}
theorem RW.sums (h : RW n P w) : (∀ m, m ≤ n → Sz 4000 (rs m w)) ∧ (∀ k m, k < n → m ≤ n → Sz 4000 (rs m fun j => w j * P j k)) ∧ (∀ i k, i < n → k < n → Sz 4000 (w i * P i k)) ∧ (∀ i k, i < n → k < n → Sz 4000 (P i k)) ∧ ∀ i, i < n → Sz 4000 (w i) := by
  obtain ⟨W, W0, W1, hW⟩ := h.W
  obtain ⟨e, e1, he⟩ := h.e
  obtain ⟨D, D0, d1, d2⟩ := wh_prod n he
  have n4 := h.n4
  have d3 : D ≤ 2 ^ (e * 4) := Nat.le_trans d1 (Nat.pow_le_pow_right (by decide) (Nat.mul_le_mul_left e n4))
  have big : ∀ c, c ≤ 4 → (c * 2 ^ e + 1) * (D * W) < 2 ^ 4000 := fun c hc => by
    have a : c * 2 ^ e + 1 ≤ 2 ^ (e + 3) := by
      rw [Nat.pow_add]
      have : 1 ≤ 2 ^ e := Nat.one_le_two_pow
      have : c * 2 ^ e ≤ 4 * 2 ^ e := Nat.mul_le_mul_right _ hc
      omega
    have b : (c * 2 ^ e + 1) * (D * W) ≤ 2 ^ (e + 3) * (2 ^ (e * 4) * 2 ^ 31) := Nat.mul_le_mul a (Nat.mul_le_mul d3 W1)
    rw [← Nat.pow_add, ← Nat.pow_add] at b
    exact Nat.lt_of_le_of_lt b (Nat.pow_lt_pow_right (by decide) (by omega))
  have DW := Nat.mul_pos D0 W0
  have ww : ∀ i, i < n → Wh (D * W) (w i) := fun i hi => (d2 i hi).up (Nat.dvd_mul_right _ _)
  have wp : ∀ i k, i < n → k < n → Wh (D * W) (w i * P i k) := fun i k hi hk => (d2 i hi).mul (hW i k hi hk).1
  have ap : ∀ i k, i < n → k < n → Ab ((2 ^ e : Nat) : Rat) (w i * P i k) := fun i k hi hk => by
    obtain ⟨_, p0, p1⟩ := hW i k hi hk
    obtain ⟨a1, a2⟩ := ab_of_sz (he i hi)
    have b0 : (0 : Rat) ≤ ((2 ^ e : Nat) : Rat) := Rat.natCast_nonneg
    generalize ((2 ^ e : Nat) : Rat) = B at *
    constructor
    · have := Rat.mul_nonneg (show 0 ≤ w i + B by grind) p0
      have := Rat.mul_nonneg b0 (show 0 ≤ 1 - P i k by grind)
      grind
    · have := Rat.mul_nonneg (show 0 ≤ B - w i by grind) p0
      have := Rat.mul_nonneg b0 (show 0 ≤ 1 - P i k by grind)
      grind
  have fin : ∀ {x : Rat} {c : Nat}, c ≤ 4 → Wh (D * W) x → Ab ((c * 2 ^ e : Nat) : Rat) x → Sz 4000 x := fun {x c} hc hw ha => ab_sz (B := c * 2 ^ e + 1) DW hw (ha.up (Rat.natCast_le_natCast.mpr (by omega))) (Nat.succ_pos _) (big c hc)
  have fin1 : ∀ {x : Rat}, Wh (D * W) x → Ab ((2 ^ e : Nat) : Rat) x → Sz 4000 x := fun {x} hw ha => fin (c := 1) (by decide) hw (by rw [Nat.one_mul]; exact ha)
  refine ⟨fun m hm => fin (c := m) (by omega) (rs_wh fun i hi => ww i (by omega)) (rs_ab fun i hi => ab_of_sz (he i (by omega))), fun k m hk hm => fin (c := m) (by omega) (rs_wh fun i hi => wp i k (by omega) hk) (rs_ab fun i hi => ap i k (by omega) hk), fun i k hi hk => fin1 (wp i k hi hk) (ap i k hi hk), fun i k hi hk => ?_, fun i hi => fin1 (ww i hi) (ab_of_sz (he i hi))⟩
  obtain ⟨p, p0, p1⟩ := hW i k hi hk
  refine fin1 (p.up (Nat.dvd_mul_left _ _)) ⟨?_, ?_⟩
  · have : (0 : Rat) ≤ ((2 ^ e : Nat) : Rat) := Rat.natCast_nonneg
    grind
  · have := Rat.natCast_le_natCast.mpr (show 1 ≤ 2 ^ e from Nat.one_le_two_pow)
    have e1 : ((1 : Nat) : Rat) = 1 := rfl
    rw [e1] at this
    exact Rat.le_trans p1 this
theorem pairs_range {g : Nat → PyData} : pairsD ((List.range n).map g) = (List.range n).map fun k => .tuple [.int (k : Nat), g k] := by
  apply List.ext_getElem?
  intro i
  by_cases hi : i < n
  · have e : ((List.range n).map g)[i]? = some (g i) := by rw [List.getElem?_map, List.getElem?_range hi]; rfl
    rw [pairsD_get e, List.getElem?_map, List.getElem?_range hi]
    rfl
  · rw [List.getElem?_eq_none (by rw [pairsD_length, List.length_map, List.length_range]; omega), List.getElem?_eq_none (by rw [List.length_map, List.length_range]; omega)]
def statB (n : Nat) (P : Nat → Nat → Rat) (w : Nat → Rat) (k : Nat) : Bool := !decide (stat n P w k = w k)
/-- the first thing amiss in weights -/
def vW (n : Nat) (P : Nat → Nat → Rat) (w : Nat → Rat) : Option (Str × Nat) :=
  if rs n w = 1 then ((List.range n).find? (statB n P w)).map fun k => ("weight", k) else some ("whole", 0)
theorem look_weights_q (h : RW n P w) : F_look_at_weights_X [.dat (rowsP n P), .dat (.tuple (wsD n w))] f = telR (vW n P w) .none f := by
  obtain ⟨s1, s2, s3, s4, s5⟩ := h.sums
  have n4 := h.n4
  rw [u_look_at_weights_X]
  unfold S_look_at_weights_X
  have f1 : ∀ s3 : Slot, ∃ t3 : Slot, forN (.one 3) (sSet 2 (cCall F_plus [cVar 2, cVar 3])) (wsD n w) [.dat (rowsP n P), .dat (.tuple (wsD n w)), .dat (enc 0), s3, .emp, .emp, .emp] f = .ok (.nx [.dat (rowsP n P), .dat (.tuple (wsD n w)), .dat (enc (rs n w)), t3, .emp, .emp, .emp]) f := fun s3 => by
    have : Ev (forN (.one 3) (sSet 2 (cCall F_plus [cVar 2, cVar 3])) (wsD n w) [.dat (rowsP n P), .dat (.tuple (wsD n w)), .dat (enc 0), s3, .emp, .emp, .emp] f) fun c g => g = f ∧ ∃ t3 : Slot, c = .nx [.dat (rowsP n P), .dat (.tuple (wsD n w)), .dat (enc (rs n w)), t3, .emp, .emp, .emp] := by
      refine ev_for (I := fun i ρ g => g = f ∧ ∃ t3 : Slot, ρ = [.dat (rowsP n P), .dat (.tuple (wsD n w)), .dat (enc (rs i w)), t3, .emp, .emp, .emp]) ⟨rfl, s3, rfl⟩ ?_ ?_
      · rintro i d ρ g hd ⟨rfl, t3, rfl⟩
        have hi : i < n := by
          have := (List.getElem?_eq_some_iff.mp hd).1
          rwa [wsD, List.length_map, List.length_range] at this
        have ed : d = enc (w i) := by
          unfold wsD at hd
          rw [List.getElem?_map, List.getElem?_range hi] at hd
          exact (Option.some.inj hd).symm
        subst ed
        refine ⟨_, rfl, ?_⟩
        have pl := plus_q (f := g) (s1 i (by omega)) (s5 i hi) (Nat.le_refl _)
        rw [← rs_succ] at pl
        simp [pl]
      · rintro ρ g ⟨rfl, t3, rfl⟩
        have : (wsD n w).length = n := by rw [wsD, List.length_map, List.length_range]
        rw [this]
        exact ⟨rfl, t3, rfl⟩
    obtain ⟨c, g, e, rfl, t3, rfl⟩ := this
    exact ⟨t3, e⟩
  have en0 : (enc 0 : PyData) = .tuple [.int 0, .int 1] := rfl
  have inner : ∀ k, k < n → ∀ s5 s6 : Slot, ∃ t5 t6 : Slot, forN (.many [5, 6]) (sSet 2 (cCall F_plus [cVar 2, cCall F_times [cBin oIx (cVar 1) (cVar 5), cBin oIx (cVar 6) (cVar 4)]])) ((List.range n).map fun j => .tuple [.int (j : Nat), rwP n P j]) [.dat (rowsP n P), .dat (.tuple (wsD n w)), .dat (enc 0), .dat (enc (w k)), .dat (.int (k : Nat)), s5, s6] f = .ok (.nx [.dat (rowsP n P), .dat (.tuple (wsD n w)), .dat (enc (stat n P w k)), .dat (enc (w k)), .dat (.int (k : Nat)), t5, t6]) f := fun k hk s5' s6' => by
    have : Ev (forN (.many [5, 6]) (sSet 2 (cCall F_plus [cVar 2, cCall F_times [cBin oIx (cVar 1) (cVar 5), cBin oIx (cVar 6) (cVar 4)]])) ((List.range n).map fun j => .tuple [.int (j : Nat), rwP n P j]) [.dat (rowsP n P), .dat (.tuple (wsD n w)), .dat (enc 0), .dat (enc (w k)), .dat (.int (k : Nat)), s5', s6'] f) fun c g => g = f ∧ ∃ t5 t6 : Slot, c = .nx [.dat (rowsP n P), .dat (.tuple (wsD n w)), .dat (enc (stat n P w k)), .dat (enc (w k)), .dat (.int (k : Nat)), t5, t6] := by
      refine ev_for (I := fun i ρ g => g = f ∧ ∃ t5 t6 : Slot, ρ = [.dat (rowsP n P), .dat (.tuple (wsD n w)), .dat (enc (rs i fun j => w j * P j k)), .dat (enc (w k)), .dat (.int (k : Nat)), t5, t6]) ⟨rfl, s5', s6', rfl⟩ ?_ ?_
      · rintro i d ρ g hd ⟨rfl, t5, t6, rfl⟩
        have hi : i < n := by
          have := (List.getElem?_eq_some_iff.mp hd).1
          rwa [List.length_map, List.length_range] at this
        have ed : d = .tuple [.int (i : Nat), rwP n P i] := by
          rw [List.getElem?_map, List.getElem?_range hi] at hd
          exact (Option.some.inj hd).symm
        subst ed
        refine ⟨_, put_two5, ?_⟩
        have tm := times_q (f := g) (s5 i hi) (s4 i k hi hk) (Nat.le_refl _)
        have pl := plus_q (f := g) (s2 k i hk (by omega)) (s3 i k hi hk) (Nat.le_refl _)
        have er := rs_succ (n := i) (g := fun j => w j * P j k)
        rw [← er] at pl
        have ix1 : oIx (.tuple (wsD n w)) (.int (i : Nat)) = some (.dat (enc (w i))) := by
          unfold wsD
          rw [e_ix_tuple, Dn.atI_nat, List.getElem?_map, List.getElem?_range hi]
          rfl
        have ix2 := ixC (P := P) (i := i) hk
        generalize rowsP n P = R at *
        generalize rwP n P i = r at *
        generalize PyData.tuple (wsD n w) = ws at *
        simp [ix1, ix2, tm, pl]
      · rintro ρ g ⟨rfl, t5, t6, rfl⟩
        rw [List.length_map, List.length_range]
        exact ⟨rfl, t5, t6, rfl⟩
    obtain ⟨c, g, e, rfl, t5, t6, rfl⟩ := this
    exact ⟨t5, t6, e⟩
  have sc := fun t3 => scanF (T := .many [4, 3]) (s := sSeq (sSet 2 (cC d_NOUGHT)) (sSeq (sFor (iEnum (cVar 0)) (.many [5, 6]) (sSet 2 (cCall F_plus [cVar 2, cCall F_times [cBin oIx (cVar 1) (cVar 5), cBin oIx (cVar 6) (cVar 4)]]))) (sIf (cT (cBin oNe (cVar 2) (cVar 3))) (sRaise "NoPaper" ["word", "place"] [cC (.str "weight"), cVar 4]) (sNext)))) (f := f) (enc := fun k => .tuple [.int (k : Nat), enc (w k)]) (statB n P w) (fun k => exR "weight" k f) (fun ρ => ∃ s2 s3 s4 s5 s6 : Slot, ρ = [.dat (rowsP n P), .dat (.tuple (wsD n w)), s2, s3, s4, s5, s6]) (fun k => .inr ⟨_, _, rfl⟩) (List.range n) [.dat (rowsP n P), .dat (.tuple (wsD n w)), .dat (enc (rs n w)), t3, .emp, .emp, .emp] ⟨_, _, _, _, _, rfl⟩ (by
    rintro k hk ρ ⟨u2, u3, u4, u5, u6, rfl⟩
    rw [List.mem_range] at hk
    obtain ⟨t5, t6, ei⟩ := inner k hk u5 u6
    have nn := ne_enc (x := stat n P w k) (y := w k)
    have sq : seqOf (rowsP n P) = some ((List.range n).map (rwP n P)) := rfl
    have pr := pairs_range (n := n) (g := rwP n P)
    have eS : statB n P w k = !decide (stat n P w k = w k) := rfl
    rw [← eS] at nn
    rw [en0] at ei
    generalize rowsP n P = R at *
    generalize PyData.tuple (wsD n w) = ws at *
    generalize enc (stat n P w k) = x at *
    generalize enc (w k) = y at *
    generalize (List.range n).map (rwP n P) = rr at *
    generalize ((List.range n).map fun j => PyData.tuple [.int (j : Nat), rwP n P j]) = rp at *
    refine ⟨_, put_two5, fun c => ?_, fun c => ?_⟩
    · rw [c] at nn
      simp [sq, pr, ei, nn, exR]
    · rw [c] at nn
      simp [sq, pr, ei, nn])
  obtain ⟨t3, e1⟩ := f1 .emp
  have sc := sc t3
  have sqw : seqOf (.tuple (wsD n w)) = some (wsD n w) := rfl
  have prw : pairsD (wsD n w) = (List.range n).map fun k => .tuple [.int (k : Nat), enc (w k)] := pairs_range
  have n1 := ne_enc (x := rs n w) (y := 1)
  have en1 : (enc 1 : PyData) = .tuple [.int 1, .int 1] := rfl
  rw [en1] at n1
  rw [en0] at e1
  unfold vW
  generalize rowsP n P = R at *
  generalize hW : wsD n w = ws at *
  generalize ((List.range n).map fun k => PyData.tuple [.int (k : Nat), enc (w k)]) = rp at *
  by_cases h1 : rs n w = 1
  · rw [if_pos h1]
    rw [decide_eq_true h1] at n1
    cases q : (List.range n).find? (statB n P w) with
    | some k =>
      have e2 := sc.1 k q
      generalize enc (rs n w) = x at *
      simp [sqw, e1, n1, prw, e2, telR, exR]
    | none =>
      obtain ⟨ρ2, e2, u2, u3, u4, u5, u6, rfl⟩ := sc.2 q
      generalize enc (rs n w) = x at *
      simp [sqw, e1, n1, prw, e2, telR]
  · rw [if_neg h1]
    rw [decide_eq_false h1] at n1
    generalize enc (rs n w) = x at *
    simp [sqw, e1, n1, telR, exR]
end
end Fp
namespace Fp
open PySem PySem.Spec L2 Dn
structure Chn (n : Nat) (P : Nat → Nat → Rat) : Prop where
  nn : ∀ i j, i < n → j < n → 0 ≤ P i j
  one : ∀ i, i < n → rs n (P i) = 1
/-- leads on, in some steps -/
inductive Led (n : Nat) (P : Nat → Nat → Rat) : Nat → Nat → Prop
  | refl (i : Nat) (h : i < n) : Led n P i i
  | step (i j k : Nat) (h1 : i < n) (h2 : P i j ≠ 0) (h3 : Led n P j k) : Led n P i k
theorem rs_nn {n : Nat} {g : Nat → Rat} (h : ∀ k, k < n → 0 ≤ g k) : 0 ≤ rs n g := by
  induction n with
  | zero => exact Rat.le_refl
  | succ n ih =>
    rw [rs_succ]
    have := ih fun k hk => h k (by omega)
    have := h n (by omega)
    grind
theorem rs_ge1 {n : Nat} {g : Nat → Rat} (h : ∀ k, k < n → 0 ≤ g k) : ∀ i, i < n → g i ≤ rs n g := by
  induction n with
  | zero => intro i hi; omega
  | succ n ih =>
    intro i hi
    rw [rs_succ]
    have a := rs_nn (n := n) (g := g) fun k hk => h k (by omega)
    have b := h n (by omega)
    rcases Nat.lt_or_eq_of_le (Nat.le_of_lt_succ hi) with hi | rfl
    · have := ih (fun k hk => h k (by omega)) i hi
      grind
    · grind
section
variable {n h : Nat} {P : Nat → Nat → Rat} {d w v : Nat → Rat}
theorem Led.lt2 : ∀ {i k : Nat}, Led n P i k → k < n
  | _, _, .refl i h => h
  | _, _, .step i j k h1 h2 h3 => h3.lt2
theorem Led.lt1 : ∀ {i k : Nat}, Led n P i k → i < n
  | _, _, .refl i h => h
  | _, _, .step i j k h1 h2 h3 => h1
theorem Led.trans : ∀ {i j k : Nat}, Led n P i j → Led n P j k → Led n P i k
  | _, _, _, .refl i h, q => q
  | _, _, _, .step i j k h1 h2 h3, q => .step i j _ h1 h2 (h3.trans q)
end
end Fp
namespace Fp
open PySem PySem.Spec L2 Dn
abbrev Brt := Nat → Nat → Rat
section
variable {m : Nat} {b : Brt}
end
end Fp
namespace Fp
open PySem PySem.Spec L2 Dn
/-- all ways to send each other kind on -/
def cntT (n : Nat) : Nat := [1, 1, 2, 9, 64].getD n 0
def othL (n h : Nat) : List Nat := (List.range n).filter fun k => !decide (k = h)
/-- where the kind is sent to, by the number of the way -/
def sentL (n : Nat) : List Nat → Nat → List (Nat × Nat)
  | [], _ => []
  | k :: r, m => (k, m % n) :: sentL n r (m / n)
def sentF (h : Nat) (s : List (Nat × Nat)) (k : Nat) : Nat := ((s.find? fun p => decide (p.1 = k)).map (·.2)).getD h
def iterN (g : Nat → Nat) : Nat → Nat → Nat
  | 0, k => k
  | r + 1, k => iterN g r (g k)
def goodT (n h m : Nat) : Bool := (othL n h).all fun k => decide (iterN (sentF h (sentL n (othL n h) m)) n k = h)
def prodT (P : Nat → Nat → Rat) : Rat → List (Nat × Nat) → Rat
  | c, [] => c
  | c, p :: r => prodT P (c * P p.1 p.2) r
def tw (n : Nat) (P : Nat → Nat → Rat) (h : Nat) : Rat := rs (cntT n) fun m => if goodT n h m = true then prodT P 1 (sentL n (othL n h) m) else 0
theorem rs_filt {N : Nat} {p : Nat → Bool} {g : Nat → Rat} : (rs N fun m => if p m = true then g m else 0) = (((List.range N).filter p).map g).sum := by
  unfold rs
  generalize List.range N = l
  induction l with
  | nil => rfl
  | cons a l ih =>
    rw [List.map_cons, List.sum_cons, ih]
    by_cases h : p a = true
    · rw [List.filter_cons_of_pos h, List.map_cons, List.sum_cons, if_pos h]
    · rw [List.filter_cons_of_neg h, if_neg h]
      grind
section
variable {P : Nat → Nat → Rat}
theorem tw_1_0 : tw 1 P 0 = 1 := by
  have e : (List.range (cntT 1)).filter (goodT 1 0) = [0] := by decide +kernel
  unfold tw
  rw [rs_filt, e]
  simp only [List.map_cons, List.map_nil, List.sum_cons, List.sum_nil]
  have e2 : othL 1 0 = [] := by decide +kernel
  rw [e2]
  simp [sentL, prodT, Rat.add_zero]
theorem tw_2_0 : tw 2 P 0 = P 1 0 := by
  have e : (List.range (cntT 2)).filter (goodT 2 0) = [0] := by decide +kernel
  unfold tw
  rw [rs_filt, e]
  simp only [List.map_cons, List.map_nil, List.sum_cons, List.sum_nil]
  have e2 : othL 2 0 = [1] := by decide +kernel
  rw [e2]
  simp [sentL, prodT, Rat.add_zero]
theorem tw_2_1 : tw 2 P 1 = P 0 1 := by
  have e : (List.range (cntT 2)).filter (goodT 2 1) = [1] := by decide +kernel
  unfold tw
  rw [rs_filt, e]
  simp only [List.map_cons, List.map_nil, List.sum_cons, List.sum_nil]
  have e2 : othL 2 1 = [0] := by decide +kernel
  rw [e2]
  simp [sentL, prodT, Rat.add_zero]
theorem tw_3_0 : tw 3 P 0 = P 1 0 * P 2 0 + P 1 2 * P 2 0 + P 1 0 * P 2 1 := by
  have e : (List.range (cntT 3)).filter (goodT 3 0) = [0, 2, 3] := by decide +kernel
  unfold tw
  rw [rs_filt, e]
  simp only [List.map_cons, List.map_nil, List.sum_cons, List.sum_nil]
  have e2 : othL 3 0 = [1, 2] := by decide +kernel
  rw [e2]
  simp [sentL, prodT, Rat.add_zero, Rat.add_assoc]
theorem tw_3_1 : tw 3 P 1 = P 0 1 * P 2 0 + P 0 1 * P 2 1 + P 0 2 * P 2 1 := by
  have e : (List.range (cntT 3)).filter (goodT 3 1) = [1, 4, 5] := by decide +kernel
  unfold tw
  rw [rs_filt, e]
  simp only [List.map_cons, List.map_nil, List.sum_cons, List.sum_nil]
  have e2 : othL 3 1 = [0, 2] := by decide +kernel
  rw [e2]
  simp [sentL, prodT, Rat.add_zero, Rat.add_assoc]
theorem tw_3_2 : tw 3 P 2 = P 0 2 * P 1 0 + P 0 1 * P 1 2 + P 0 2 * P 1 2 := by
  have e : (List.range (cntT 3)).filter (goodT 3 2) = [2, 7, 8] := by decide +kernel
  unfold tw
  rw [rs_filt, e]
  simp only [List.map_cons, List.map_nil, List.sum_cons, List.sum_nil]
  have e2 : othL 3 2 = [0, 1] := by decide +kernel
  rw [e2]
  simp [sentL, prodT, Rat.add_zero, Rat.add_assoc]
theorem tw_4_0 : tw 4 P 0 = P 1 0 * P 2 0 * P 3 0 + P 1 2 * P 2 0 * P 3 0 + P 1 3 * P 2 0 * P 3 0 + P 1 0 * P 2 1 * P 3 0 + P 1 3 * P 2 1 * P 3 0 + P 1 0 * P 2 3 * P 3 0 + P 1 2 * P 2 3 * P 3 0 + P 1 3 * P 2 3 * P 3 0 + P 1 0 * P 2 0 * P 3 1 + P 1 2 * P 2 0 * P 3 1 + P 1 0 * P 2 1 * P 3 1 + P 1 0 * P 2 3 * P 3 1 + P 1 0 * P 2 0 * P 3 2 + P 1 2 * P 2 0 * P 3 2 + P 1 3 * P 2 0 * P 3 2 + P 1 0 * P 2 1 * P 3 2 := by
  have e : (List.range (cntT 4)).filter (goodT 4 0) = [0, 2, 3, 4, 7, 12, 14, 15, 16, 18, 20, 28, 32, 34, 35, 36] := by decide +kernel
  unfold tw
  rw [rs_filt, e]
  simp only [List.map_cons, List.map_nil, List.sum_cons, List.sum_nil]
  have e2 : othL 4 0 = [1, 2, 3] := by decide +kernel
  rw [e2]
  simp [sentL, prodT, Rat.add_zero, Rat.add_assoc]
theorem tw_4_1 : tw 4 P 1 = P 0 1 * P 2 0 * P 3 0 + P 0 1 * P 2 1 * P 3 0 + P 0 2 * P 2 1 * P 3 0 + P 0 1 * P 2 3 * P 3 0 + P 0 1 * P 2 0 * P 3 1 + P 0 3 * P 2 0 * P 3 1 + P 0 1 * P 2 1 * P 3 1 + P 0 2 * P 2 1 * P 3 1 + P 0 3 * P 2 1 * P 3 1 + P 0 1 * P 2 3 * P 3 1 + P 0 2 * P 2 3 * P 3 1 + P 0 3 * P 2 3 * P 3 1 + P 0 1 * P 2 0 * P 3 2 + P 0 1 * P 2 1 * P 3 2 + P 0 2 * P 2 1 * P 3 2 + P 0 3 * P 2 1 * P 3 2 := by
  have e : (List.range (cntT 4)).filter (goodT 4 1) = [1, 5, 6, 13, 17, 19, 21, 22, 23, 29, 30, 31, 33, 37, 38, 39] := by decide +kernel
  unfold tw
  rw [rs_filt, e]
  simp only [List.map_cons, List.map_nil, List.sum_cons, List.sum_nil]
  have e2 : othL 4 1 = [0, 2, 3] := by decide +kernel
  rw [e2]
  simp [sentL, prodT, Rat.add_zero, Rat.add_assoc]
theorem tw_4_2 : tw 4 P 2 = P 0 2 * P 1 0 * P 3 0 + P 0 1 * P 1 2 * P 3 0 + P 0 2 * P 1 2 * P 3 0 + P 0 2 * P 1 3 * P 3 0 + P 0 2 * P 1 0 * P 3 1 + P 0 1 * P 1 2 * P 3 1 + P 0 2 * P 1 2 * P 3 1 + P 0 3 * P 1 2 * P 3 1 + P 0 2 * P 1 0 * P 3 2 + P 0 3 * P 1 0 * P 3 2 + P 0 1 * P 1 2 * P 3 2 + P 0 2 * P 1 2 * P 3 2 + P 0 3 * P 1 2 * P 3 2 + P 0 1 * P 1 3 * P 3 2 + P 0 2 * P 1 3 * P 3 2 + P 0 3 * P 1 3 * P 3 2 := by
  have e : (List.range (cntT 4)).filter (goodT 4 2) = [2, 9, 10, 14, 18, 25, 26, 27, 34, 35, 41, 42, 43, 45, 46, 47] := by decide +kernel
  unfold tw
  rw [rs_filt, e]
  simp only [List.map_cons, List.map_nil, List.sum_cons, List.sum_nil]
  have e2 : othL 4 2 = [0, 1, 3] := by decide +kernel
  rw [e2]
  simp [sentL, prodT, Rat.add_zero, Rat.add_assoc]
theorem tw_4_3 : tw 4 P 3 = P 0 3 * P 1 0 * P 2 0 + P 0 3 * P 1 2 * P 2 0 + P 0 1 * P 1 3 * P 2 0 + P 0 3 * P 1 3 * P 2 0 + P 0 3 * P 1 0 * P 2 1 + P 0 1 * P 1 3 * P 2 1 + P 0 2 * P 1 3 * P 2 1 + P 0 3 * P 1 3 * P 2 1 + P 0 2 * P 1 0 * P 2 3 + P 0 3 * P 1 0 * P 2 3 + P 0 1 * P 1 2 * P 2 3 + P 0 2 * P 1 2 * P 2 3 + P 0 3 * P 1 2 * P 2 3 + P 0 1 * P 1 3 * P 2 3 + P 0 2 * P 1 3 * P 2 3 + P 0 3 * P 1 3 * P 2 3 := by
  have e : (List.range (cntT 4)).filter (goodT 4 3) = [3, 11, 13, 15, 19, 29, 30, 31, 50, 51, 57, 58, 59, 61, 62, 63] := by decide +kernel
  unfold tw
  rw [rs_filt, e]
  simp only [List.map_cons, List.map_nil, List.sum_cons, List.sum_nil]
  have e2 : othL 4 3 = [0, 1, 2] := by decide +kernel
  rw [e2]
  simp [sentL, prodT, Rat.add_zero, Rat.add_assoc]
theorem rs_1' {g : Nat → Rat} : rs 1 g = g 0 := by rw [rs_succ, rs_zero]; grind
theorem rs_2' {g : Nat → Rat} : rs 2 g = g 0 + g 1 := by rw [rs_succ, rs_1']
theorem rs_3' {g : Nat → Rat} : rs 3 g = g 0 + g 1 + g 2 := by rw [rs_succ, rs_2']
theorem rs_4' {g : Nat → Rat} : rs 4 g = g 0 + g 1 + g 2 + g 3 := by rw [rs_succ, rs_3']
theorem st_1_0 (h0 : rs 1 (P 0) = 1) : stat 1 P (tw 1 P) 0 = tw 1 P 0 := by
  unfold stat
  rw [rs_1'] at *
  rw [tw_1_0]
  have e : P 0 0 = 1 - (0) := by grind
  rw [e]
  grind
theorem st_2_0 (h0 : rs 2 (P 0) = 1) : stat 2 P (tw 2 P) 0 = tw 2 P 0 := by
  unfold stat
  rw [rs_2'] at *
  rw [tw_2_0, tw_2_1]
  have e : P 0 0 = 1 - (P 0 1) := by grind
  rw [e]
  grind
theorem st_2_1 (h1 : rs 2 (P 1) = 1) : stat 2 P (tw 2 P) 1 = tw 2 P 1 := by
  unfold stat
  rw [rs_2'] at *
  rw [tw_2_0, tw_2_1]
  have e : P 1 1 = 1 - (P 1 0) := by grind
  rw [e]
  grind
theorem st_3_0 (h0 : rs 3 (P 0) = 1) : stat 3 P (tw 3 P) 0 = tw 3 P 0 := by
  unfold stat
  rw [rs_3'] at *
  rw [tw_3_0, tw_3_1, tw_3_2]
  have e : P 0 0 = 1 - (P 0 1 + P 0 2) := by grind
  rw [e]
  grind
theorem st_3_1 (h1 : rs 3 (P 1) = 1) : stat 3 P (tw 3 P) 1 = tw 3 P 1 := by
  unfold stat
  rw [rs_3'] at *
  rw [tw_3_0, tw_3_1, tw_3_2]
  have e : P 1 1 = 1 - (P 1 0 + P 1 2) := by grind
  rw [e]
  grind
theorem st_3_2 (h2 : rs 3 (P 2) = 1) : stat 3 P (tw 3 P) 2 = tw 3 P 2 := by
  unfold stat
  rw [rs_3'] at *
  rw [tw_3_0, tw_3_1, tw_3_2]
  have e : P 2 2 = 1 - (P 2 0 + P 2 1) := by grind
  rw [e]
  grind
theorem st_4_0 (h0 : rs 4 (P 0) = 1) : stat 4 P (tw 4 P) 0 = tw 4 P 0 := by
  unfold stat
  rw [rs_4'] at *
  rw [tw_4_0, tw_4_1, tw_4_2, tw_4_3]
  have e : P 0 0 = 1 - (P 0 1 + P 0 2 + P 0 3) := by grind
  rw [e]
  grind
theorem st_4_1 (h1 : rs 4 (P 1) = 1) : stat 4 P (tw 4 P) 1 = tw 4 P 1 := by
  unfold stat
  rw [rs_4'] at *
  rw [tw_4_0, tw_4_1, tw_4_2, tw_4_3]
  have e : P 1 1 = 1 - (P 1 0 + P 1 2 + P 1 3) := by grind
  rw [e]
  grind
theorem st_4_2 (h2 : rs 4 (P 2) = 1) : stat 4 P (tw 4 P) 2 = tw 4 P 2 := by
  unfold stat
  rw [rs_4'] at *
  rw [tw_4_0, tw_4_1, tw_4_2, tw_4_3]
  have e : P 2 2 = 1 - (P 2 0 + P 2 1 + P 2 3) := by grind
  rw [e]
  grind
theorem st_4_3 (h3 : rs 4 (P 3) = 1) : stat 4 P (tw 4 P) 3 = tw 4 P 3 := by
  unfold stat
  rw [rs_4'] at *
  rw [tw_4_0, tw_4_1, tw_4_2, tw_4_3]
  have e : P 3 3 = 1 - (P 3 0 + P 3 1 + P 3 2) := by grind
  rw [e]
  grind
theorem stat_tw {n : Nat} (n1 : 1 ≤ n) (n4 : n ≤ 4) (c : Chn n P) : ∀ k, k < n → stat n P (tw n P) k = tw n P k := by
  intro k hk
  match n, n1, n4, c with
  | 1, _, _, c => match k, hk with
    | 0, _ => exact st_1_0 (c.one 0 (by decide))
  | 2, _, _, c => match k, hk with
    | 0, _ => exact st_2_0 (c.one 0 (by decide))
    | 1, _ => exact st_2_1 (c.one 1 (by decide))
  | 3, _, _, c => match k, hk with
    | 0, _ => exact st_3_0 (c.one 0 (by decide))
    | 1, _ => exact st_3_1 (c.one 1 (by decide))
    | 2, _ => exact st_3_2 (c.one 2 (by decide))
  | 4, _, _, c => match k, hk with
    | 0, _ => exact st_4_0 (c.one 0 (by decide))
    | 1, _ => exact st_4_1 (c.one 1 (by decide))
    | 2, _ => exact st_4_2 (c.one 2 (by decide))
    | 3, _ => exact st_4_3 (c.one 3 (by decide))
end
end Fp
namespace Fp
open PySem PySem.Spec L2 Dn
def prD (p : Nat × Nat) : PyData := .tuple [.int (p.1 : Nat), .int (p.2 : Nat)]
/-- the first way amiss -/
def wayV (P : Nat → Nat → Rat) : List Nat → List (Nat × Nat) → Nat → Option Nat
  | _, [], _ => none
  | led, (a, b) :: r, i => if (decide (a ∈ led) || (decide (P a b = 0) || !decide (b ∈ led))) = true then some i else wayV P (led ++ [a]) r (i + 1)
/-- the first thing amiss in ways -/
def vY (n : Nat) (P : Nat → Nat → Rat) (h : Nat) (ps : List (Nat × Nat)) : Option (Str × Nat) := match wayV P [h] ps 0 with
  | some i => some ("way", i)
  | none => ((List.range n).find? fun k => !decide (k ∈ h :: ps.map (·.1))).map fun k => ("lacks", k)
/-- the first thing amiss in a share paper -/
def vS (n : Nat) (P : Nat → Nat → Rat) (h : Nat) (w : Nat → Rat) (ps : List (Nat × Nat)) : Option (Str × Nat) := match vW n P w with
  | some v => some v
  | none => vY n P h ps
section
variable {n h : Nat} {P : Nat → Nat → Rat} {w : Nat → Rat} {ps : List (Nat × Nat)} {f : Feed}
theorem ways_loop (hn : n ≤ 4) {d1 d2 : PyData} : ∀ (ps : List (Nat × Nat)) (led : List Nat) (i : Nat) (s4 s5 s6 s7 : Slot), (∀ p ∈ ps, p.1 < n ∧ p.2 < n) → led.length + ps.length ≤ 100 →
    (∀ j, wayV P led ps i = some j → forN (.many [4, 5]) (sSeq (sAsg (.many [6, 7]) (cVar 5)) (sSeq (sIf (tOrX (cT (cBin (oInF false) (cVar 6) (cVar 3))) (tOrX (tNotX (cT (cCall F_is_led_to [cVar 0, cVar 6, cVar 7]))) (cT (cBin (oInF true) (cVar 7) (cVar 3))))) (sRaise "NoPaper" ["word", "place"] [cC (.str "way"), cVar 4]) (sNext)) (sApp 3 (cVar 6)))) (ps.mapIdx fun m p => .tuple [.int ((i + m : Nat) : Int), prD p]) [.dat (rowsP n P), .dat d1, .dat d2, .own (natsD led), s4, s5, s6, s7] f = exR "way" j f) ∧
    (wayV P led ps i = none → ∃ t4 t5 t6 t7 : Slot, forN (.many [4, 5]) (sSeq (sAsg (.many [6, 7]) (cVar 5)) (sSeq (sIf (tOrX (cT (cBin (oInF false) (cVar 6) (cVar 3))) (tOrX (tNotX (cT (cCall F_is_led_to [cVar 0, cVar 6, cVar 7]))) (cT (cBin (oInF true) (cVar 7) (cVar 3))))) (sRaise "NoPaper" ["word", "place"] [cC (.str "way"), cVar 4]) (sNext)) (sApp 3 (cVar 6)))) (ps.mapIdx fun m p => .tuple [.int ((i + m : Nat) : Int), prD p]) [.dat (rowsP n P), .dat d1, .dat d2, .own (natsD led), s4, s5, s6, s7] f = .ok (.nx [.dat (rowsP n P), .dat d1, .dat d2, .own (natsD (led ++ ps.map (·.1))), t4, t5, t6, t7]) f)
  | [], led, i, s4, s5, s6, s7, _, _ => ⟨fun j q => by simp [wayV] at q, fun _ => ⟨s4, s5, s6, s7, by simp [forN]⟩⟩
  | (a, b) :: r, led, i, s4, s5, s6, s7, hp, hl => by
    obtain ⟨ha, hb⟩ := hp (a, b) List.mem_cons_self
    rw [List.length_cons] at hl
    have e1 : ((a, b) :: r).mapIdx (fun m p => PyData.tuple [.int ((i + m : Nat) : Int), prD p]) = .tuple [.int (i : Nat), prD (a, b)] :: r.mapIdx fun m p => .tuple [.int ((i + 1 + m : Nat) : Int), prD p] := by
      rw [List.mapIdx_cons]
      congr 1
      congr 1
      funext m p
      rw [show i + (m + 1) = i + 1 + m by omega]
    rw [e1]
    have ih := ways_loop hn (d1 := d1) (d2 := d2) r (led ++ [a]) (i + 1) (.dat (.int (i : Nat))) (.dat (prD (a, b))) (.dat (.int (a : Nat))) (.dat (.int (b : Nat))) (fun p hp2 => hp p (List.mem_cons_of_mem _ hp2)) (by rw [List.length_append, List.length_singleton]; omega)
    have lq := led_q (P := P) (f := f) ha hb
    have i1 := inNs (neg := false) (a := a) (A := led)
    have i2 := inNs (neg := true) (a := b) (A := led)
    rw [Bool.false_xor] at i1
    rw [Bool.true_xor] at i2
    have pp : ∀ (R : PyData) (own : Slot), Tgt.put (.many [6, 7]) (prD (a, b)) [.dat R, .dat d1, .dat d2, own, .dat (.int (i : Nat)), .dat (prD (a, b)), s6, s7] = some [.dat R, .dat d1, .dat d2, own, .dat (.int (i : Nat)), .dat (prD (a, b)), .dat (.int (a : Nat)), .dat (.int (b : Nat))] := fun _ _ => rfl
    have ap : natsD led ++ [.int (a : Nat)] = natsD (led ++ [a]) := by
      unfold natsD
      rw [List.map_append]
      rfl
    have ll : (natsD led).length < 100000 := by
      unfold natsD
      rw [List.length_map]
      omega
    have le : led ++ ((a, b) :: r).map (·.1) = led ++ [a] ++ r.map (·.1) := by simp
    rw [le]
    generalize (r.mapIdx fun m p => PyData.tuple [.int ((i + 1 + m : Nat) : Int), prD p]) = rest at *
    unfold wayV
    have p0 : ∀ (R : PyData) (own : Slot), Tgt.put (.many [4, 5]) (.tuple [.int (i : Nat), prD (a, b)]) [.dat R, .dat d1, .dat d2, own, s4, s5, s6, s7] = some [.dat R, .dat d1, .dat d2, own, .dat (.int (i : Nat)), .dat (prD (a, b)), s6, s7] := fun _ _ => rfl
    generalize natsD (led ++ [a]) = L2 at *
    generalize natsD led = L1 at *
    generalize rowsP n P = R at *
    generalize prD (a, b) = pd at *
    rw [forN, p0]
    cases c1 : decide (a ∈ led) with
    | true =>
      rw [c1] at i1
      refine ⟨fun j q => ?_, fun q => by simp at q⟩
      simp at q
      subst q
      simp [pp, i1, exR]
    | false =>
      rw [c1] at i1
      cases c2 : decide (P a b = 0) with
      | true =>
        rw [c2] at lq
        refine ⟨fun j q => ?_, fun q => by simp at q⟩
        simp at q
        subst q
        simp [pp, i1, lq, exR]
      | false =>
        rw [c2] at lq
        cases c3 : decide (b ∈ led) with
        | false =>
          rw [c3] at i2
          refine ⟨fun j q => ?_, fun q => by simp at q⟩
          simp at q
          subst q
          simp [pp, i1, lq, i2, exR]
        | true =>
          rw [c3] at i2
          simp [pp, i1, lq, i2, ll, ap]
          refine ⟨ih.1, fun q => ?_⟩
          have := ih.2 q
          rw [List.append_assoc] at this
          exact this
theorem look_ways_q (hn : n ≤ 4) (hh : h < n) (hp : ∀ p ∈ ps, p.1 < n ∧ p.2 < n) (hl : ps.length ≤ 3) : F_look_at_ways_X [.dat (rowsP n P), .dat (.int (h : Nat)), .dat (.tuple (ps.map prD))] f = telR (vY n P h ps) .none f := by
  rw [u_look_at_ways_X]
  unfold S_look_at_ways_X
  have wl := ways_loop (P := P) (f := f) hn (d1 := .int (h : Nat)) (d2 := .tuple (ps.map prD)) ps [h] 0 .emp .emp .emp .emp hp (by rw [List.length_singleton]; omega)
  have e1 : ps.mapIdx (fun m p => PyData.tuple [.int ((0 + m : Nat) : Int), prD p]) = pairsD (ps.map prD) := by
    unfold pairsD
    apply List.ext_getElem?
    intro m
    rw [List.getElem?_mapIdx, List.getElem?_mapIdx, List.getElem?_map]
    cases ps[m]? with
    | none => rfl
    | some p => simp
  rw [e1] at wl
  have sq : seqOf (.tuple (ps.map prD)) = some (ps.map prD) := rfl
  have n1 : [PyData.int (h : Nat)] = natsD [h] := rfl
  have lL0 : (natsD [h]).length ≤ 100000 := by
    show 1 ≤ 100000
    decide
  have e0 := lenR (n := n) (P := P)
  have sc := fun t4 t5 t6 t7 => scanF (T := .one 6) (s := sIf (cT (cBin (oInF true) (cVar 6) (cVar 3))) (sRaise "NoPaper" ["word", "place"] [cC (.str "lacks"), cVar 6]) (sNext)) (f := f) (enc := nD) (fun k => !decide (k ∈ h :: ps.map (·.1))) (fun k => exR "lacks" k f) (fun ρ => ∃ t6 : Slot, ρ = [.dat (rowsP n P), .dat (.int (h : Nat)), .dat (.tuple (ps.map prD)), .dat (.list (natsD ([h] ++ ps.map (·.1)))), t4, t5, t6, t7]) (fun k => .inr ⟨_, _, rfl⟩) (List.range n) [.dat (rowsP n P), .dat (.int (h : Nat)), .dat (.tuple (ps.map prD)), .dat (.list (natsD ([h] ++ ps.map (·.1)))), t4, t5, t6, t7] ⟨_, rfl⟩ (by
    rintro k hk ρ ⟨u6, rfl⟩
    have i2 := inNs (neg := true) (a := k) (A := [h] ++ ps.map (·.1))
    rw [Bool.true_xor] at i2
    have e9 : ([h] ++ ps.map (·.1)) = h :: ps.map (·.1) := rfl
    rw [e9] at i2 ⊢
    generalize rowsP n P = R at *
    generalize natsD (h :: ps.map (·.1)) = L at *
    refine ⟨_, rfl, fun c => ?_, fun c => ?_⟩
    · rw [c] at i2
      simp [i2, exR]
    · rw [c] at i2
      simp [i2])
  have rg : rangeD 0 n = (List.range n).map nD := by
    unfold rangeD
    refine List.map_congr_left fun i _ => ?_
    rw [Int.zero_add]
  unfold vY
  generalize ps.map prD = PD at *
  generalize rowsP n P = R at *
  generalize natsD ([h] ++ ps.map (·.1)) = L at *
  generalize natsD [h] = L0 at *
  cases q : wayV P [h] ps 0 with
  | some j =>
    have := wl.1 j q
    simp [sq, n1, lL0, this, telR, exR]
  | none =>
    obtain ⟨t4, t5, t6, t7, e2⟩ := wl.2 q
    have sc := sc t4 t5 t6 t7
    simp only
    cases q2 : (List.range n).find? (fun k => !decide (k ∈ h :: ps.map (·.1))) with
    | some k =>
      have e3 := sc.1 k q2
      simp [sq, n1, lL0, e2, e0, smallI_ok (n := (n : Int)) (by omega) (by omega), rg, e3, telR, exR]
    | none =>
      obtain ⟨ρ2, e3, u6, rfl⟩ := sc.2 q2
      simp [sq, n1, lL0, e2, e0, smallI_ok (n := (n : Int)) (by omega) (by omega), rg, e3, telR]
theorem dec_ps {n : Nat} {ys : List PyData} (h : ys.all (prB n) = true) : ∃ ps : List (Nat × Nat), ys = ps.map prD ∧ ∀ p ∈ ps, p.1 < n ∧ p.2 < n := by
  have go : ∀ ys : List PyData, (∀ y ∈ ys, prB n y = true) → ∃ ps : List (Nat × Nat), ys = ps.map prD ∧ ∀ p ∈ ps, p.1 < n ∧ p.2 < n := by
    intro ys
    induction ys with
    | nil => exact fun _ => ⟨[], rfl, fun p hp => absurd hp List.not_mem_nil⟩
    | cons y ys ih =>
      intro h
      obtain ⟨ps, rfl, hps⟩ := ih fun z hz => h z (List.mem_cons_of_mem _ hz)
      have hy := h y List.mem_cons_self
      unfold prB at hy
      split at hy
      · rename_i a b
        rw [Bool.and_eq_true] at hy
        obtain ⟨A, eA, hA⟩ := places_are (n := n) (xs := [a, b]) (by simp [hy.1, hy.2])
        match A, eA, hA with
        | [x, z], eA, hA =>
          simp at eA
          obtain ⟨rfl, rfl⟩ := eA
          refine ⟨(x, z) :: ps, rfl, fun p hp => ?_⟩
          rcases List.mem_cons.mp hp with rfl | hp
          · exact ⟨hA _ (by simp), hA _ (by simp)⟩
          · exact hps p hp
      · cases hy
  exact go ys (List.all_eq_true.mp h)
theorem dec_ws {n : Nat} {xs : List PyData} (hl : xs.length = n) (h : xs.all isr = true) : ∃ w : Nat → Rat, xs = wsD n w := by
  refine ⟨fun i => ratC (xs.getD i .none), ?_⟩
  apply List.ext_getElem?
  intro i
  unfold wsD
  by_cases hi : i < n
  · rw [List.getElem?_map, List.getElem?_range hi]
    have e : xs[i]? = some (xs[i]'(by omega)) := List.getElem?_eq_getElem (by omega)
    have m := List.all_eq_true.mp h _ (List.getElem_mem (by omega : i < xs.length))
    have e2 := isr_enc m
    rw [e]
    show some _ = some (enc (ratC (xs.getD i .none)))
    rw [List.getD_eq_getElem?_getD, e]
    exact congrArg some e2
  · rw [List.getElem?_eq_none (by omega), List.getElem?_eq_none (by rw [List.length_map, List.length_range]; omega)]
def shareD (n h : Nat) (w : Nat → Rat) (ps : List (Nat × Nat)) : PyData := .tuple [.str (Str.ofString "share"), .int (h : Nat), .tuple (wsD n w), .tuple (ps.map prD)]
def apartD (A B : List Nat) : PyData := .tuple [.str (Str.ofString "apart"), .tuple (natsD A), .tuple (natsD B)]
theorem shB_is {n : Nat} {d : PyData} (hd : shB n d = true) : ∃ h w ps, d = shareD n h w ps ∧ h < n ∧ (∀ p ∈ ps, p.1 < n ∧ p.2 < n) ∧ ps.length ≤ 3 := by
  unfold shB at hd
  split at hd
  · rename_i s h x y
    simp only [Bool.and_eq_true, decide_eq_true_eq] at hd
    obtain ⟨rfl, h1, h2, h3⟩ := hd
    obtain ⟨A, eA, hA⟩ := places_are (n := n) (xs := [h]) (by simp [h1])
    match A, eA, hA with
    | [a], eA, hA =>
      simp at eA
      subst eA
      cases x with
      | tuple xs =>
        have h2 : (decide (xs.length = n) && xs.all isr) = true := h2
        rw [Bool.and_eq_true, decide_eq_true_eq] at h2
        obtain ⟨w, rfl⟩ := dec_ws h2.1 h2.2
        cases y with
        | tuple ys =>
          have h3 : (decide (ys.length ≤ 3) && ys.all (prB n)) = true := h3
          rw [Bool.and_eq_true, decide_eq_true_eq] at h3
          obtain ⟨ps, rfl, hps⟩ := dec_ps h3.2
          exact ⟨a, w, ps, rfl, hA a (by simp), hps, by simpa using h3.1⟩
        | _ => cases h3
      | _ => cases h2
  · cases hd
theorem riB_is {n : Nat} {d : PyData} (hd : riB n d = true) : ∃ A : List Nat, d = .tuple (natsD A) ∧ A ≠ [] ∧ (∀ a ∈ A, a < n) ∧ A.Pairwise (· < ·) := by
  unfold riB at hd
  split at hd
  · rename_i xs
    simp only [Bool.and_eq_true] at hd
    obtain ⟨h1, h2, h3⟩ := hd
    obtain ⟨A, rfl, hA⟩ := places_are h2
    refine ⟨A, rfl, fun q => ?_, hA, ?_⟩
    · rw [q] at h1
      cases h1
    · have em : A.map (fun (a : Nat) => PyData.int a) = (A.map fun (a : Nat) => (a : Int)).map .int := by rw [List.map_map]; rfl
      rw [em, risD_ints, risI_pw] at h3
      have := List.pairwise_map.mp h3
      exact this.imp fun h => by omega
  · cases hd
theorem apB_is {n : Nat} {d : PyData} (hd : apB n d = true) : ∃ A B : List Nat, d = apartD A B ∧ A ≠ [] ∧ B ≠ [] ∧ (∀ a ∈ A, a < n) ∧ (∀ a ∈ B, a < n) ∧ A.Pairwise (· < ·) ∧ B.Pairwise (· < ·) := by
  unfold apB at hd
  split at hd
  · rename_i s a b
    simp only [Bool.and_eq_true, decide_eq_true_eq] at hd
    obtain ⟨rfl, h1, h2⟩ := hd
    obtain ⟨A, rfl, a1, a2, a3⟩ := riB_is h1
    obtain ⟨B, rfl, b1, b2, b3⟩ := riB_is h2
    exact ⟨A, B, rfl, a1, b1, a2, b2, a3, b3⟩
  · cases hd
end
end Fp
namespace Fp
open PySem PySem.Spec L2 Dn
/-- the chance that kind j comes behind kind i -/
def pk (ks : List (List Tri)) (i j : Nat) : Rat := cp (ks.getD i []) (pN j)
theorem rowsD_P (ks : List (List Tri)) : rowsD ks = rowsP ks.length (pk ks) := by
  unfold rowsD rowsP
  congr 1
  apply List.ext_getElem?
  intro i
  by_cases hi : i < ks.length
  · rw [List.getElem?_map, List.getElem?_map, List.getElem?_range hi, List.getElem?_eq_getElem hi]
    show some (PyData.tuple (rowN ks.length ks[i])) = some (rwP ks.length (pk ks) i)
    congr 1
    unfold rwP rowN pk
    rw [List.getD_eq_getElem?_getD, List.getElem?_eq_getElem hi]
    rfl
  · rw [List.getElem?_eq_none (by rw [List.length_map]; omega), List.getElem?_eq_none (by rw [List.length_map, List.length_range]; omega)]
theorem KsOk.P {W : Nat} {ks : List (List Tri)} (h : KsOk W ks) : ∀ i j, i < ks.length → j < ks.length → Wh W (pk ks i j) ∧ 0 ≤ pk ks i j ∧ pk ks i j ≤ 1 := fun i j hi hj => by
  have hm : ks.getD i [] ∈ ks := by
    rw [List.getD_eq_getElem?_getD, List.getElem?_eq_getElem hi]
    exact List.getElem_mem hi
  exact (h.ok _ hm).cp (pN j)
def resR (word : Str) : Option (Str × Nat) → RV
  | none => .own [.str word]
  | some (w, k) => .dat (.tuple [.str w, .int (k : Nat)])
def resD (word : Str) : Option (Str × Nat) → PyData
  | none => .list [.str word]
  | some (w, k) => .tuple [.str w, .int (k : Nat)]
section
variable {W n h e b k : Nat} {ks : List (List Tri)} {P : Nat → Nat → Rat} {w : Nat → Rat} {ps : List (Nat × Nat)} {A B : List Nat} {d : PyData} {f : Feed}
theorem lenK : oLen (kindsD ks) = some (.dat (.int (ks.length : Nat))) := by
  unfold kindsD
  simp
theorem lets_S (hk : KsOk W ks) (hW : W ≤ 2 ^ 31) (hd : Th e b k (shareD ks.length h w ps)) (hb : b ≤ 90000) (hs : shB ks.length (shareD ks.length h w ps) = true) (rw' : RW ks.length (pk ks) w) (hh : h < ks.length) (hp : ∀ p ∈ ps, p.1 < ks.length ∧ p.2 < ks.length) (hl : ps.length ≤ 3) :
    F_lets_share_X [.dat (kindsD ks), .dat (shareD ks.length h w ps)] f = telR (vS ks.length (pk ks) h w ps) (.str "share") f := by
  have ch := chain_q (f := f) hk hW
  have sh := is_share_any (n := ks.length) (f := f) hd hb
  rw [hs] at sh
  have lk := lenK (ks := ks)
  have lw := look_weights_q (f := f) rw'
  have ly := look_ways_q (P := pk ks) (f := f) hk.n4 hh hp hl
  rw [rowsD_P] at ch
  have i1 : oIx (shareD ks.length h w ps) (.int 1) = some (.dat (.int (h : Nat))) := rfl
  have i2 : oIx (shareD ks.length h w ps) (.int 2) = some (.dat (.tuple (wsD ks.length w))) := rfl
  have i3 : oIx (shareD ks.length h w ps) (.int 3) = some (.dat (.tuple (ps.map prD))) := rfl
  rw [u_lets_share_X]
  unfold S_lets_share_X
  unfold vS
  generalize kindsD ks = K at *
  generalize shareD ks.length h w ps = S at *
  generalize rowsP ks.length (pk ks) = R at *
  generalize PyData.tuple (wsD ks.length w) = ws at *
  generalize PyData.tuple (ps.map prD) = pd at *
  cases q1 : vW ks.length (pk ks) w with
  | some v =>
    obtain ⟨w1, k1⟩ := v
    rw [q1] at lw
    simp [ch, lk, sh, i2, lw, telR, exR]
  | none =>
    rw [q1] at lw
    simp only
    cases q2 : vY ks.length (pk ks) h ps with
    | some v =>
      obtain ⟨w1, k1⟩ := v
      rw [q2] at ly
      simp [ch, lk, sh, i1, i2, i3, lw, ly, telR, exR]
    | none =>
      rw [q2] at ly
      simp [ch, lk, sh, i1, i2, i3, lw, ly, telR]
theorem lets_A (hk : KsOk W ks) (hW : W ≤ 2 ^ 31) (hd : Tc e b k (apartD A B)) (hb : b ≤ 90000) (hkk : k ≤ 60) (hs : apB ks.length (apartD A B) = true) (hA : ∀ a ∈ A, a < ks.length) (hB : ∀ a ∈ B, a < ks.length) :
    F_lets_share_X [.dat (kindsD ks), .dat (apartD A B)] f = telR (vA ks.length (pk ks) A B) (.str "apart") f := by
  have ch := chain_q (f := f) hk hW
  have sh := is_share_any (n := ks.length) (f := f) hd.th hb
  have sh2 : shB ks.length (apartD A B) = false := by
    unfold apartD
    simp [shB]
  rw [sh2] at sh
  have ah := is_apart_any (n := ks.length) (f := f) hd hb hkk
  rw [hs] at ah
  have lk := lenK (ks := ks)
  have la := look_apart_q (P := pk ks) (f := f) hk.n4 hA hB
  rw [rowsD_P] at ch
  have i1 : oIx (apartD A B) (.int 1) = some (.dat (.tuple (natsD A))) := rfl
  have i2 : oIx (apartD A B) (.int 2) = some (.dat (.tuple (natsD B))) := rfl
  rw [u_lets_share_X]
  unfold S_lets_share_X
  generalize kindsD ks = K at *
  generalize apartD A B = S at *
  generalize rowsP ks.length (pk ks) = R at *
  generalize natsD A = TA at *
  generalize natsD B = TB at *
  cases q1 : vA ks.length (pk ks) A B with
  | some v =>
    obtain ⟨w1, k1⟩ := v
    rw [q1] at la
    simp [ch, lk, sh, ah, i1, i2, la, telR, exR]
  | none =>
    rw [q1] at la
    simp [ch, lk, sh, ah, i1, i2, la, telR]
theorem lets_none (hk : KsOk W ks) (hW : W ≤ 2 ^ 31) (hd : Tc e b k d) (hb : b ≤ 90000) (hkk : k ≤ 60) (h1 : shB ks.length d = false) (h2 : apB ks.length d = false) :
    F_lets_share_X [.dat (kindsD ks), .dat d] f = exR "shape" 0 f := by
  have ch := chain_q (f := f) hk hW
  have sh := is_share_any (n := ks.length) (f := f) hd.th hb
  rw [h1] at sh
  have ah := is_apart_any (n := ks.length) (f := f) hd hb hkk
  rw [h2] at ah
  have lk := lenK (ks := ks)
  rw [u_lets_share_X]
  unfold S_lets_share_X
  generalize kindsD ks = K at *
  simp [ch, lk, sh, ah, exR]
theorem told_v4 {K : PyData} {word : Str} {v : Option (Str × Nat)} (h : ∀ g, F_lets_share_X [.dat K, .dat d] g = telR v (.str word) g) : F_q_told_v4 [.dat K, .dat d] f = .ok (resR word v) f := by
  apply ev_is
  rw [u_q_told_v4, ev_dEnd]
  unfold S_q_told_v4
  cases v with
  | none =>
    simp only [telR] at h
    simp [h, resR]
  | some p =>
    obtain ⟨w, k⟩ := p
    simp only [telR, exR] at h
    have n1 : oIsE "NoPaper" (excD "NoPaper" [("place", .int (k : Nat)), ("word", .str w)]) = some (.dat (.bool true)) := rfl
    have n2 : oIsE "ValueError" (excD "NoPaper" [("place", .int (k : Nat)), ("word", .str w)]) = some (.dat (.bool true)) := rfl
    have n3 : oIsEs ["NoAge", "NoBeat", "NoLines", "NoName", "NoRatio", "NoRow", "NoText", "TooMany"] (excD "NoPaper" [("place", .int (k : Nat)), ("word", .str w)]) = some (.dat (.bool false)) := rfl
    have n4 : oFld "word" (excD "NoPaper" [("place", .int (k : Nat)), ("word", .str w)]) = some (.dat (.str w)) := rfl
    have n5 : oFld "place" (excD "NoPaper" [("place", .int (k : Nat)), ("word", .str w)]) = some (.dat (.int (k : Nat))) := rfl
    have en : ∃ ex, excD "NoPaper" [("place", .int (k : Nat)), ("word", .str w)] = ex := ⟨_, rfl⟩
    obtain ⟨ex, en⟩ := en
    rw [en] at n1 n2 n3 n4 n5
    simp [-e_excD, h, en, n1, n2, n3, n4, n5, resR]
end
end Fp
namespace Fp
open PySem PySem.Spec L2 Dn
section
variable {W n h e b k : Nat} {ks : List (List Tri)} {P : Nat → Nat → Rat} {w : Nat → Rat} {ps : List (Nat × Nat)} {A B : List Nat} {d : PyData} {f : Feed}
theorem due_no (hk : KsOk W ks) (hW : W ≤ 2 ^ 31) (hd : Tc e b k d) (hb : b ≤ 4000) (hkk : k ≤ 60) (he : e ≤ 8000) (h1 : shB ks.length d = false) (h2 : apB ks.length d = false) :
    F_q_due_v7 [.dat (kindsD ks), .dat d] f = .ok (.dat (.tuple [.str "shape", .int 0])) f := by
  have ch := q_rows_q (f := f) hk hW
  have sh := q_is_shape_any (n := ks.length) (f := f) hd hb hkk hk.n4 he
  rw [h1, h2, Bool.or_false] at sh
  rw [rowsD_P] at ch
  have l0 := lenR (n := ks.length) (P := pk ks)
  apply ev_is
  rw [u_q_due_v7, ev_dEnd]
  unfold S_q_due_v7
  generalize kindsD ks = K at *
  generalize rowsP ks.length (pk ks) = R at *
  simp [ch, l0, sh]
theorem due_out {S : List Nat} (hn : n ≤ 4) (hS : ∀ a ∈ S, a < n) {K d3 : PyData} {t : PyData} {s4 : Slot} {ρr : List Slot} :
    (∀ m, S.find? (outB n P S) = some m → forN (.one 4) (sIf (cT (cCall F_q_is_out [cVar 2, cVar 4, cVar 5])) (sRet (cTup [cC (.str "out"), cVar 4])) (sNext)) (natsD S) (.dat K :: .dat t :: .dat (rowsP n P) :: .dat d3 :: s4 :: .dat (.tuple (natsD S)) :: ρr) f = .ok (.rt (.dat (.tuple [.str "out", .int (m : Nat)]))) f) ∧
    (S.find? (outB n P S) = none → ∃ t4 : Slot, forN (.one 4) (sIf (cT (cCall F_q_is_out [cVar 2, cVar 4, cVar 5])) (sRet (cTup [cC (.str "out"), cVar 4])) (sNext)) (natsD S) (.dat K :: .dat t :: .dat (rowsP n P) :: .dat d3 :: s4 :: .dat (.tuple (natsD S)) :: ρr) f = .ok (.nx (.dat K :: .dat t :: .dat (rowsP n P) :: .dat d3 :: t4 :: .dat (.tuple (natsD S)) :: ρr)) f) := by
  have sc := scanF (T := .one 4) (s := sIf (cT (cCall F_q_is_out [cVar 2, cVar 4, cVar 5])) (sRet (cTup [cC (.str "out"), cVar 4])) (sNext)) (f := f) (enc := nD) (outB n P S) (fun m => .ok (.rt (.dat (.tuple [.str "out", .int (m : Nat)]))) f) (fun ρ => ∃ t4 : Slot, ρ = .dat K :: .dat t :: .dat (rowsP n P) :: .dat d3 :: t4 :: .dat (.tuple (natsD S)) :: ρr) (fun m => .inl ⟨_, rfl⟩) S (.dat K :: .dat t :: .dat (rowsP n P) :: .dat d3 :: s4 :: .dat (.tuple (natsD S)) :: ρr) ⟨_, rfl⟩ (by
    rintro i hi ρ ⟨u4, rfl⟩
    have q := q_is_out_q (P := P) (f := f) (S := S) (s := .tuple (natsD S)) (.inl rfl) hn (hS i hi)
    generalize rowsP n P = R at *
    generalize natsD S = T at *
    refine ⟨_, rfl, fun c => ?_, fun c => ?_⟩
    · rw [c] at q
      simp [q]
    · rw [c] at q
      simp [q])
  refine ⟨fun m hm => sc.1 m hm, fun hm => ?_⟩
  obtain ⟨ρ2, e, t4, rfl⟩ := sc.2 hm
  exact ⟨t4, e⟩
theorem due_A (hk : KsOk W ks) (hW : W ≤ 2 ^ 31) (hd : Tc e b k (apartD A B)) (hb : b ≤ 4000) (hkk : k ≤ 60) (he : e ≤ 8000) (hs : apB ks.length (apartD A B) = true) (hA : ∀ a ∈ A, a < ks.length) (hB : ∀ a ∈ B, a < ks.length) :
    F_q_due_v7 [.dat (kindsD ks), .dat (apartD A B)] f = .ok (resR "apart" (vA ks.length (pk ks) A B)) f := by
  have ch := q_rows_q (f := f) hk hW
  have sh := q_is_shape_any (n := ks.length) (f := f) hd hb hkk hk.n4 he
  rw [hs, Bool.or_true] at sh
  rw [rowsD_P] at ch
  have l0 := lenR (n := ks.length) (P := pk ks)
  have n4 := hk.n4
  have i0 : oIx (apartD A B) (.int 0) = some (.dat (.str (Str.ofString "apart"))) := rfl
  have i1 : oIx (apartD A B) (.int 1) = some (.dat (.tuple (natsD A))) := rfl
  have i2 : oIx (apartD A B) (.int 2) = some (.dat (.tuple (natsD B))) := rfl
  have sl : oSl (some 1) none (apartD A B) = some (.dat (.tuple [.tuple (natsD A), .tuple (natsD B)])) := rfl
  have sq : ∀ l : List Nat, seqOf (.tuple (natsD l)) = some (natsD l) := fun _ => rfl
  have q1 := sq A
  have q2 := sq B
  apply ev_is
  rw [u_q_due_v7, ev_dEnd]
  unfold S_q_due_v7
  have sc := scanF (T := .one 4) (s := sIf (cT (cBin (oInF false) (cVar 4) (cBin oIx (cVar 1) (cC (.int 2))))) (sRet (cTup [cC (.str "both"), cVar 4])) (sNext)) (f := f) (enc := nD) (fun m => decide (m ∈ B)) (fun m => .ok (.rt (.dat (.tuple [.str "both", .int (m : Nat)]))) f) (fun ρ => ∃ t4 : Slot, ρ = [.dat (kindsD ks), .dat (apartD A B), .dat (rowsP ks.length (pk ks)), .dat (.int (ks.length : Nat)), t4, .emp, .emp, .emp, .emp, .emp, .emp, .emp, .emp, .emp, .emp]) (fun m => .inl ⟨_, rfl⟩) A [.dat (kindsD ks), .dat (apartD A B), .dat (rowsP ks.length (pk ks)), .dat (.int (ks.length : Nat)), .emp, .emp, .emp, .emp, .emp, .emp, .emp, .emp, .emp, .emp, .emp] ⟨_, rfl⟩ (by
    rintro i hi ρ ⟨u4, rfl⟩
    have q := inNt (neg := false) (a := i) (A := B)
    rw [Bool.false_xor] at q
    generalize rowsP ks.length (pk ks) = R at *
    generalize natsD B = TB at *
    generalize apartD A B = S at *
    refine ⟨_, rfl, fun c => ?_, fun c => ?_⟩
    · rw [c] at q
      simp [i2, q]
    · rw [c] at q
      simp [i2, q])
  have l1 := fun (s4 : Slot) (ρr : List Slot) => due_out (P := pk ks) (f := f) (K := kindsD ks) (t := apartD A B) (d3 := .int (ks.length : Nat)) (s4 := s4) (ρr := ρr) n4 hA
  have l2 := fun (s4 : Slot) (ρr : List Slot) => due_out (P := pk ks) (f := f) (K := kindsD ks) (t := apartD A B) (d3 := .int (ks.length : Nat)) (s4 := s4) (ρr := ρr) n4 hB
  have e9 : ∀ l : List Nat, l.map nD = natsD l := fun _ => rfl
  rw [e9] at sc
  unfold vA
  generalize kindsD ks = K at *
  generalize apartD A B = S at *
  generalize rowsP ks.length (pk ks) = R at *
  generalize hbody : sIf (cT (cCall F_q_is_out [cVar 2, cVar 4, cVar 5])) (sRet (cTup [cC (.str "out"), cVar 4])) sNext = body at *
  cases c1 : A.find? fun m => decide (m ∈ B) with
  | some m =>
    have e1 := sc.1 m c1
    generalize natsD A = TA at *
    generalize natsD B = TB at *
    simp [ch, l0, sh, i0, i1, q1, e1, resR]
  | none =>
    obtain ⟨ρ2, e1, t4, rfl⟩ := sc.2 c1
    simp only
    cases c2 : A.find? (outB ks.length (pk ks) A) with
    | some m =>
      have e2 := (l1 t4 [.emp, .emp, .emp, .emp, .emp, .emp, .emp, .emp, .emp]).1 m c2
      generalize natsD A = TA at *
      generalize natsD B = TB at *
      simp [ch, l0, sh, i0, i1, q1, e1, sl, forN, e2, resR]
    | none =>
      obtain ⟨u4, e2⟩ := (l1 t4 [.emp, .emp, .emp, .emp, .emp, .emp, .emp, .emp, .emp]).2 c2
      simp only
      cases c3 : B.find? (outB ks.length (pk ks) B) with
      | some m =>
        have e3 := (l2 u4 [.emp, .emp, .emp, .emp, .emp, .emp, .emp, .emp, .emp]).1 m c3
        generalize natsD A = TA at *
        generalize natsD B = TB at *
        simp [ch, l0, sh, i0, i1, q1, q2, e1, sl, forN, e2, e3, resR]
      | none =>
        obtain ⟨v4, e3⟩ := (l2 u4 [.emp, .emp, .emp, .emp, .emp, .emp, .emp, .emp, .emp]).2 c3
        generalize natsD A = TA at *
        generalize natsD B = TB at *
        simp [ch, l0, sh, i0, i1, q1, q2, e1, sl, forN, e2, e3, resR]
end
end Fp
namespace Fp
open PySem PySem.Spec L2 Dn
section
variable {W n h e b k : Nat} {ks : List (List Tri)} {P : Nat → Nat → Rat} {w : Nat → Rat} {ps : List (Nat × Nat)} {A B : List Nat} {d : PyData} {f : Feed}
theorem q_by_s {n : Nat} {x y : Rat} {f : Feed} (hx : Sz n x) (hy : Sz n y) (hn : n ≤ 4000) : F_q_by [.dat (enc x), .dat (enc y)] f = .ok (.dat (enc (x * y))) f := by
  have m1 : oMul (.int x.num) (.int y.num) = some (.dat (.int (x.num * y.num))) := oMul_int (mulC_sz hx.num hy.num hn)
  have m3 : oMul (.int (x.den : Nat)) (.int (y.den : Nat)) = some (.dat (.int (x.den * y.den))) := oMul_int (mulC_sz (by rw [Int.natAbs_natCast]; exact hx.den) (by rw [Int.natAbs_natCast]; exact hy.den) hn)
  have b3 := prod_lt hx.den hy.den hn
  have kk : (2 : Nat) ^ 8000 ≤ 2 ^ 8500 := by decide
  have p := lowest_big (f := f) (p := x.num * y.num) (Nat.mul_pos x.den_pos y.den_pos) (by omega)
  rw [Int.natCast_mul, mul_eq] at p
  apply ev_is
  rw [u_q_by, ev_dEnd]
  unfold S_q_by
  simp [m1, m3, p]
theorem RW.bd (h : RW n P w) : ∃ D B : Nat, 0 < D ∧ 0 < B ∧ (∀ i, i < n → Wh D (w i) ∧ Ab (B : Rat) (w i)) ∧ (∀ i k, i < n → k < n → Wh D (w i * P i k) ∧ Ab (B : Rat) (w i * P i k)) ∧ B * (4 + 1) * D < 2 ^ 4000 := by
  obtain ⟨W, W0, W1, hW⟩ := h.W
  obtain ⟨e, e1, he⟩ := h.e
  obtain ⟨D, D0, d1, d2⟩ := wh_prod n he
  have n4 := h.n4
  have d3 : D ≤ 2 ^ (e * 4) := Nat.le_trans d1 (Nat.pow_le_pow_right (by decide) (Nat.mul_le_mul_left e n4))
  refine ⟨D * W, 2 ^ e, Nat.mul_pos D0 W0, Nat.pow_pos (by decide), fun i hi => ⟨(d2 i hi).up (Nat.dvd_mul_right _ _), ab_of_sz (he i hi)⟩, fun i k hi hk => ⟨(d2 i hi).mul (hW i k hi hk).1, ?_⟩, ?_⟩
  · obtain ⟨_, p0, p1⟩ := hW i k hi hk
    obtain ⟨a1, a2⟩ := ab_of_sz (he i hi)
    have b0 : (0 : Rat) ≤ ((2 ^ e : Nat) : Rat) := Rat.natCast_nonneg
    generalize ((2 ^ e : Nat) : Rat) = B at *
    constructor
    · have := Rat.mul_nonneg (show 0 ≤ w i + B by grind) p0
      have := Rat.mul_nonneg b0 (show 0 ≤ 1 - P i k by grind)
      grind
    · have := Rat.mul_nonneg (show 0 ≤ B - w i by grind) p0
      have := Rat.mul_nonneg b0 (show 0 ≤ 1 - P i k by grind)
      grind
  · have b : 2 ^ e * (4 + 1) * (D * W) ≤ 2 ^ e * 2 ^ 3 * (2 ^ (e * 4) * 2 ^ 31) := Nat.mul_le_mul (Nat.mul_le_mul_left _ (by decide)) (Nat.mul_le_mul d3 W1)
    rw [← Nat.pow_add, ← Nat.pow_add, ← Nat.pow_add] at b
    exact Nat.lt_of_le_of_lt b (Nat.pow_lt_pow_right (by decide) (by omega))
theorem eq_natL {A : List Nat} : oEq (.list (natsD A)) (.list []) = some (.dat (.bool (decide (A = [])))) := by
  have em : natsD A = (A.map fun (a : Nat) => (a : Int)).map .int := by
    unfold natsD
    rw [List.map_map]
    rfl
  rw [em, oEq_of shaped_list_ints shaped_list_nil]
  show some (RV.dat (PyData.bool (PyData.eqvAll ((A.map fun (a : Nat) => (a : Int)).map .int) (([] : List Int).map .int)))) = _
  rw [eqv_ints]
  cases A <;> rfl
theorem due_ways (hn : n ≤ 4) {K t d3 d6 d7 d8 : PyData} {s5 s13 s14 : Slot} {qs : List (Nat × Nat)} : ∀ (ps pre : List (Nat × Nat)) (led : List Nat) (s4 s11 s12 : Slot), pre ++ ps = qs → (∀ p ∈ qs, p.1 < n ∧ p.2 < n) → led.length + ps.length ≤ 100 →
    (∀ j, wayV P led ps pre.length = some j → forN (.one 11) (sSeq (sAsg (.many [4, 12]) (cBin oIx (cVar 9) (cVar 11))) (sSeq (sIf (tOrX (cT (cBin (oInF false) (cVar 4) (cVar 10))) (tOrX (cT (cBin oEq (cBin oIx (cBin oIx (cVar 2) (cVar 4)) (cVar 12)) (cTup [cC (.int 0), cC (.int 1)]))) (cT (cBin (oInF true) (cVar 12) (cVar 10))))) (sRet (cTup [cC (.str "way"), cVar 11])) (sNext)) (sApp 10 (cVar 4)))) ((List.range ps.length).map fun m => nD (pre.length + m)) [.dat K, .dat t, .dat (rowsP n P), .dat d3, s4, s5, .dat d6, .dat d7, .dat d8, .dat (.tuple (qs.map prD)), .own (natsD led), s11, s12, s13, s14] f = .ok (.rt (.dat (.tuple [.str "way", .int (j : Nat)]))) f) ∧
    (wayV P led ps pre.length = none → ∃ t4 t11 t12 : Slot, forN (.one 11) (sSeq (sAsg (.many [4, 12]) (cBin oIx (cVar 9) (cVar 11))) (sSeq (sIf (tOrX (cT (cBin (oInF false) (cVar 4) (cVar 10))) (tOrX (cT (cBin oEq (cBin oIx (cBin oIx (cVar 2) (cVar 4)) (cVar 12)) (cTup [cC (.int 0), cC (.int 1)]))) (cT (cBin (oInF true) (cVar 12) (cVar 10))))) (sRet (cTup [cC (.str "way"), cVar 11])) (sNext)) (sApp 10 (cVar 4)))) ((List.range ps.length).map fun m => nD (pre.length + m)) [.dat K, .dat t, .dat (rowsP n P), .dat d3, s4, s5, .dat d6, .dat d7, .dat d8, .dat (.tuple (qs.map prD)), .own (natsD led), s11, s12, s13, s14] f = .ok (.nx [.dat K, .dat t, .dat (rowsP n P), .dat d3, t4, s5, .dat d6, .dat d7, .dat d8, .dat (.tuple (qs.map prD)), .own (natsD (led ++ ps.map (·.1))), t11, t12, s13, s14]) f)
  | [], pre, led, s4, s11, s12, _, _, _ => ⟨fun j q => by simp [wayV] at q, fun _ => ⟨s4, s11, s12, by simp [forN]⟩⟩
  | (a, c) :: r, pre, led, s4, s11, s12, hq, hp, hl => by
    obtain ⟨ha, hb⟩ := hp (a, c) (by rw [← hq]; simp)
    rw [List.length_cons] at hl
    have e1 : (List.range ((a, c) :: r).length).map (fun m => nD (pre.length + m)) = .int ((pre.length : Nat) : Int) :: (List.range r.length).map fun m => nD ((pre ++ [(a, c)]).length + m) := by
      rw [List.length_cons, List.range_succ_eq_map, List.map_cons, List.map_map]
      congr 1
      refine List.map_congr_left fun m _ => ?_
      show nD (pre.length + (m + 1)) = nD ((pre ++ [(a, c)]).length + m)
      rw [List.length_append, List.length_singleton, show pre.length + (m + 1) = pre.length + 1 + m by omega]
    rw [e1]
    have ih := due_ways hn (K := K) (t := t) (d3 := d3) (d6 := d6) (d7 := d7) (d8 := d8) (s5 := s5) (s13 := s13) (s14 := s14) (qs := qs) r (pre ++ [(a, c)]) (led ++ [a]) (.dat (.int (a : Nat))) (.dat (.int ((pre.length : Nat) : Int))) (.dat (.int (c : Nat))) (by rw [← hq]; simp) hp (by rw [List.length_append, List.length_singleton]; omega)
    have ix1 := ixR (P := P) ha
    have ix2 := ixC (P := P) (i := a) hb
    have ez := eq_enc0 (x := P a c)
    have i1 := inNs (neg := false) (a := a) (A := led)
    have i2 := inNs (neg := true) (a := c) (A := led)
    rw [Bool.false_xor] at i1
    rw [Bool.true_xor] at i2
    have i9 : oIx (.tuple (qs.map prD)) (.int ((pre.length : Nat) : Int)) = some (.dat (prD (a, c))) := by
      rw [e_ix_tuple, Dn.atI_nat, List.getElem?_map, ← hq]
      simp
    have pp : ∀ (R : PyData) (own : Slot) (t9 : PyData), Tgt.put (.many [4, 12]) (prD (a, c)) [.dat K, .dat t, .dat R, .dat d3, s4, s5, .dat d6, .dat d7, .dat d8, .dat t9, own, .dat (.int ((pre.length : Nat) : Int)), s12, s13, s14] = some [.dat K, .dat t, .dat R, .dat d3, .dat (.int (a : Nat)), s5, .dat d6, .dat d7, .dat d8, .dat t9, own, .dat (.int ((pre.length : Nat) : Int)), .dat (.int (c : Nat)), s13, s14] := fun _ _ _ => rfl
    have ap : natsD led ++ [.int (a : Nat)] = natsD (led ++ [a]) := by
      unfold natsD
      rw [List.map_append]
      rfl
    have ll : (natsD led).length < 100000 := by
      unfold natsD
      rw [List.length_map]
      omega
    have lp : (pre ++ [(a, c)]).length = pre.length + 1 := by rw [List.length_append]; rfl
    have le : led ++ ((a, c) :: r).map (·.1) = led ++ [a] ++ r.map (·.1) := by simp
    rw [le]
    generalize ((List.range r.length).map fun m => nD ((pre ++ [(a, c)]).length + m)) = rest at *
    rw [lp] at ih
    unfold wayV
    generalize natsD (led ++ [a]) = L2 at *
    generalize natsD led = L1 at *
    generalize rowsP n P = R at *
    generalize rwP n P a = rw1 at *
    generalize PyData.tuple (qs.map prD) = Q at *
    generalize prD (a, c) = pd at *
    generalize enc (P a c) = x at *
    have p0 : ∀ own : Slot, Tgt.put (.one 11) (.int ((pre.length : Nat) : Int)) [.dat K, .dat t, .dat R, .dat d3, s4, s5, .dat d6, .dat d7, .dat d8, .dat Q, own, s11, s12, s13, s14] = some [.dat K, .dat t, .dat R, .dat d3, s4, s5, .dat d6, .dat d7, .dat d8, .dat Q, own, .dat (.int ((pre.length : Nat) : Int)), s12, s13, s14] := fun _ => rfl
    generalize hpl : ((pre.length : Nat) : Int) = pl at *
    rw [forN, p0]
    cases c1 : decide (a ∈ led) with
    | true =>
      rw [c1] at i1
      refine ⟨fun j q => ?_, fun q => by simp at q⟩
      simp at q
      subst q
      simp [i9, pp, i1, hpl]
    | false =>
      rw [c1] at i1
      cases c2 : decide (P a c = 0) with
      | true =>
        rw [c2] at ez
        refine ⟨fun j q => ?_, fun q => by simp at q⟩
        simp at q
        subst q
        simp [i9, pp, i1, ix1, ix2, ez, hpl]
      | false =>
        rw [c2] at ez
        cases c3 : decide (c ∈ led) with
        | false =>
          rw [c3] at i2
          refine ⟨fun j q => ?_, fun q => by simp at q⟩
          simp at q
          subst q
          simp [i9, pp, i1, ix1, ix2, ez, i2, hpl]
        | true =>
          rw [c3] at i2
          simp [i9, pp, i1, ix1, ix2, ez, i2, ll, ap]
          refine ⟨ih.1, fun q => ?_⟩
          have := ih.2 q
          rw [List.append_assoc] at this
          exact this
theorem due_S (hk : KsOk W ks) (hW : W ≤ 2 ^ 31) (hd : Tc e b k (shareD ks.length h w ps)) (hb : b ≤ 4000) (hkk : k ≤ 60) (he : e ≤ 8000) (hs : shB ks.length (shareD ks.length h w ps) = true) (rw' : RW ks.length (pk ks) w) (hh : h < ks.length) (hp : ∀ p ∈ ps, p.1 < ks.length ∧ p.2 < ks.length) (hl : ps.length ≤ 3) :
    F_q_due_v7 [.dat (kindsD ks), .dat (shareD ks.length h w ps)] f = .ok (resR "share" (vS ks.length (pk ks) h w ps)) f := by
  have ch := q_rows_q (f := f) hk hW
  have sh := q_is_shape_any (n := ks.length) (f := f) hd hb hkk hk.n4 he
  rw [hs, Bool.true_or] at sh
  rw [rowsD_P] at ch
  have l0 := lenR (n := ks.length) (P := pk ks)
  have n4 := hk.n4
  obtain ⟨z1, z2, z3, z4, z5⟩ := rw'.sums
  obtain ⟨D, B, D0, B0, bw, bp, bb⟩ := rw'.bd
  generalize hP : pk ks = P at *
  generalize hn : ks.length = n at *
  have i0 : oIx (shareD n h w ps) (.int 0) = some (.dat (.str (Str.ofString "share"))) := rfl
  have pd : ∀ (K : PyData) (R : PyData), Tgt.put (.many [6, 7, 8, 9]) (shareD n h w ps) [.dat K, .dat (shareD n h w ps), .dat R, .dat (.int (n : Nat)), .emp, .emp, .emp, .emp, .emp, .emp, .emp, .emp, .emp, .emp, .emp] = some [.dat K, .dat (shareD n h w ps), .dat R, .dat (.int (n : Nat)), .emp, .emp, .dat (.str (Str.ofString "share")), .dat (.int (h : Nat)), .dat (.tuple (wsD n w)), .dat (.tuple (ps.map prD)), .emp, .emp, .emp, .emp, .emp] := fun _ _ => rfl
  have qa : F_q_all [.dat (.tuple (wsD n w))] f = .ok (.dat (enc (rs n w))) f := by
    refine q_all_d (D := D) (B := B) (L := 4) (xs := (List.range n).map w) ?_ D0 B0 (fun x hx => ?_) (fun x hx => ?_) (by rw [List.length_map, List.length_range]; exact n4) bb
    · show some (wsD n w) = _
      unfold wsD
      rw [List.map_map]
      rfl
    · obtain ⟨i, hi, rfl⟩ := List.mem_map.mp hx
      exact (bw i (List.mem_range.mp hi)).1
    · obtain ⟨i, hi, rfl⟩ := List.mem_map.mp hx
      exact (bw i (List.mem_range.mp hi)).2
  have qk : ∀ m, m < n → F_q_all [.dat (.list ((List.range n).map fun j => enc (w j * P j m)))] f = .ok (.dat (enc (stat n P w m))) f := fun m hm => by
    refine q_all_d (D := D) (B := B) (L := 4) (xs := (List.range n).map fun j => w j * P j m) ?_ D0 B0 (fun x hx => ?_) (fun x hx => ?_) (by rw [List.length_map, List.length_range]; exact n4) bb
    · show some _ = _
      rw [List.map_map]
      rfl
    · obtain ⟨i, hi, rfl⟩ := List.mem_map.mp hx
      exact (bp i m (List.mem_range.mp hi) hm).1
    · obtain ⟨i, hi, rfl⟩ := List.mem_map.mp hx
      exact (bp i m (List.mem_range.mp hi) hm).2
  have rg : ∀ m : Nat, rangeD 0 m = (List.range m).map nD := fun m => by
    unfold rangeD
    refine List.map_congr_left fun i _ => ?_
    rw [Int.zero_add]
  have ixw : ∀ i, i < n → oIx (.tuple (wsD n w)) (.int (i : Nat)) = some (.dat (enc (w i))) := fun i hi => by
    unfold wsD
    rw [e_ix_tuple, Dn.atI_nat, List.getElem?_map, List.getElem?_range hi]
    rfl
  have lcS : ∀ (m : Nat), m < n → ∀ K S d6 d7 d9 : PyData, ∀ s5 : Slot, lcN (.one 14) cYes (cCall F_q_by [cBin oIx (cVar 8) (cVar 14), cBin oIx (cBin oIx (cVar 2) (cVar 14)) (cVar 4)]) [.dat K, .dat S, .dat (rowsP n P), .dat (.int (n : Nat)), .dat (.int (m : Nat)), s5, .dat d6, .dat d7, .dat (.tuple (wsD n w)), .dat d9, .emp, .emp, .emp, .emp, .emp] ((List.range n).map nD) [] f = .ok ((List.range n).map fun j => enc (w j * P j m)) f := fun m hm K S d6 d7 d9 s5 => by
    refine lc_map (by rw [List.length_range]; omega) fun j hj => ⟨_, rfl, ?_⟩
    rw [List.mem_range] at hj
    have e1 := ixw j hj
    have e2 := ixR (P := P) hj
    have e3 := ixC (P := P) (i := j) hm
    have e4 := q_by_s (f := f) (z5 j hj) (z4 j m hj hm) (Nat.le_refl _)
    generalize rowsP n P = R at *
    generalize rwP n P j = r at *
    generalize PyData.tuple (wsD n w) = ws at *
    simp [e1, e2, e3, e4]
  have sc := fun (K S d6 d7 d9 : PyData) => scanF (T := .one 4) (s := sIf (cT (cBin oNe (cCall F_q_all [cLc (iRange1 (cVar 3)) (.one 14) (cYes) (cCall F_q_by [cBin oIx (cVar 8) (cVar 14), cBin oIx (cBin oIx (cVar 2) (cVar 14)) (cVar 4)]) [14]]) (cBin oIx (cVar 8) (cVar 4)))) (sRet (cTup [cC (.str "weight"), cVar 4])) (sNext)) (f := f) (enc := nD) (statB n P w) (fun m => .ok (.rt (.dat (.tuple [.str "weight", .int (m : Nat)]))) f) (fun ρ => ∃ t4 : Slot, ρ = [.dat K, .dat S, .dat (rowsP n P), .dat (.int (n : Nat)), t4, .emp, .dat d6, .dat d7, .dat (.tuple (wsD n w)), .dat d9, .emp, .emp, .emp, .emp, .emp]) (fun m => .inl ⟨_, rfl⟩) (List.range n) [.dat K, .dat S, .dat (rowsP n P), .dat (.int (n : Nat)), .emp, .emp, .dat d6, .dat d7, .dat (.tuple (wsD n w)), .dat d9, .emp, .emp, .emp, .emp, .emp] ⟨_, rfl⟩ (by
    rintro m hm ρ ⟨u4, rfl⟩
    rw [List.mem_range] at hm
    have e1 := lcS m hm K S d6 d7 d9 .emp
    have e2 := qk m hm
    have e3 := ixw m hm
    have nn := ne_enc (x := stat n P w m) (y := w m)
    have eS : statB n P w m = !decide (stat n P w m = w m) := rfl
    rw [← eS] at nn
    have r0 := rg n
    generalize rowsP n P = R at *
    generalize PyData.tuple (wsD n w) = ws at *
    generalize enc (stat n P w m) = x at *
    generalize enc (w m) = y at *
    generalize ((List.range n).map fun j => enc (w j * P j m)) = L at *
    refine ⟨_, rfl, fun c => ?_, fun c => ?_⟩
    · rw [c] at nn
      simp [smallI_ok (n := (n : Int)) (by omega) (by omega), r0, e1, e2, e3, nn]
    · rw [c] at nn
      simp [smallI_ok (n := (n : Int)) (by omega) (by omega), r0, e1, e2, e3, nn])
  have wl := fun (K S d6 d7 : PyData) (t4 : Slot) => due_ways (P := P) (f := f) n4 (K := K) (t := S) (d3 := .int (n : Nat)) (d6 := d6) (d7 := d7) (d8 := .tuple (wsD n w)) (s5 := .emp) (s13 := .emp) (s14 := .emp) (qs := ps) ps [] [h] t4 .emp .emp rfl hp (by rw [List.length_singleton]; omega)
  have rgp : rangeD 0 ps.length = (List.range ps.length).map fun m => nD (([] : List (Nat × Nat)).length + m) := by
    rw [rg]
    refine List.map_congr_left fun m _ => ?_
    show nD m = nD (0 + m)
    rw [Nat.zero_add]
  have lps : oLen (.tuple (ps.map prD)) = some (.dat (.int (ps.length : Nat))) := by simp
  have lL0 : (natsD [h]).length ≤ 100000 := by
    show 1 ≤ 100000
    decide
  have n1 : [PyData.int (h : Nat)] = natsD [h] := rfl
  have n1' := ne_enc (x := rs n w) (y := 1)
  rw [show (enc 1 : PyData) = .tuple [.int 1, .int 1] from rfl] at n1'
  have lcO : ∀ (K S R d6 d7 d8 d9 : PyData) (t4 t11 t12 : Slot), lcN (.one 4) (cT (cBin (oInF true) (cVar 4) (cVar 10))) (cVar 4) [.dat K, .dat S, .dat R, .dat (.int (n : Nat)), t4, .emp, .dat d6, .dat d7, .dat d8, .dat d9, .dat (.list (natsD ([h] ++ ps.map (·.1)))), t11, t12, .emp, .emp] ((List.range n).map nD) [] f = .ok (((List.range n).filter fun m => !decide (m ∈ h :: ps.map (·.1))).map nD) f := fun K S R d6 d7 d8 d9 t4 t11 t12 => by
    refine lc_pure (by rw [List.length_range]; omega) fun m hm => ⟨_, rfl, ?_, fun _ => by simp⟩
    have i2 := inNs (neg := true) (a := m) (A := [h] ++ ps.map (·.1))
    rw [Bool.true_xor] at i2
    have e9 : ([h] ++ ps.map (·.1)) = h :: ps.map (·.1) := rfl
    rw [e9] at i2 ⊢
    generalize natsD (h :: ps.map (·.1)) = L at *
    simp [i2]
  apply ev_is
  rw [u_q_due_v7, ev_dEnd]
  unfold S_q_due_v7
  unfold vS vW vY
  have pd := pd (kindsD ks) (rowsP n P)
  have sc := sc (kindsD ks) (shareD n h w ps) (.str (Str.ofString "share")) (.int (h : Nat)) (.tuple (ps.map prD))
  have wl := wl (kindsD ks) (shareD n h w ps) (.str (Str.ofString "share")) (.int (h : Nat))
  have lcO := lcO (kindsD ks) (shareD n h w ps) (rowsP n P) (.str (Str.ofString "share")) (.int (h : Nat)) (.tuple (wsD n w)) (.tuple (ps.map prD))
  generalize kindsD ks = K at *
  generalize shareD n h w ps = S at *
  generalize rowsP n P = R at *
  generalize PyData.tuple (wsD n w) = ws at *
  generalize PyData.tuple (ps.map prD) = pdd at *
  generalize natsD ([h] ++ ps.map (·.1)) = L9 at *
  generalize natsD [h] = L0 at *
  have r0 := rg n
  have sm := smallI_ok (n := (n : Int)) (by omega) (by omega)
  have smp := smallI_ok (n := (ps.length : Int)) (by omega) (by omega)
  have sna : ¬ Str.ofString "share" = Str.ofString "apart" := by decide +kernel
  refine ev_step (fun ρ g => g = f ∧ ρ = [.dat K, .dat S, .dat R, .emp, .emp, .emp, .emp, .emp, .emp, .emp, .emp, .emp, .emp, .emp, .emp]) (by simp [ch]) ?_
  rintro _ f ⟨rfl, rfl⟩
  refine ev_step (fun ρ g => g = f ∧ ρ = [.dat K, .dat S, .dat R, .dat (.int (n : Nat)), .emp, .emp, .emp, .emp, .emp, .emp, .emp, .emp, .emp, .emp, .emp]) (by simp [l0]) ?_
  rintro _ f ⟨rfl, rfl⟩
  refine ev_step (fun ρ g => g = f ∧ ρ = [.dat K, .dat S, .dat R, .dat (.int (n : Nat)), .emp, .emp, .emp, .emp, .emp, .emp, .emp, .emp, .emp, .emp, .emp]) (by simp [sh]) ?_
  rintro _ f ⟨rfl, rfl⟩
  refine ev_step (fun ρ g => g = f ∧ ρ = [.dat K, .dat S, .dat R, .dat (.int (n : Nat)), .emp, .emp, .emp, .emp, .emp, .emp, .emp, .emp, .emp, .emp, .emp]) (by simp [i0, sna]) ?_
  rintro _ f ⟨rfl, rfl⟩
  refine ev_step (fun ρ g => g = f ∧ ρ = [.dat K, .dat S, .dat R, .dat (.int (n : Nat)), .emp, .emp, .dat (.str (Str.ofString "share")), .dat (.int (h : Nat)), .dat ws, .dat pdd, .emp, .emp, .emp, .emp, .emp]) (by simp [pd]) ?_
  rintro _ f ⟨rfl, rfl⟩
  by_cases h1 : rs n w = 1
  · rw [if_pos h1]
    rw [decide_eq_true h1] at n1'
    refine ev_step (fun ρ g => g = f ∧ ρ = [.dat K, .dat S, .dat R, .dat (.int (n : Nat)), .emp, .emp, .dat (.str (Str.ofString "share")), .dat (.int (h : Nat)), .dat ws, .dat pdd, .emp, .emp, .emp, .emp, .emp]) (by simp [qa, n1']) ?_
    rintro _ f ⟨rfl, rfl⟩
    cases q1 : (List.range n).find? (statB n P w) with
    | some m =>
      have e1 := sc.1 m q1
      simp [sm, r0, e1, resR]
    | none =>
      obtain ⟨ρ2, e1, t4, rfl⟩ := sc.2 q1
      refine ev_step (fun ρ g => g = f ∧ ρ = [.dat K, .dat S, .dat R, .dat (.int (n : Nat)), t4, .emp, .dat (.str (Str.ofString "share")), .dat (.int (h : Nat)), .dat ws, .dat pdd, .emp, .emp, .emp, .emp, .emp]) (by simp [sm, r0, e1]) ?_
      rintro _ f ⟨rfl, rfl⟩
      refine ev_step (fun ρ g => g = f ∧ ρ = [.dat K, .dat S, .dat R, .dat (.int (n : Nat)), t4, .emp, .dat (.str (Str.ofString "share")), .dat (.int (h : Nat)), .dat ws, .dat pdd, .own L0, .emp, .emp, .emp, .emp]) (by simp [n1, lL0]) ?_
      rintro _ f ⟨rfl, rfl⟩
      have wl := wl t4
      simp only [Option.map_none]
      have z0 : ([] : List (Nat × Nat)).length = 0 := rfl
      rw [z0] at wl
      rw [z0] at rgp
      simp only [Nat.zero_add] at wl rgp
      cases q2 : wayV P [h] ps 0 with
      | some j =>
        have e2 := wl.1 j q2
        simp [lps, smp, rgp, e2, resR]
      | none =>
        obtain ⟨u4, u11, u12, e2⟩ := wl.2 q2
        have lcO := lcO .emp u11 u12
        refine ev_step (fun ρ g => g = f ∧ ρ = [.dat K, .dat S, .dat R, .dat (.int (n : Nat)), u4, .emp, .dat (.str (Str.ofString "share")), .dat (.int (h : Nat)), .dat ws, .dat pdd, .own L9, u11, u12, .emp, .emp]) (by simp [lps, smp, rgp, e2]) ?_
        rintro _ f ⟨rfl, rfl⟩
        have hf := List.head?_filter (p := fun m => !decide (m ∈ h :: ps.map (·.1))) (l := List.range n)
        have eqO := eq_natL (A := (List.range n).filter fun m => !decide (m ∈ h :: ps.map (·.1)))
        have lO : ((List.range n).filter fun m => !decide (m ∈ h :: ps.map (·.1))).length ≤ n := by
          have := List.length_filter_le (fun m => !decide (m ∈ h :: ps.map (·.1))) (List.range n)
          rwa [List.length_range] at this
        rw [← hf]
        simp only
        generalize (List.range n).filter (fun m => !decide (m ∈ h :: ps.map (·.1))) = O at *
        unfold natsD at eqO
        cases O with
        | nil =>
          have e3 : oEq (.list []) (.list []) = some (.dat (.bool true)) := eqO
          simp [sm, r0, lcO, e3, resR]
        | cons x r =>
          have e3 : oEq (.list (.int (x : Nat) :: r.map nD)) (.list []) = some (.dat (.bool false)) := eqO
          simp [sm, r0, lcO, e3, resR]
  · rw [if_neg h1]
    rw [decide_eq_false h1] at n1'
    simp [qa, n1', resR]
end
end Fp
namespace Fp
open PySem PySem.Spec L2 Dn
def sokk (x : Str) : Prop := ∀ c ∈ x.cps.toList, c < 0x110000
theorem sokk_app {x y : Str} (h : sokk x) (h2 : sokk y) : sokk (x ++ y) := fun c hc => (PyProof.Rows.mem_cps_append.mp hc).elim (h c) (h2 c)
theorem sokk_of (s : String) : sokk (Str.ofString s) := fun c hc => by
  rw [PyProof.Rows.signs_ofString] at hc
  obtain ⟨ch, _, rfl⟩ := List.mem_map.mp hc
  have := ch.valid
  rcases this with h | ⟨_, h⟩
  · have h2 : ch.val.toNat < 0xd800 := h
    show ch.val.toNat < _
    omega
  · exact h
theorem sokk_join : ∀ ts : List Str, (∀ t ∈ ts, sokk t) → sokk (Str.join ", " ts)
  | [], _ => sokk_of ""
  | [x], h => h x List.mem_cons_self
  | x :: y :: r, h => by
    have ih := sokk_join (y :: r) fun t ht => h t (List.mem_cons_of_mem _ ht)
    exact sokk_app (sokk_app (h x List.mem_cons_self) (sokk_of ", ")) ih
theorem sokk_from : ∀ (ts : List Str) (k : Nat) (acc : Str), sokk acc → (∀ t ∈ ts, sokk t) → sokk (PySem.textFrom k acc ts)
  | [], k, acc, h, _ => h
  | t :: r, k, acc, h, h2 => sokk_from r (k + 1) _ (sokk_app (sokk_app h (sokk_of _)) (h2 t List.mem_cons_self)) fun u hu => h2 u (List.mem_cons_of_mem _ hu)
end Fp
namespace Fp
open PySem PySem.Spec L2 Dn
structure WordOk (word : Str) (v : Option (Str × Nat)) : Prop where
  th : Th 10 40 2 (resD word v)
  s : sokk (resD word v).shown
structure WsOk (w : Str) : Prop where
  th : Th 10 10 0 (.str w)
  s : sokk (PyData.str w).shown
theorem word_some {word w : Str} {k : Nat} (hw : WsOk w) (hk : k < 1000) : WordOk word (some (w, k)) := by
  have a : Th 10 11 0 (.int (k : Nat)) := th_int (by rw [Int.natAbs_natCast]; omega)
  refine ⟨(th_tuple (thL_cons hw.th (thL_one (a.up (Nat.le_refl _) (Nat.le_refl _) (Nat.le_refl _))))).up (Nat.le_refl _) (by decide) (by decide), ?_⟩
  refine sokk_app (sokk_app (sokk_of _) (sokk_join _ fun t ht => ?_)) (sokk_of _)
  rcases List.mem_cons.mp ht with rfl | ht
  · exact hw.s
  · rcases List.mem_cons.mp ht with rfl | ht
    · exact sokk_of _
    · cases ht
theorem word_none {word : Str} (hw : WsOk word) : WordOk word none := by
  refine ⟨(th_list (thL_one hw.th)).up (Nat.le_refl _) (by decide) (by decide), ?_⟩
  refine sokk_app (sokk_from _ _ _ (sokk_of _) fun t ht => ?_) (sokk_of _)
  rcases List.mem_cons.mp ht with rfl | ht
  · exact hw.s
  · cases ht
theorem ws_share : WsOk (Str.ofString "share") := ⟨⟨by decide +kernel, by decide +kernel, by decide +kernel⟩, by unfold sokk; decide +kernel⟩
theorem ws_apart : WsOk (Str.ofString "apart") := ⟨⟨by decide +kernel, by decide +kernel, by decide +kernel⟩, by unfold sokk; decide +kernel⟩
theorem ws_shape : WsOk (Str.ofString "shape") := ⟨⟨by decide +kernel, by decide +kernel, by decide +kernel⟩, by unfold sokk; decide +kernel⟩
theorem ws_both : WsOk (Str.ofString "both") := ⟨⟨by decide +kernel, by decide +kernel, by decide +kernel⟩, by unfold sokk; decide +kernel⟩
theorem ws_out : WsOk (Str.ofString "out") := ⟨⟨by decide +kernel, by decide +kernel, by decide +kernel⟩, by unfold sokk; decide +kernel⟩
theorem ws_whole : WsOk (Str.ofString "whole") := ⟨⟨by decide +kernel, by decide +kernel, by decide +kernel⟩, by unfold sokk; decide +kernel⟩
theorem ws_weight : WsOk (Str.ofString "weight") := ⟨⟨by decide +kernel, by decide +kernel, by decide +kernel⟩, by unfold sokk; decide +kernel⟩
theorem ws_way : WsOk (Str.ofString "way") := ⟨⟨by decide +kernel, by decide +kernel, by decide +kernel⟩, by unfold sokk; decide +kernel⟩
theorem ws_lacks : WsOk (Str.ofString "lacks") := ⟨⟨by decide +kernel, by decide +kernel, by decide +kernel⟩, by unfold sokk; decide +kernel⟩
section
variable {W n h e b k : Nat} {ks : List (List Tri)} {P : Nat → Nat → Rat} {w : Nat → Rat} {ps : List (Nat × Nat)} {A B : List Nat} {d : PyData} {f : Feed}
theorem vA_word (hn : n ≤ 4) (hA : ∀ a ∈ A, a < n) (hB : ∀ a ∈ B, a < n) : WordOk "apart" (vA n P A B) := by
  unfold vA
  cases q1 : A.find? fun k => decide (k ∈ B) with
  | some m =>
    have := hA m (List.mem_of_find?_eq_some q1)
    exact word_some ws_both (by omega)
  | none =>
    simp only
    cases q2 : A.find? (outB n P A) with
    | some m =>
      have := hA m (List.mem_of_find?_eq_some q2)
      exact word_some ws_out (by omega)
    | none =>
      simp only
      cases q3 : B.find? (outB n P B) with
      | some m =>
        have := hB m (List.mem_of_find?_eq_some q3)
        exact word_some ws_out (by omega)
      | none => exact word_none ws_apart
theorem wayV_lt : ∀ {ps : List (Nat × Nat)} {led : List Nat} {i j : Nat}, wayV P led ps i = some j → j < i + ps.length
  | [], led, i, j, q => by simp [wayV] at q
  | (a, b) :: r, led, i, j, q => by
    unfold wayV at q
    split at q
    · cases q
      rw [List.length_cons]
      omega
    · have := wayV_lt q
      rw [List.length_cons]
      omega
theorem vS_word (hn : n ≤ 4) (hl : ps.length ≤ 3) : WordOk "share" (vS n P h w ps) := by
  unfold vS vW vY
  by_cases h1 : rs n w = 1
  · rw [if_pos h1]
    cases q1 : (List.range n).find? (statB n P w) with
    | some m =>
      have := List.mem_range.mp (List.mem_of_find?_eq_some q1)
      exact word_some ws_weight (by omega)
    | none =>
      simp only [Option.map_none]
      cases q2 : wayV P [h] ps 0 with
      | some j =>
        have := wayV_lt q2
        exact word_some ws_way (by omega)
      | none =>
        simp only
        cases q3 : (List.range n).find? (fun k => !decide (k ∈ h :: ps.map (·.1))) with
        | some m =>
          have := List.mem_range.mp (List.mem_of_find?_eq_some q3)
          exact word_some ws_lacks (by omega)
        | none => exact word_none ws_share
  · rw [if_neg h1]
    exact word_some ws_whole (by omega)
theorem rw_of (hk : KsOk W ks) (hW : W ≤ 2 ^ 31) (hd : Th e b k (shareD ks.length h w ps)) (he : e ≤ 700) : RW ks.length (pk ks) w := by
  refine ⟨hk.n4, ⟨W, hk.W0, hW, hk.P⟩, ⟨e, he, fun i hi => ?_⟩⟩
  obtain ⟨k1, _, hL⟩ := hd.tup
  have h2 := hL.mem (d := .tuple (wsD ks.length w)) (by simp)
  obtain ⟨k2, _, hL2⟩ := h2.tup
  exact szE_of (hL2.mem (List.mem_map_of_mem (List.mem_range.mpr hi)))
/-- what is told is what is due -/
theorem told_due (hk : KsOk W ks) (hW : W ≤ 2 ^ 31) (hd : Tc e b k d) (he : e ≤ 700) (hb : b ≤ 4000) (hkk : k ≤ 60) : ∃ word v, WordOk word v ∧ (∀ g, F_q_told_v4 [.dat (kindsD ks), .dat d] g = .ok (resR word v) g) ∧ ∀ g, F_q_due_v7 [.dat (kindsD ks), .dat d] g = .ok (resR word v) g := by
  cases h1 : shB ks.length d with
  | true =>
    obtain ⟨h, w, ps, rfl, hh, hp, hl⟩ := shB_is h1
    have rw' := rw_of hk hW hd.th he
    exact ⟨"share", vS ks.length (pk ks) h w ps, vS_word hk.n4 hl, fun g => told_v4 fun g => lets_S hk hW hd.th (by omega) h1 rw' hh hp hl, fun g => due_S hk hW hd hb hkk (by omega) h1 rw' hh hp hl⟩
  | false =>
    cases h2 : apB ks.length d with
    | true =>
      obtain ⟨A, B, rfl, _, _, hA, hB, _, _⟩ := apB_is h2
      exact ⟨"apart", vA ks.length (pk ks) A B, vA_word hk.n4 hA hB, fun g => told_v4 fun g => lets_A hk hW hd (by omega) hkk h2 hA hB, fun g => due_A hk hW hd hb hkk (by omega) h2 hA hB⟩
    | false =>
      exact ⟨"share", some ("shape", 0), word_some ws_shape (by decide), fun g => told_v4 fun g => lets_none hk hW hd (by omega) hkk h1 h2, fun g => due_no hk hW hd hb hkk (by omega) h1 h2⟩
end
end Fp
namespace Fp
open PySem PySem.Spec L2 Dn
structure Grp (c e : Nat) (ks : List (List Tri)) : Prop where
  lo : ∀ (i : Nat) (k : List Tri), ks[i]? = some k → i < c → ∀ t ∈ k, t.nx < c
  hi : ∀ (i : Nat) (k : List Tri), ks[i]? = some k → c ≤ i → i < e → ∀ t ∈ k, c ≤ t.nx ∧ t.nx < e
theorem Grp.nil {c e : Nat} : Grp c e [] := ⟨fun i k h => by simp at h, fun i k h => by simp at h⟩
theorem Grp.snoc {c e : Nat} {ks : List (List Tri)} {k : List Tri} (h : Grp c e ks) (h1 : ks.length < c → ∀ t ∈ k, t.nx < c) (h2 : c ≤ ks.length → ks.length < e → ∀ t ∈ k, c ≤ t.nx ∧ t.nx < e) : Grp c e (ks ++ [k]) := by
  refine ⟨fun i k2 hk hi => ?_, fun i k2 hk hi he => ?_⟩
  · rw [List.getElem?_append] at hk
    split at hk
    · exact h.lo i k2 hk hi
    · rename_i q
      have : i = ks.length := by
        have := (List.getElem?_eq_some_iff.mp hk).1
        simp at this
        omega
      subst this
      simp at hk
      subst hk
      exact h1 hi
  · rw [List.getElem?_append] at hk
    split at hk
    · exact h.hi i k2 hk hi he
    · rename_i q
      have : i = ks.length := by
        have := (List.getElem?_eq_some_iff.mp hk).1
        simp at this
        omega
      subst this
      simp at hk
      subst hk
      exact h2 hi he
/-- a step, what holds behind it told by itself: simp leaves it alone -/
theorem ev_stp {s s2 : Sm} {ρ : Rho} {f : Feed} {P : Ctl → Feed → Prop} (Q : Rho → Feed → Prop) (h : ∀ Q' : Rho → Feed → Prop, (∀ ρ g, Q ρ g → Q' ρ g) → Ev (s ρ f) fun c g => ∃ ρ2, c = .nx ρ2 ∧ Q' ρ2 g) (k : ∀ ρ2 g, Q ρ2 g → Ev (s2 ρ2 g) P) : Ev (sSeq s s2 ρ f) P := ev_step Q (h Q fun _ _ h => h) k
/-- marks whose next kinds lie between two bounds -/
def MLoHi (lo hi : Nat) (kvs : List (List Int × PyData)) : Prop := ∀ p ∈ kvs, ∃ a b : Nat, p.1 = [(a : Int), (b : Int)] ∧ lo ≤ b ∧ b < hi
theorem MLoHi.put {lo hi : Nat} {kvs : List (List Int × PyData)} {x : Mk3} {d : PyData} (h : MLoHi lo hi kvs) (h1 : lo ≤ x.2.1) (h2 : x.2.1 < hi) : MLoHi lo hi (setK kvs (keyI x) d) := fun p hp => by
  rcases setK_mem hp with hp | rfl
  · exact h p hp
  · exact ⟨x.1, x.2.1, rfl, h1, h2⟩
end Fp
namespace Fp
open PySem PySem.Spec L2 Dn
theorem tz_mem {x : Rat} : ∀ {r : List Rat}, x ∈ tz r → x ∈ r
  | [], h => h
  | y :: r, h => by
    by_cases q : y = 0
    · rw [tz, if_pos q] at h
      exact List.mem_cons_of_mem _ (tz_mem h)
    · rw [tz, if_neg q] at h
      exact h
theorem ts_mem {x st : Rat} : ∀ {r : List Rat}, x ∈ ts st r → x ∈ r
  | [], h => by
    rw [ts] at h
    exact h
  | [y], h => by
    rw [ts_one] at h
    exact h
  | y :: z :: r, h => by
    by_cases q : z * st = y
    · rw [ts_two, if_pos q] at h
      exact List.mem_cons_of_mem _ (ts_mem h)
    · rw [ts_two, if_neg q] at h
      exact h
theorem short_mem {L : Life} {x : Rat} (h : x ∈ (shortL L).row) : x ∈ L.row := by
  unfold shortL shortR at h
  split at h
  · exact List.mem_reverse.mp (tz_mem (List.mem_reverse.mp h))
  · exact List.mem_reverse.mp (ts_mem (List.mem_reverse.mp h))
theorem short_step (L : Life) : (shortL L).step = 0 ∨ (shortL L).step = L.step := by
  unfold shortL shortR
  split
  · exact .inl rfl
  · exact .inr rfl
theorem Plain.short {L : Life} (h : Plain L) : Plain (shortL L) := ⟨fun x hx => h.1 x (short_mem hx), by
  rcases short_step L with e | e
  · rw [e]
    exact ab_sz (D := 1) (B := 1) (by decide) wh_0 ⟨by decide, by decide⟩ (by decide) (by decide)
  · rw [e]
    exact h.2⟩
theorem last_rev {L : Life} (h : L.row ≠ []) : ∃ t, L.row.reverse = lastR L :: t := by
  refine ⟨L.row.dropLast.reverse, ?_⟩
  have e := List.dropLast_concat_getLast h
  have e2 : lastR L = L.row.getLast h := by
    unfold lastR
    rw [List.getLastD_eq_getLast?, List.getLast?_eq_some_getLast h]
    rfl
  rw [e2]
  conv => lhs; rw [← e]
  rw [List.reverse_append]
  rfl
theorem short_more {L : Life} (h1 : L.row ≠ []) (h2 : L.step ≠ 0) (h3 : lastR L ≠ 0) : shortL ⟨L.row ++ [lastR L * L.step], L.step⟩ = shortL L := by
  obtain ⟨t, e⟩ := last_rev h1
  have e2 : (L.row ++ [lastR L * L.step]).reverse = lastR L * L.step :: lastR L :: t := by
    rw [List.reverse_append, e]
    rfl
  have hm : lastR L * L.step ≠ 0 := fun z => by
    rcases Rat.mul_eq_zero.mp z with q | q
    · exact h3 q
    · exact h2 q
  unfold shortL
  show shortR (L.row ++ [lastR L * L.step]).reverse L.step = _
  rw [e2, e]
  unfold shortR
  rw [if_neg (by simp [hm, h2]), if_neg (by simp [h3, h2]), ts_two, if_pos rfl]
/-- a life that is made longer -/
structure Lg (L M : Life) : Prop where
  row : ∀ x ∈ M.row, Sz (16 + 4 * M.row.length) x
  stp : Sz 4 M.step
  emp : M.row = [] → M.step = 0
  len : M.row.length ≤ 12
  end12 : M.row.length = 12 → M.step = 0 → lastR M = 0
  sh : shortL M = shortL L
theorem Lg.plain {L M : Life} (h : Lg L M) : Plain M := ⟨fun x hx => (h.row x hx).up (by have := h.len; omega), h.stp.up (by decide)⟩
theorem Lg.more {L M : Life} (h : Lg L M) (h1 : M.row ≠ []) (h2 : M.step ≠ 0) (h3 : lastR M ≠ 0) (hl : M.row.length < 12) : Lg L ⟨M.row ++ [lastR M * M.step], M.step⟩ := by
  refine ⟨fun x hx => ?_, h.stp, fun z => by simp at z, by show (M.row ++ [_]).length ≤ 12; simp; omega, fun _ z => absurd z h2, (short_more h1 h2 h3).trans h.sh⟩
  show Sz (16 + 4 * (M.row ++ [_]).length) x
  rw [List.length_append, List.length_singleton]
  rcases List.mem_append.mp hx with q | q
  · exact (h.row x q).up (by omega)
  · rw [List.mem_singleton.mp q]
    exact ((h.row _ (lastR_mem h1)).mul h.stp).up (by omega)
end Fp
namespace Fp
open PySem PySem.Spec L2 Dn
section
variable {W s m k : Nat} {L E : Life} {f : Feed}
end
end Fp
namespace Fp
open PySem PySem.Spec L2 Dn
/-- chance that m of them, the last named first -/
def co : List Rat → Nat → Rat
  | [], m => if m = 0 then 1 else 0
  | a :: r, m => co r m * (1 - a) + if m = 0 then 0 else co r (m - 1) * a
def bit (p k : Nat) : Nat := p / 2 ^ k % 2
def pr (a : Nat → Rat) : Nat → Nat → Rat
  | 0, _ => 1
  | n + 1, p => pr a n p * if bit p n = 1 then a n else 1 - a n
def vals (a : Nat → Rat) : Nat → List Rat
  | 0 => []
  | n + 1 => a n :: vals a n
end Fp
namespace Fp
open PySem PySem.Spec L2 Dn
section
variable {N : Nat} {f : Feed}
end
end Fp
namespace Fp
open PySem PySem.Spec L2 Dn
theorem oShr_nat {n k : Nat} : oShr (.int (n : Nat)) (.int (k : Nat)) = some (.dat (.int ((n / 2 ^ k : Nat) : Int))) := by
  unfold oShr intsOp
  have h : decide ((0 : Int) ≤ (k : Int)) = true := decide_eq_true (Int.natCast_nonneg k)
  simp only [h, if_true]
  rw [Int.toNat_natCast]
  congr 3
theorem oAnd_one {n : Nat} : oAnd (.int (n : Nat)) (.int 1) = some (.dat (.int ((n % 2 : Nat) : Int))) := by
  unfold oAnd intsOp
  simp only [if_true]
  rw [bitAnd_one]
@[simp] theorem oRev_list {xs : List PyData} : oRev (.list xs) = some (.own xs.reverse) := nr rfl
end Fp
namespace Fp
open PySem PySem.Spec L2 Dn
abbrev dd (W s : Nat) : Nat := kk W s 20 ^ 21 * (kk W s 40 * kk W s 4 ^ 3)
theorem G.base {K D n e : Nat} {x : Rat} (h : G K n e x) (hd : K ^ n ∣ D) : G D 1 e x := ⟨by rw [Nat.pow_one]; exact h.w.up hd, h.a⟩
section
variable {W s N M n m k : Nat} {L : Life} {f : Feed}
end
end Fp
namespace Fp
open PySem PySem.Spec L2 Dn
section
variable {W s N M n m k : Nat} {L : Life} {f : Feed}
end
end Fp
namespace Fp
open PySem PySem.Spec L2 Dn
end Fp
namespace Fp
open PySem PySem.Spec L2 Dn
theorem LOk.zero {W s s2 : Nat} {L : Life} {st : Rat} (h : LOk W s L) (hst : L.step = 0) (s20 : 0 < s2) (hw : Wh s2 st) (h0 : 0 ≤ st) (h1 : st < 1) : LOk W s2 ⟨L.row ++ [0], st⟩ :=
  ⟨h.W0, s20, fun x hx => by
    rcases List.mem_append.mp hx with q | q
    · exact h.row x q
    · rw [List.mem_singleton.mp q]
      exact ⟨wh_0, by decide, by decide⟩, hw, h0, h1, fun z => by simp at z, by rw [tot_zero hst]; exact h.tot1⟩
end Fp
namespace Fp
open PySem PySem.Spec L2 Dn
section
variable {K e d n : Nat} {x y : Rat} {f : Feed}
end
def lcs (xs : List Rat) : Nat := xs.foldl (fun a x => a.lcm x.den) 1
section
variable {K : Nat} {xs : List Rat} {f : Feed}
end
/-- the bottom of all chances of a life -/
def bsN (L : Life) : Nat := lcs L.row * L.step.den
section
variable {W s N m n k e : Nat} {L : Life} {f : Feed}
theorem LOk.den (h : LOk W s L) : ∀ x ∈ L.row, x.den ∣ W := fun x hx => (h.row x hx).1.dvd h.W0
end
end Fp
namespace Fp
open PySem PySem.Spec L2 Dn
abbrev bs (L : Life) : Rat := (bsN L : Nat)
def nm (L : Life) (k : Nat) : Rat := if k = 0 then 0 else ch L k * bs L ^ k
def hi (L : Life) (n : Nat) : Rat := an (fun k => ch L (k + 1)) dl n * bs L ^ n
section
variable {W s N m n k e d K : Nat} {L : Life} {f : Feed} {x y : Rat}
end
end Fp
namespace Fp
open PySem PySem.Spec L2 Dn
section
variable {W s N m n k e d K : Nat} {L : Life} {f : Feed} {x y : Rat}
end
end Fp
namespace Fp
open PySem PySem.Spec L2 Dn
section
variable {W s N m n k e d : Nat} {L : Life} {f : Feed} {x y : Rat}
theorem w9 (hW : W ≤ 200000) (hs : s ≤ 9) (hm : m ≤ 101) : W * s ^ m < 2 ^ 4000 := by
  refine Nat.lt_of_le_of_lt (Nat.mul_le_mul hW (Nat.pow_le_pow_left hs m)) ?_
  refine Nat.lt_of_le_of_lt (Nat.mul_le_mul_left _ (Nat.pow_le_pow_right (by decide) hm)) (by decide)
end
end Fp
namespace Fp
open PySem PySem.Spec L2 Dn
section
variable {W s N M m n k e d a b : Nat} {L : Life} {f : Feed} {x y : Rat}
end
end Fp
namespace Fp
open PySem PySem.Spec L2 Dn
section
variable {W s N M m n k e d a b : Nat} {L : Life} {f : Feed} {x y : Rat}
end
end Fp
namespace Fp
open PySem PySem.Spec L2 Dn
section
variable {W s N M m n k e d a b : Nat} {L : Life} {f : Feed} {x y : Rat}
end
end Fp
namespace Fp
open PySem PySem.Spec L2 Dn
section
variable {W s N M m n k e d a b : Nat} {L : Life} {f : Feed} {x y : Rat}
end
end Fp
namespace Fp
open PySem PySem.Spec L2 Dn
end Fp
namespace Fp
open PySem PySem.Spec L2 Dn
/-- the chances of one stretch behind another -/
def cv (L M : Life) (k : Nat) : Rat := rs (k - 1) fun j => ch L (j + 1) * ch M (k - (j + 1))
section
variable {W s W2 s2 m k : Nat} {L M : Life} {f : Feed}
end
/-- the second row -/
def yy (a x : Nat → Rat) (n : Nat) : Rat := rs n fun k => a k * x (n - 1 - k)
end Fp
namespace Fp
open PySem PySem.Spec L2 Dn
section
variable {W s W2 s2 m k : Nat} {L M : Life} {f : Feed}
end
end Fp
namespace Fp
open PySem PySem.Spec L2 Dn
@[simp] theorem e_CallL {F : Dn.Fn} {xs : List Ex} {i : Nat} {ρ : Rho} {f : Feed} : cCallL F xs i ρ f = (cVals xs ρ f).bind fun as f1 => match ρ[i]? with
  | some (.own ds) => (F (as ++ [.dat (.list ds)]) f1).bind keepF
  | _ => .no := nr rfl
@[simp] theorem keepF_enc2 {x y : Rat} {f : Feed} : keepF (.own [enc x, enc y]) f = .ok (.own [enc x, enc y]) f := nr rfl
section
variable {K n : Nat} {a b X Y : Nat → Rat} {f : Feed}
end
end Fp
namespace Fp
open PySem PySem.Spec L2 Dn
def lifeB (ws : List Nat) (T : Nat) : Life := ⟨ws.map fun (w : Nat) => mkRat (w : Nat) T, 0⟩
/-- the chances as a sequence -/
def cs (ws : List Nat) (T : Nat) (k : Nat) : Rat := ch (lifeB ws T) (k + 1)
section
variable {ws us : List Nat} {T U N : Nat} {f : Feed}
end
end Fp
namespace Fp
open PySem PySem.Spec L2 Dn
section
variable {W s m k : Nat} {L E : Life} {f : Feed}
/-- a life with the same chances, one longer -/
structure Same (L M : Life) : Prop where
  ch : ∀ k, 1 ≤ k → Fp.ch M k = Fp.ch L k
  tot : Fp.tot M = Fp.tot L
  len : M.row.length = L.row.length + 1
  stp : M.step = L.step ∨ (L.step = 0 ∧ lastR M = 0)
theorem Same.rest {M : Life} (h : Same L M) (k : Nat) : Fp.rest M k = Fp.rest L k := by
  unfold Fp.rest
  rw [h.tot]
  congr 1
  exact rs_congr fun i _ => h.ch _ (by omega)
end
end Fp
namespace Fp
open PySem PySem.Spec L2 Dn
section
variable {W s N : Nat} {L : Life} {x : Rat} {f : Feed}
/-- what a share keeps -/
structure ShOk (x : Rat) : Prop where
  w : Wh 60 x
  h0 : 0 ≤ x
  h1 : x ≤ 1
abbrev k2 (W s : Nat) : Nat := 60 * kk W s 21
theorem ShOk.g (hx : ShOk x) : G (k2 W s) 1 0 x := G.of hx.w (Nat.dvd_mul_right _ _) hx.h0 hx.h1
theorem ShOk.mul (hx : ShOk x) (h : LOk W s L) {k : Nat} (hk : k ≤ 21) : G (k2 W s) 1 0 (x * ch L k) := by
  have c := h.gch (m := 21) hk
  refine ⟨?_, ?_⟩
  · rw [Nat.pow_one]
    have := c.w
    rw [Nat.pow_one] at this
    exact hx.w.mul this
  · have := (hx.g (W := W) (s := s)).a.mul c.a
    rwa [show ((2 ^ 0 : Nat) : Rat) * ((2 ^ 0 : Nat) : Rat) = ((2 ^ 0 : Nat) : Rat) by decide +kernel] at this
end
end Fp
namespace Fp
open PySem PySem.Spec L2 Dn
section
variable {W s : Nat} {L : Life}
end
end Fp
namespace Fp
open PySem PySem.Spec L2 Dn
section
variable {W s : Nat} {L : Life} {f : Feed}
theorem LOk.s1 (h : LOk W s L) (z : L.step = 0) : LOk W 1 L := ⟨h.W0, by decide, h.row, by rw [z]; exact wh_0, h.st0, h.st1, h.emp, h.tot1⟩
def fc (b : Nat) (c : Nat → Rat) (k : Nat) : Rat := if (k + 1) % b = 0 then c ((k + 1) / b - 1) else 0
end
end Fp
namespace Fp
open PySem PySem.Spec L2 Dn
section
variable {W s m k N : Nat} {L : Life} {f : Feed}
end
end Fp
namespace Fp
open PySem PySem.Spec L2 Dn
section
variable {W s k m : Nat} {L : Life} {f : Feed}
end
end Fp
namespace Fp
open PySem PySem.Spec L2 Dn
section
variable {W s N m n k e d a b : Nat} {L : Life} {f : Feed} {x y : Rat}
end
end Fp
namespace Fp
open PySem PySem.Spec L2 Dn
section
variable {W s N M m n k e d a b : Nat} {L : Life} {f : Feed} {x y : Rat}
end
end Fp
namespace Fp
open PySem PySem.Spec L2 Dn
theorem rise_uniqN {A B : List Nat} (ha : A.Pairwise (· < ·)) (hb : B.Pairwise (· < ·)) (h : ∀ k, k ∈ A ↔ k ∈ B) : A = B := by
  have := rise_uniq (a := A.map fun (a : Nat) => (a : Int)) (b := B.map fun (a : Nat) => (a : Int)) (List.pairwise_map.mpr (ha.imp fun h => by omega)) (List.pairwise_map.mpr (hb.imp fun h => by omega)) fun k => by
    simp only [List.mem_map]
    constructor
    · rintro ⟨a, ha, rfl⟩
      exact ⟨a, (h a).mp ha, rfl⟩
    · rintro ⟨a, ha, rfl⟩
      exact ⟨a, (h a).mpr ha, rfl⟩
  have e2 := congrArg (List.map Int.toNat) this
  rw [List.map_map, List.map_map, show (Int.toNat ∘ fun (a : Nat) => (a : Int)) = id from rfl, List.map_id, List.map_id] at e2
  exact e2
def bitsL (n m : Nat) : List Nat := (List.range n).filter fun k => decide (m / 2 ^ k % 2 = 1)
def closL (n : Nat) (P : Nat → Nat → Rat) : List (List Nat) := ((List.range (2 ^ n - 1)).map fun m => bitsL n (m + 1)).filter fun A => A.all fun i => !outB n P A i
def tupN (A : List Nat) : PyData := .tuple (natsD A)
theorem bits_pw {n m : Nat} : (bitsL n m).Pairwise (· < ·) := List.Pairwise.sublist List.filter_sublist List.pairwise_lt_range
theorem bits_lt {n m : Nat} : ∀ a ∈ bitsL n m, a < n := fun a ha => List.mem_range.mp (List.mem_filter.mp ha).1
theorem bits_ne {n m : Nat} (hn : n ≤ 4) (h : m < 2 ^ n - 1) : bitsL n (m + 1) ≠ [] := by
  have : ∀ n : Fin 5, ∀ m : Fin 16, m.1 < 2 ^ n.1 - 1 → bitsL n.1 (m.1 + 1) ≠ [] := by decide +kernel
  refine this ⟨n, by omega⟩ ⟨m, ?_⟩ h
  have : 2 ^ n ≤ 2 ^ 4 := Nat.pow_le_pow_right (by decide) hn
  omega
section
variable {n : Nat} {P : Nat → Nat → Rat} {f : Feed}
theorem clos_mem {A : List Nat} (hn : n ≤ 4) (h : A ∈ closL n P) : A ≠ [] ∧ (∀ a ∈ A, a < n) ∧ A.Pairwise (· < ·) ∧ ∀ a ∈ A, outB n P A a = false := by
  obtain ⟨h1, h2⟩ := List.mem_filter.mp h
  obtain ⟨m, hm, rfl⟩ := List.mem_map.mp h1
  refine ⟨bits_ne hn (List.mem_range.mp hm), bits_lt, bits_pw, fun a ha => ?_⟩
  have := List.all_eq_true.mp h2 a ha
  simpa using this
theorem clos_len : (closL n P).length ≤ 2 ^ n - 1 := by
  have := List.length_filter_le (fun A => A.all fun i => !outB n P A i) ((List.range (2 ^ n - 1)).map fun m => bitsL n (m + 1))
  rwa [List.length_map, List.length_range] at this
/-- each set that isn't led out of is found -/
theorem bits_all (hn : n ≤ 4) {A : List Nat} (h1 : ∀ a ∈ A, a < n) (h2 : A.Pairwise (· < ·)) (h3 : A ≠ []) : ∃ m, m < 2 ^ n - 1 ∧ bitsL n (m + 1) = A := by
  have key : ∀ n : Fin 5, ∀ b0 b1 b2 b3 : Bool, ∃ m : Fin 16, m.1 < 2 ^ n.1 ∧ bitsL n.1 m.1 = (List.range n.1).filter fun k => [b0, b1, b2, b3].getD k false := by decide +kernel
  obtain ⟨m, m1, m2⟩ := key ⟨n, by omega⟩ (decide (0 ∈ A)) (decide (1 ∈ A)) (decide (2 ∈ A)) (decide (3 ∈ A))
  have e : (List.range n).filter (fun k => [decide (0 ∈ A), decide (1 ∈ A), decide (2 ∈ A), decide (3 ∈ A)].getD k false) = A := by
    have e1 : (List.range n).filter (fun k => [decide (0 ∈ A), decide (1 ∈ A), decide (2 ∈ A), decide (3 ∈ A)].getD k false) = (List.range n).filter (fun k => decide (k ∈ A)) := by
      refine List.filter_congr fun k hk => ?_
      rw [List.mem_range] at hk
      match k, (show k < 4 by omega) with
      | 0, _ | 1, _ | 2, _ | 3, _ => rfl
    rw [e1]
    refine rise_uniqN (List.Pairwise.sublist List.filter_sublist List.pairwise_lt_range) h2 fun a => ?_
    rw [List.mem_filter, List.mem_range, decide_eq_true_eq]
    exact ⟨fun h => h.2, fun h => ⟨h1 a h, h⟩⟩
  rw [e] at m2
  have m0 : m.1 ≠ 0 := fun z => by
    rw [z] at m2
    apply h3
    rw [← m2]
    unfold bitsL
    simp
  have m1 : m.1 < 2 ^ n := m1
  refine ⟨m.1 - 1, by omega, ?_⟩
  rw [show m.1 - 1 + 1 = m.1 by omega]
  exact m2
theorem mem_clos (hn : n ≤ 4) {A : List Nat} (h1 : ∀ a ∈ A, a < n) (h2 : A.Pairwise (· < ·)) (h3 : A ≠ []) (h4 : ∀ a ∈ A, outB n P A a = false) : A ∈ closL n P := by
  obtain ⟨m, hm, rfl⟩ := bits_all hn h1 h2 h3
  refine List.mem_filter.mpr ⟨List.mem_map.mpr ⟨m, List.mem_range.mpr hm, rfl⟩, List.all_eq_true.mpr fun a ha => ?_⟩
  rw [h4 a ha]
  rfl
theorem rgN {m : Nat} : rangeD 0 m = (List.range m).map nD := by
  unfold rangeD
  refine List.map_congr_left fun i _ => ?_
  rw [Int.zero_add]
theorem lc_bits {ρ : Rho} {i k : Nat} {j : Nat} (hn : n ≤ 4) (h : ∀ m : Nat, m < n → ∃ ρ1, Tgt.put (.one k) (nD m) ρ = some ρ1 ∧ ρ1[j]? = some (.dat (.int (i : Nat))) ∧ ρ1[k]? = some (.dat (.int (m : Nat)))) : lcN (.one k) (cT (cBin oEq (cBin oAnd (cBin oShr (cVar j) (cVar k)) (cC (.int 1))) (cC (.int 1)))) (cVar k) ρ ((List.range n).map nD) [] f = .ok (natsD (bitsL n i)) f := by
  refine lc_pure (by rw [List.length_range]; omega) fun m hm => ?_
  obtain ⟨ρ1, p1, v1, v2⟩ := h m (List.mem_range.mp hm)
  refine ⟨ρ1, p1, ?_, fun _ => by simp [v2]⟩
  have s := oShr_nat (n := i) (k := m)
  have a := oAnd_one (n := i / 2 ^ m)
  have hd : (decide (i / 2 ^ m % 2 = 1)) = decide (i / 2 ^ m % 2 = 1) := rfl
  generalize i / 2 ^ m = q at *
  have q2 : (((q % 2 : Nat) : Int) = 1) ↔ q % 2 = 1 := by omega
  generalize q % 2 = r at *
  simp [v1, v2, s, a, q2]
theorem q_closed_q (hn : n ≤ 4) : F_q_closed [.dat (rowsP n P)] f = .ok (.own ((closL n P).map tupN)) f := by
  have e0 := lenR (n := n) (P := P)
  have p16 : 2 ^ n ≤ 2 ^ 4 := Nat.pow_le_pow_right (by decide) hn
  have p1 : 1 ≤ 2 ^ n := Nat.one_le_two_pow
  have sh : oShl (.int 1) (.int (n : Nat)) = some (.dat (.int ((2 ^ n : Nat) : Int))) := by
    rw [oShl_int (by omega) (by omega) (by decide)]
    simp
  apply ev_is
  rw [u_q_closed, ev_dEnd]
  unfold S_q_closed
  refine ev_step (fun ρ g => g = f ∧ ρ = [.dat (rowsP n P), .own [], .emp, .emp, .emp]) (by simp) ?_
  rintro _ f ⟨rfl, rfl⟩
  refine ev_step (fun ρ g => g = f ∧ ∃ s2 s3 s4 : Slot, ρ = [.dat (rowsP n P), .own ((closL n P).map tupN), s2, s3, s4]) ?_ ?_
  · rw [e_for]
    unfold closL
    obtain ⟨M, hM⟩ : ∃ M, 2 ^ n = M + 1 := ⟨2 ^ n - 1, by omega⟩
    rw [hM] at sh p16 p1 ⊢
    rw [show M + 1 - 1 = M by omega]
    rw [Int.natCast_add] at sh
    simp [e0, sh, smallI_ok (n := (M : Int) + 1) (by omega) (by omega), smallI_ok (n := (1 : Int)) (by omega) (by omega)]
    refine ev_for (I := fun i ρ g => g = f ∧ ∃ s2 s3 s4 : Slot, ρ = [.dat (rowsP n P), .own ((((List.range i).map fun m => bitsL n (m + 1)).filter fun A => A.all fun i => !outB n P A i).map tupN), s2, s3, s4]) ?_ ?_ ?_
    · exact ⟨rfl, .emp, .emp, .emp, by simp⟩
    · rintro i d ρ g hd ⟨rfl, s2, s3, s4, rfl⟩
      obtain ⟨rfl, hi⟩ := range_at hd
      refine ⟨_, rfl, ?_⟩
      have hl : ((((List.range i).map fun m => bitsL n (m + 1)).filter fun A => A.all fun i => !outB n P A i).map tupN).length < 100000 := by
        rw [List.length_map]
        have := List.length_filter_le (fun A => A.all fun i => !outB n P A i) ((List.range i).map fun m => bitsL n (m + 1))
        rw [List.length_map, List.length_range] at this
        omega
      have er : List.range (i + 1) = List.range i ++ [i] := List.range_succ
      have e2 : (((List.range (i + 1)).map fun m => bitsL n (m + 1)).filter fun A => A.all fun i => !outB n P A i).map tupN = (((List.range i).map fun m => bitsL n (m + 1)).filter fun A => A.all fun i => !outB n P A i).map tupN ++ (if (bitsL n (i + 1)).all (fun j => !outB n P (bitsL n (i + 1)) j) = true then [tupN (bitsL n (i + 1))] else []) := by
        rw [er, List.map_append, List.filter_append, List.map_append]
        congr 1
        by_cases c : (bitsL n (i + 1)).all (fun j => !outB n P (bitsL n (i + 1)) j) = true
        · simp [c]
        · simp [c]
      have lcb : ∀ (R : PyData) (o s3 s4 : Slot), lcN (.one 4) (cT (cBin oEq (cBin oAnd (cBin oShr (cVar 2) (cVar 4)) (cC (.int 1))) (cC (.int 1)))) (cVar 4) [.dat R, o, .dat (.int ((i + 1 : Nat) : Int)), s3, s4] ((List.range n).map nD) [] g = .ok (natsD (bitsL n (i + 1))) g := fun R o s3 s4 => lc_bits hn fun m hm => ⟨_, rfl, rfl, rfl⟩
      have hb := bits_lt (n := n) (m := i + 1)
      have lb : (bitsL n (i + 1)).length ≤ n := by
        have := List.length_filter_le (fun k => decide ((i + 1) / 2 ^ k % 2 = 1)) (List.range n)
        rwa [List.length_range] at this
      rw [e2]
      generalize bitsL n (i + 1) = A at *
      generalize ((((List.range i).map fun m => bitsL n (m + 1)).filter fun A => A.all fun i => !outB n P A i).map tupN) = L at *
      have lco : ∀ (o s2 s4 : Slot), lcN (.one 4) (cT (cCall F_q_is_out [cVar 0, cVar 4, cVar 3])) (cVar 4) [.dat (rowsP n P), o, s2, .dat (.list (natsD A)), s4] (natsD A) [] g = .ok ((A.filter fun j => outB n P A j).map nD) g := fun o s2 s4 => by
        refine lc_pure (by omega) fun j hj => ⟨_, rfl, ?_, fun _ => by simp⟩
        have q := q_is_out_q (P := P) (f := g) (S := A) (s := .list (natsD A)) (.inr rfl) hn (hb j hj)
        generalize rowsP n P = R at *
        generalize natsD A = T at *
        simp [q]
      have eqO := eq_natL (A := A.filter fun j => outB n P A j)
      have cc : decide (A.filter (fun j => outB n P A j) = []) = A.all fun j => !outB n P A j := by
        rw [Bool.eq_iff_iff]
        simp [List.filter_eq_nil_iff]
      rw [cc] at eqO
      unfold natsD at eqO
      generalize hO : (A.filter fun j => outB n P A j).map nD = O at *
      have i1 : (1 : Int) + (i : Nat) = ((i + 1 : Nat) : Int) := by omega
      have tA : tupN A = .tuple (natsD A) := rfl
      rw [i1]
      have sqA : seqOf (.list (natsD A)) = some (natsD A) := rfl
      have rg := rgN (m := n)
      have tu : oTuple (.list (natsD A)) = some (.dat (.tuple (natsD A))) := rfl
      have lcb := lcb (rowsP n P)
      generalize rowsP n P = R at *
      generalize natsD A = T at *
      cases c : A.all (fun j => !outB n P A j) with
      | true =>
        rw [c] at eqO
        simp [-Int.natCast_add, e0, smallI_ok (n := (n : Int)) (by omega) (by omega), rg, lcb, sqA, lco, eqO, hl, tu, tA]
      | false =>
        rw [c] at eqO
        simp [-Int.natCast_add, e0, smallI_ok (n := (n : Int)) (by omega) (by omega), rg, lcb, sqA, lco, eqO, hl]
    · rintro ρ g ⟨rfl, s2, s3, s4, rfl⟩
      rw [range_len]
      exact ⟨_, rfl, rfl, s2, s3, s4, rfl⟩
  rintro _ f ⟨rfl, s2, s3, s4, rfl⟩
  simp
end
end Fp
namespace Fp
open PySem PySem.Spec L2 Dn
theorem len_subN {l m : List Nat} (hn : l.Nodup) (h : ∀ k, k ∈ l → k ∈ m) : l.length ≤ m.length := by
  have := len_sub (l := l.map fun (a : Nat) => (a : Int)) (m := m.map fun (a : Nat) => (a : Int)) (List.pairwise_map.mpr (hn.imp fun h => by omega)) fun k hk => by
    obtain ⟨a, ha, rfl⟩ := List.mem_map.mp hk
    exact List.mem_map.mpr ⟨a, h a ha, rfl⟩
  rwa [List.length_map, List.length_map] at this
noncomputable def ledB (n : Nat) (P : Nat → Nat → Rat) (i k : Nat) : Bool := @decide (Led n P i k) (Classical.propDecidable _)
theorem ledB_iff {n : Nat} {P : Nat → Nat → Rat} {i k : Nat} : ledB n P i k = true ↔ Led n P i k := by
  unfold ledB
  exact @decide_eq_true_iff _ (Classical.propDecidable _)
section
variable {n h : Nat} {P : Nat → Nat → Rat}
theorem Led.one (i k : Nat) (h1 : i < n) (h2 : k < n) (h : P i k ≠ 0) : Led n P i k := .step i k k h1 h (.refl k h2)
/-- what leads into a set from without steps into it somewhere -/
theorem led_cross {S : List Nat} : ∀ {i z : Nat}, Led n P i z → z ∈ S → i ∉ S → ∃ a b, a < n ∧ b < n ∧ a ∉ S ∧ b ∈ S ∧ P a b ≠ 0
  | _, _, .refl i h, hz, hi => absurd hz hi
  | _, _, .step i j k h1 h2 h3, hz, hi => by
    by_cases hj : j ∈ S
    · exact ⟨i, j, h1, h3.lt1, hi, hj, h2⟩
    · exact led_cross h3 hz hj
/-- a set that isn't led out of holds what its members lead to -/
theorem led_in {S : List Nat} (hS : ∀ a ∈ S, ∀ b, b < n → P a b ≠ 0 → b ∈ S) : ∀ {i z : Nat}, Led n P i z → i ∈ S → z ∈ S
  | _, _, .refl i h, hi => hi
  | _, _, .step i j k h1 h2 h3, hi => led_in hS h3 (hS i hi j h3.lt1 h2)
/-- kinds up to a number all lead to one kind, where each two lead to one -/
theorem home_of (h2 : ∀ i j, i < n → j < n → ∃ k, Led n P i k ∧ Led n P j k) : ∀ m, m < n → ∃ c, c < n ∧ ∀ k, k ≤ m → Led n P k c
  | 0, hm => ⟨0, hm, fun k hk => by
    have : k = 0 := by omega
    subst this
    exact .refl 0 hm⟩
  | m + 1, hm => by
    obtain ⟨c, hc, h⟩ := home_of h2 m (by omega)
    obtain ⟨d, d1, d2⟩ := h2 c (m + 1) hc hm
    refine ⟨d, d1.lt2, fun k hk => ?_⟩
    by_cases e : k = m + 1
    · subst e
      exact d2
    · exact (h k (by omega)).trans d1
theorem home_all (n1 : 1 ≤ n) (h2 : ∀ i j, i < n → j < n → ∃ k, Led n P i k ∧ Led n P j k) : ∃ c, c < n ∧ ∀ k, k < n → Led n P k c := by
  obtain ⟨c, hc, h⟩ := home_of h2 (n - 1) (by omega)
  exact ⟨c, hc, fun k hk => h k (by omega)⟩
/-- ways, and what they lead home -/
structure WaysOk (n : Nat) (P : Nat → Nat → Rat) (h : Nat) (ps : List (Nat × Nat)) : Prop where
  way : wayV P [h] ps 0 = none
  lt : ∀ p ∈ ps, p.1 < n ∧ p.2 < n
  nd : (h :: ps.map (·.1)).Nodup
theorem wayV_snoc : ∀ {ps : List (Nat × Nat)} {led : List Nat} {i a b : Nat}, wayV P led ps i = none → a ∉ led ++ ps.map (·.1) → b ∈ led ++ ps.map (·.1) → P a b ≠ 0 → wayV P led (ps ++ [(a, b)]) i = none
  | [], led, i, a, b, q, ha, hb, hp => by
    rw [List.map_nil, List.append_nil] at ha hb
    show wayV P led [(a, b)] i = none
    unfold wayV
    rw [if_neg (by simp [ha, hb, hp])]
    rfl
  | (c, d) :: r, led, i, a, b, q, ha, hb, hp => by
    rw [List.cons_append]
    unfold wayV at q ⊢
    split
    · rename_i z
      rw [if_pos z] at q
      cases q
    · rename_i z
      rw [if_neg z] at q
      exact wayV_snoc q (by simpa using ha) (by simpa using hb) hp
theorem WaysOk.nil (hh : h < n) : WaysOk n P h [] := ⟨rfl, fun p hp => (by cases hp), by simp⟩
theorem WaysOk.snoc {ps : List (Nat × Nat)} {a b : Nat} (w : WaysOk n P h ps) (ha : a < n) (hb : b < n) (h1 : a ∉ h :: ps.map (·.1)) (h2 : b ∈ h :: ps.map (·.1)) (h3 : P a b ≠ 0) : WaysOk n P h (ps ++ [(a, b)]) := by
  refine ⟨wayV_snoc w.way h1 h2 h3, fun p hp => ?_, ?_⟩
  · rcases List.mem_append.mp hp with hp | hp
    · exact w.lt p hp
    · rw [List.mem_singleton.mp hp]
      exact ⟨ha, hb⟩
  · have : h :: (ps ++ [(a, b)]).map (·.1) = (h :: ps.map (·.1)) ++ [a] := by simp
    rw [this]
    refine List.nodup_append.mpr ⟨w.nd, by simp, fun x hx y hy => ?_⟩
    rw [List.mem_singleton.mp hy]
    exact fun z => h1 (z ▸ hx)
theorem nodup_lt {l : List Nat} (h : l.Nodup) (q : ∀ x ∈ l, x < n) : l.length ≤ n := by
  have s := len_subN h (m := List.range n) fun x hx => List.mem_range.mpr (q x hx)
  rwa [List.length_range] at s
theorem WaysOk.len {ps : List (Nat × Nat)} (hh : h < n) (w : WaysOk n P h ps) : ps.length + 1 ≤ n := by
  have := nodup_lt (n := n) w.nd fun x hx => by
    rcases List.mem_cons.mp hx with rfl | hx
    · exact hh
    · obtain ⟨p, hp, rfl⟩ := List.mem_map.mp hx
      exact (w.lt p hp).1
  simpa using this
theorem vY_none (ps : List (Nat × Nat)) : vY n P h ps = none ↔ wayV P [h] ps 0 = none ∧ ∀ k, k < n → k ∈ h :: ps.map (·.1) := by
  unfold vY
  cases q : wayV P [h] ps 0 with
  | some i => simp
  | none =>
    simp only [Option.map_eq_none_iff, List.find?_eq_none, List.mem_range, Bool.not_eq_true', decide_eq_false_iff_not, Decidable.not_not, true_and]
/-- where all lead home, there are ways -/
theorem ways_exist (hh : h < n) (hl : ∀ k, k < n → Led n P k h) : ∀ m ps, WaysOk n P h ps → ps.length + m = n - 1 → ∃ ps, WaysOk n P h ps ∧ ps.length + 1 = n
  | 0, ps, w, e => ⟨ps, w, by omega⟩
  | m + 1, ps, w, e => by
    have : ∃ k, k < n ∧ k ∉ h :: ps.map (·.1) := by
      apply Classical.byContradiction
      intro z
      have this := len_subN (List.nodup_range (n := n)) (m := h :: ps.map (·.1)) fun k hk => by
        apply Classical.byContradiction
        intro z2
        exact z ⟨k, List.mem_range.mp hk, z2⟩
      rw [List.length_range, List.length_cons, List.length_map] at this
      omega
    obtain ⟨k, hk, nk⟩ := this
    obtain ⟨a, b, ha, hb, na, mb, hp⟩ := led_cross (hl k hk) (S := h :: ps.map (·.1)) (by simp) nk
    exact ways_exist hh hl m _ (w.snoc ha hb na mb hp) (by rw [List.length_append, List.length_singleton]; omega)
theorem full_ways {ps : List (Nat × Nat)} (hh : h < n) (w : WaysOk n P h ps) (e : ps.length + 1 = n) : vY n P h ps = none := by
  refine (vY_none ps).mpr ⟨w.way, fun k hk => ?_⟩
  apply Classical.byContradiction
  intro z
  have := nodup_lt (n := n) (l := k :: h :: ps.map (·.1)) (List.nodup_cons.mpr ⟨z, w.nd⟩) fun x hx => by
    rcases List.mem_cons.mp hx with rfl | hx
    · exact hk
    · rcases List.mem_cons.mp hx with rfl | hx
      · exact hh
      · obtain ⟨p, hp, rfl⟩ := List.mem_map.mp hx
        exact (w.lt p hp).1
  rw [List.length_cons, List.length_cons, List.length_map] at this
  omega
end
end Fp
namespace Fp
open PySem PySem.Spec L2 Dn
def rL (n : Nat) (P : Nat → Nat → Rat) (i : Nat) : Nat → List Nat
  | 0 => [i]
  | t + 1 => (List.range n).filter fun k => decide (k ∈ rL n P i t) || (rL n P i t).any fun j => !decide (P j k = 0)
noncomputable def rchL (n : Nat) (P : Nat → Nat → Rat) (i : Nat) : List Nat := (List.range n).filter fun k => ledB n P i k
section
variable {n i : Nat} {P : Nat → Nat → Rat} {f : Feed}
theorem rL_lt (hi : i < n) : ∀ t, ∀ k ∈ rL n P i t, k < n
  | 0, k, hk => by rw [List.mem_singleton.mp hk]; exact hi
  | t + 1, k, hk => List.mem_range.mp (List.mem_filter.mp hk).1
theorem rL_nd : ∀ t, (rL n P i t).Nodup
  | 0 => by simp [rL]
  | t + 1 => List.Nodup.sublist List.filter_sublist List.nodup_range
theorem rL_up (hi : i < n) (t : Nat) : ∀ k ∈ rL n P i t, k ∈ rL n P i (t + 1) := fun k hk => List.mem_filter.mpr ⟨List.mem_range.mpr (rL_lt hi t k hk), by simp [hk]⟩
theorem rL_led (hi : i < n) : ∀ t, ∀ k ∈ rL n P i t, Led n P i k
  | 0, k, hk => by rw [List.mem_singleton.mp hk]; exact .refl i hi
  | t + 1, k, hk => by
    obtain ⟨h1, h2⟩ := List.mem_filter.mp hk
    rw [List.mem_range] at h1
    simp only [Bool.or_eq_true, decide_eq_true_eq, List.any_eq_true, Bool.not_eq_true', decide_eq_false_iff_not] at h2
    rcases h2 with h2 | ⟨j, hj, hp⟩
    · exact rL_led hi t k h2
    · exact (rL_led hi t j hj).trans (Led.one j k (rL_lt hi t j hj) h1 hp)
def Stb (n : Nat) (P : Nat → Nat → Rat) (i t : Nat) : Prop := ∀ k ∈ rL n P i (t + 1), k ∈ rL n P i t
theorem stb_all (hi : i < n) {t : Nat} (h : Stb n P i t) : ∀ k, Led n P i k → k ∈ rL n P i t := fun k hk => by
  have i0 : ∀ t, i ∈ rL n P i t := fun t => by
    induction t with
    | zero => exact List.mem_singleton.mpr rfl
    | succ t ih => exact rL_up hi t i ih
  refine led_in (S := rL n P i t) (fun a ha b hb hp => h b (List.mem_filter.mpr ⟨List.mem_range.mpr hb, ?_⟩)) hk (i0 t)
  simp only [Bool.or_eq_true, decide_eq_true_eq, List.any_eq_true, Bool.not_eq_true', decide_eq_false_iff_not]
  exact .inr ⟨a, ha, hp⟩
theorem rL_grow (hi : i < n) : ∀ t, (∃ s, s < t ∧ Stb n P i s) ∨ t + 1 ≤ (rL n P i t).length
  | 0 => .inr (by simp [rL])
  | t + 1 => by
    rcases rL_grow hi t with ⟨s, h1, h2⟩ | h
    · exact .inl ⟨s, by omega, h2⟩
    · by_cases z : Stb n P i t
      · exact .inl ⟨t, by omega, z⟩
      · right
        have : ∃ k, k ∈ rL n P i (t + 1) ∧ k ∉ rL n P i t := by
          apply Classical.byContradiction
          intro q
          exact z fun k hk => by
            apply Classical.byContradiction
            intro q2
            exact q ⟨k, hk, q2⟩
        obtain ⟨k, k1, k2⟩ := this
        have := len_subN (l := k :: rL n P i t) (m := rL n P i (t + 1)) (List.nodup_cons.mpr ⟨k2, rL_nd t⟩) fun x hx => by
          rcases List.mem_cons.mp hx with rfl | hx
          · exact k1
          · exact rL_up hi t x hx
        rw [List.length_cons] at this
        omega
theorem rL_mono (hi : i < n) {s : Nat} : ∀ d, ∀ k ∈ rL n P i s, k ∈ rL n P i (s + d)
  | 0, k, hk => hk
  | d + 1, k, hk => rL_up hi (s + d) k (rL_mono hi d k hk)
theorem rL_is (hi : i < n) : rL n P i n = rchL n P i := by
  have hm : ∀ k, k ∈ rL n P i n ↔ Led n P i k := fun k => by
    refine ⟨rL_led hi n k, fun hk => ?_⟩
    rcases rL_grow (P := P) hi n with ⟨s, h1, h2⟩ | h
    · have := rL_mono hi (n - s) k (stb_all hi h2 k hk)
      rwa [show s + (n - s) = n by omega] at this
    · have := nodup_lt (rL_nd (P := P) (i := i) n) (rL_lt hi n)
      omega
  refine rise_uniqN ?_ (List.Pairwise.sublist List.filter_sublist List.pairwise_lt_range) fun k => ?_
  · cases n with
    | zero => omega
    | succ m => exact List.Pairwise.sublist List.filter_sublist List.pairwise_lt_range
  · rw [hm]
    unfold rchL
    rw [List.mem_filter, ledB_iff, List.mem_range]
    exact ⟨fun h => ⟨h.lt2, h⟩, fun h => h.2⟩
theorem ne_natL {A : List Nat} : oNe (.list (natsD A)) (.list []) = some (.dat (.bool (!decide (A = [])))) := by
  have := ne_intL (a := A.map fun (a : Nat) => (a : Int)) (b := [])
  rw [List.map_map] at this
  refine Eq.trans this ?_
  congr 3
  cases A <;> rfl
theorem mem_rch (hi : i < n) {k : Nat} : k ∈ rchL n P i ↔ Led n P i k := by
  unfold rchL
  rw [List.mem_filter, ledB_iff, List.mem_range]
  exact ⟨fun h => h.2, fun h => ⟨h.lt2, h⟩⟩
theorem q_reached_q (hn : n ≤ 4) (hi : i < n) : F_q_reached [.dat (rowsP n P), .dat (.int (i : Nat))] f = .ok (.dat (tupN (rchL n P i))) f := by
  have e0 := lenR (n := n) (P := P)
  rw [← rL_is hi]
  apply ev_is
  rw [u_q_reached, ev_dEnd]
  unfold S_q_reached
  refine ev_step (fun ρ g => g = f ∧ ρ = [.dat (rowsP n P), .dat (.int (i : Nat)), .own (natsD (rL n P i 0)), .emp, .emp, .emp]) (by simp [rL, natsD]) ?_
  rintro _ f ⟨rfl, rfl⟩
  refine ev_step (fun ρ g => g = f ∧ ρ = [.dat (rowsP n P), .dat (.int (i : Nat)), .dat (.list (natsD (rL n P i 0))), .emp, .emp, .emp]) (by simp) ?_
  rintro _ f ⟨rfl, rfl⟩
  refine ev_stp (fun ρ g => g = f ∧ ∃ s3 s4 s5 : Slot, ρ = [.dat (rowsP n P), .dat (.int (i : Nat)), .dat (.list (natsD (rL n P i n))), s3, s4, s5]) ?_ ?_
  · intro Q' hQ
    rw [e_for]
    simp [e0, smallI_ok (n := (n : Int)) (by omega) (by omega)]
    refine ev_for (I := fun t ρ g => g = f ∧ ∃ s3 s4 s5 : Slot, ρ = [.dat (rowsP n P), .dat (.int (i : Nat)), .dat (.list (natsD (rL n P i t))), s3, s4, s5]) ⟨rfl, .emp, .emp, .emp, rfl⟩ ?_ ?_
    · rintro t d ρ g hd ⟨rfl, s3, s4, s5, rfl⟩
      obtain ⟨rfl, ht⟩ := range_at hd
      refine ⟨_, rfl, ?_⟩
      have hlt := rL_lt (P := P) hi t
      have hl := nodup_lt (rL_nd (P := P) (i := i) t) hlt
      have es : rL n P i (t + 1) = (List.range n).filter fun k => decide (k ∈ rL n P i t) || (rL n P i t).any fun j => !decide (P j k = 0) := rfl
      rw [es]
      generalize rL n P i t = A at *
      have lc1 : ∀ (k : Nat) (R1 : PyData) (s1 s3 s5 : Slot), k < n → lcN (.one 5) (cT (cBin oNe (cBin oIx (cBin oIx (cVar 0) (cVar 5)) (cVar 4)) (cTup [cC (.int 0), cC (.int 1)]))) (cVar 5) [.dat (rowsP n P), s1, .dat R1, s3, .dat (.int (k : Nat)), s5] (A.map nD) [] g = .ok ((A.filter fun j => !decide (P j k = 0)).map nD) g := fun k R1 s1 s3 s5 hk => by
        refine lc_pure (by omega) fun j hj => ⟨_, rfl, ?_, fun _ => by simp⟩
        have e1 := ixR (P := P) (hlt j hj)
        have e2 := ixC (P := P) (i := j) hk
        have e3 := ne_enc0 (x := P j k)
        generalize rowsP n P = R at *
        generalize rwP n P j = r at *
        generalize enc (P j k) = x at *
        generalize decide (P j k = 0) = b at *
        simp [e1, e2, e3]
      have lc2 : ∀ (s1 s3 s4 s5 : Slot), lcN (.one 4) (tOrX (cT (cBin (oInF false) (cVar 4) (cVar 2))) (cT (cBin oNe (cLc (iSeq (cVar 2)) (.one 5) (cT (cBin oNe (cBin oIx (cBin oIx (cVar 0) (cVar 5)) (cVar 4)) (cTup [cC (.int 0), cC (.int 1)]))) (cVar 5) [5]) (cLst [])))) (cVar 4) [.dat (rowsP n P), s1, .dat (.list (natsD A)), s3, s4, s5] ((List.range n).map nD) [] g = .ok (((List.range n).filter fun k => decide (k ∈ A) || A.any fun j => !decide (P j k = 0)).map nD) g := fun s1 s3 s4 s5 => by
        refine lc_pure (by rw [List.length_range]; omega) fun k hk => ⟨_, rfl, ?_, fun _ => by simp⟩
        rw [List.mem_range] at hk
        have i1 := inNs (neg := false) (a := k) (A := A)
        rw [Bool.false_xor] at i1
        have l1 := lc1 k (.list (natsD A)) s1 s3 .emp hk
        have nn := ne_natL (A := A.filter fun j => !decide (P j k = 0))
        have an : (!decide (A.filter (fun j => !decide (P j k = 0)) = [])) = A.any fun j => !decide (P j k = 0) := by
          rw [Bool.eq_iff_iff]
          simp [List.filter_eq_nil_iff]
        rw [an] at nn
        unfold natsD at nn l1 i1 ⊢
        generalize (A.filter fun j => !decide (P j k = 0)).map nD = L at *
        generalize A.map nD = T at *
        generalize rowsP n P = R at *
        cases h1 : decide (k ∈ A) with
        | true =>
          rw [h1] at i1
          simp [i1]
        | false =>
          rw [h1] at i1
          simp [i1, l1, nn]
      have lc2 := lc2 (.dat (.int (i : Nat)))
      have rg := rgN (m := n)
      have hJ : ∀ (s3 s4 s5 : Slot), ∃ t3 t4 t5 : Slot, [Slot.dat (rowsP n P), .dat (.int (i : Nat)), .dat (.list (((List.range n).filter fun k => decide (k ∈ A) || A.any fun j => !decide (P j k = 0)).map nD)), s3, s4, s5] = [.dat (rowsP n P), .dat (.int (i : Nat)), .dat (.list (natsD ((List.range n).filter fun k => decide (k ∈ A) || A.any fun j => !decide (P j k = 0)))), t3, t4, t5] := fun s3 s4 s5 => ⟨s3, s4, s5, rfl⟩
      have e0 := lenR (n := n) (P := P)
      generalize (((List.range n).filter fun k => decide (k ∈ A) || A.any fun j => !decide (P j k = 0)).map nD) = L at *
      generalize (natsD ((List.range n).filter fun k => decide (k ∈ A) || A.any fun j => !decide (P j k = 0))) = L2 at *
      generalize rowsP n P = R at *
      simp [e0, smallI_ok (n := (n : Int)) (by omega) (by omega), rg, lc2]
      simpa using hJ .emp .emp .emp
    · rintro ρ g ⟨rfl, s3, s4, s5, rfl⟩
      rw [range_len]
      exact ⟨_, rfl, hQ _ _ ⟨rfl, s3, s4, s5, rfl⟩⟩
  rintro _ f ⟨rfl, s3, s4, s5, rfl⟩
  generalize rL n P i n = A
  simp [tupN]
noncomputable def homL (n : Nat) (P : Nat → Nat → Rat) : List Nat := (List.range n).filter fun k => (List.range n).all fun i => ledB n P i k
theorem mem_hom {k : Nat} : k ∈ homL n P ↔ k < n ∧ ∀ i, i < n → Led n P i k := by
  unfold homL
  rw [List.mem_filter, List.mem_range, List.all_eq_true]
  exact ⟨fun ⟨h1, h2⟩ => ⟨h1, fun i hi => ledB_iff.mp (h2 i (List.mem_range.mpr hi))⟩, fun ⟨h1, h2⟩ => ⟨h1, fun i hi => ledB_iff.mpr (h2 i (List.mem_range.mp hi))⟩⟩
theorem dep_tupN {A : List Nat} : (tupN A).depth ≤ 1 := by
  show PyData.depthAll (natsD A) + 1 ≤ 1
  induction A with
  | nil => decide
  | cons a r ih =>
    show max (PyData.depth (nD a)) (PyData.depthAll (natsD r)) + 1 ≤ 1
    have : PyData.depth (nD a) = 0 := rfl
    omega
theorem shaped_tupNs : ∀ {C : List (List Nat)}, SeqAt.shaped (.list (C.map tupN)) = true := fun {C} => by
  refine shaped_list (canAll_iff.mpr fun x hx => ?_) ?_
  · obtain ⟨A, _, rfl⟩ := List.mem_map.mp hx
    refine tup_can fun y hy => ?_
    obtain ⟨a, _, rfl⟩ := List.mem_map.mp hy
    rfl
  · have : PyData.depthAll (C.map tupN) ≤ 1 := by
      induction C with
      | nil => decide
      | cons A r ih =>
        show max (tupN A).depth (PyData.depthAll (r.map tupN)) ≤ 1
        have := dep_tupN (A := A)
        omega
    omega
theorem eq_tupNs {C : List (List Nat)} : oEq (.list (C.map tupN)) (.list []) = some (.dat (.bool (decide (C = [])))) := by
  rw [oEq_of shaped_tupNs (by rfl)]
  cases C with
  | nil => rfl
  | cons A r =>
    show some (RV.dat (PyData.bool (PyData.eqvAll (tupN A :: r.map tupN) []))) = _
    simp [PyData.eqvAll]
theorem q_homes_q (hn : n ≤ 4) : F_q_homes [.dat (rowsP n P)] f = .ok (.own (natsD (homL n P))) f := by
  have e0 := lenR (n := n) (P := P)
  have lc1 : ∀ s1 s2 s3 : Slot, lcN (.one 2) cYes (cCall F_q_reached [cVar 0, cVar 2]) [.dat (rowsP n P), s1, s2, s3] ((List.range n).map nD) [] f = .ok ((List.range n).map fun i => tupN (rchL n P i)) f := fun s1 s2 s3 => by
    refine lc_map (by rw [List.length_range]; omega) fun i hi => ⟨_, rfl, ?_⟩
    rw [List.mem_range] at hi
    have q := q_reached_q (P := P) (f := f) hn hi
    generalize rowsP n P = R at *
    simp [q]
  have lc2 : ∀ (k : Nat) (s0 s1 s3 : Slot), k < n → lcN (.one 3) (cT (cBin (oInF true) (cVar 2) (cVar 3))) (cVar 3) [s0, s1, .dat (.int (k : Nat)), s3] ((List.range n).map fun i => tupN (rchL n P i)) [] f = .ok (((List.range n).filter fun i => !ledB n P i k).map fun i => tupN (rchL n P i)) f := fun k s0 s1 s3 hk => by
    refine lc_pure (by rw [List.length_range]; omega) fun i hi => ⟨_, rfl, ?_, fun _ => by simp⟩
    rw [List.mem_range] at hi
    have q := inNt (neg := true) (a := k) (A := rchL n P i)
    rw [Bool.true_xor] at q
    have e : decide (k ∈ rchL n P i) = ledB n P i k := by
      rw [Bool.eq_iff_iff, decide_eq_true_eq, ledB_iff]
      exact mem_rch hi
    rw [e] at q
    have q : oInF true (.int (k : Nat)) (tupN (rchL n P i)) = some (.dat (.bool (!ledB n P i k))) := q
    generalize tupN (rchL n P i) = T at *
    simp [q]
  have eqL : ∀ (l : List Nat) (g : Nat → List Nat), oEq (.list (l.map fun i => tupN (g i))) (.list []) = some (.dat (.bool (decide (l = [])))) := fun l g => by
    have := eq_tupNs (C := l.map g)
    rw [List.map_map] at this
    refine Eq.trans this ?_
    congr 3
    cases l <;> rfl
  have lc3 : ∀ (s0 s2 s3 : Slot), lcN (.one 2) (cT (cBin oEq (cLc (iSeq (cVar 1)) (.one 3) (cT (cBin (oInF true) (cVar 2) (cVar 3))) (cVar 3) [3]) (cLst []))) (cVar 2) [s0, .dat (.list ((List.range n).map fun i => tupN (rchL n P i))), s2, s3] ((List.range n).map nD) [] f = .ok ((homL n P).map nD) f := fun s0 s2 s3 => by
    refine lc_pure (by rw [List.length_range]; omega) fun k hk => ⟨_, rfl, ?_, fun _ => by simp⟩
    rw [List.mem_range] at hk
    have l2 := lc2 k s0 (.dat (.list ((List.range n).map fun i => tupN (rchL n P i)))) .emp hk
    have e2 := eqL ((List.range n).filter fun i => !ledB n P i k) (rchL n P)
    have e3 : decide ((List.range n).filter (fun i => !ledB n P i k) = []) = (List.range n).all fun i => ledB n P i k := by
      rw [Bool.eq_iff_iff]
      simp [List.filter_eq_nil_iff]
    rw [e3] at e2
    generalize (((List.range n).filter fun i => !ledB n P i k).map fun i => tupN (rchL n P i)) = L at *
    generalize ((List.range n).map fun i => tupN (rchL n P i)) = L2 at *
    simp [l2, e2]
  have rg := rgN (m := n)
  apply ev_is
  rw [u_q_homes, ev_dEnd]
  unfold S_q_homes natsD
  generalize (homL n P).map nD = H at *
  generalize ((List.range n).map fun i => tupN (rchL n P i)) = L2 at *
  generalize rowsP n P = R at *
  simp [e0, smallI_ok (n := (n : Int)) (by omega) (by omega), rg, lc1, lc3]
end
end Fp
namespace Fp
open PySem PySem.Spec L2 Dn
/-- chances of rows that may be reckoned with -/
structure PW (n : Nat) (P : Nat → Nat → Rat) (W : Nat) : Prop where
  n1 : 1 ≤ n
  n4 : n ≤ 4
  W0 : 0 < W
  W1 : W ≤ 2 ^ 31
  ok : ∀ i j, i < n → j < n → Wh W (P i j) ∧ 0 ≤ P i j ∧ P i j ≤ 1
theorem num_gt {x : Rat} (h : 0 ≤ x) : decide (0 < x.num) = decide (0 < x) := by
  by_cases z : x = 0
  · subst z
    decide
  · have p : 0 < x := by grind
    have := num_pos p
    simp [p, this]
theorem mul01 {a b : Rat} (h : 0 ≤ a ∧ a ≤ 1) (k : 0 ≤ b ∧ b ≤ 1) : 0 ≤ a * b ∧ a * b ≤ 1 := by
  obtain ⟨h1, h2⟩ := h
  obtain ⟨k1, k2⟩ := k
  refine ⟨Rat.mul_nonneg h1 k1, ?_⟩
  have := Rat.mul_nonneg h1 (show 0 ≤ 1 - b by grind)
  grind
section
variable {n h W : Nat} {P : Nat → Nat → Rat} {f : Feed}
theorem sent_fst (n : Nat) : ∀ (l : List Nat) (m : Nat), (sentL n l m).map (·.1) = l
  | [], m => rfl
  | k :: r, m => by
    show k :: (sentL n r (m / n)).map (·.1) = k :: r
    rw [sent_fst n r]
theorem sent_lt (n0 : 0 < n) : ∀ (l : List Nat) (m : Nat), ∀ p ∈ sentL n l m, p.2 < n
  | [], m, p, hp => by cases hp
  | k :: r, m, p, hp => by
    rcases List.mem_cons.mp hp with rfl | hp
    · exact Nat.mod_lt _ n0
    · exact sent_lt n0 r _ p hp
theorem sent_len (n : Nat) (l : List Nat) (m : Nat) : (sentL n l m).length = l.length := by
  have := congrArg List.length (sent_fst n l m)
  rwa [List.length_map] at this
theorem oth_len : (othL n h).length ≤ n := by
  have := List.length_filter_le (fun k => !decide (k = h)) (List.range n)
  rwa [List.length_range] at this
theorem oth_mem {k : Nat} : k ∈ othL n h ↔ k < n ∧ k ≠ h := by
  unfold othL
  rw [List.mem_filter, List.mem_range]
  simp
theorem oth_nd : (othL n h).Nodup := List.Nodup.sublist List.filter_sublist List.nodup_range
theorem prod_app : ∀ (s r : List (Nat × Nat)) (c : Rat), prodT P c (s ++ r) = prodT P (prodT P c s) r
  | [], r, c => rfl
  | p :: s, r, c => prod_app s r _
theorem prod_ok (w : PW n P W) : ∀ (s : List (Nat × Nat)) (c : Rat) (E : Nat), (∀ p ∈ s, p.1 < n ∧ p.2 < n) → Wh E c → 0 ≤ c ∧ c ≤ 1 → Wh (E * W ^ s.length) (prodT P c s) ∧ 0 ≤ prodT P c s ∧ prodT P c s ≤ 1
  | [], c, E, _, hc, h1 => by
    rw [List.length_nil, Nat.pow_zero, Nat.mul_one]
    exact ⟨hc, h1⟩
  | p :: s, c, E, hp, hc, h1 => by
    obtain ⟨a1, a2⟩ := hp p List.mem_cons_self
    obtain ⟨x1, x2⟩ := w.ok p.1 p.2 a1 a2
    have := prod_ok w s (c * P p.1 p.2) (E * W) (fun q hq => hp q (List.mem_cons_of_mem _ hq)) (hc.mul x1) (mul01 h1 x2)
    rw [List.length_cons, Nat.pow_succ, show E * (W ^ s.length * W) = E * W * W ^ s.length by rw [Nat.mul_assoc, Nat.mul_comm W]]
    exact this
theorem wh1T : Wh 1 (1 : Rat) := ⟨1, by grind⟩
/-- one way's chance -/
theorem prod_sz (w : PW n P W) {s : List (Nat × Nat)} (hs : s.length ≤ 4) (hp : ∀ p ∈ s, p.1 < n ∧ p.2 < n) : Wh (W ^ 4) (prodT P 1 s) ∧ 0 ≤ prodT P 1 s ∧ prodT P 1 s ≤ 1 := by
  obtain ⟨a, b⟩ := prod_ok w s 1 1 hp wh1T ⟨by decide, by decide⟩
  rw [Nat.one_mul] at a
  exact ⟨a.up (Nat.pow_dvd_pow W hs), b⟩
theorem w4 (w : PW n P W) : W ^ 4 ≤ 2 ^ 124 := by
  have := Nat.pow_le_pow_left w.W1 4
  rw [← Nat.pow_mul] at this
  exact this
theorem twt (w : PW n P W) (h' : h < n) (m : Nat) : Wh (W ^ 4) (prodT P 1 (sentL n (othL n h) m)) ∧ 0 ≤ prodT P 1 (sentL n (othL n h) m) ∧ prodT P 1 (sentL n (othL n h) m) ≤ 1 := by
  have n4 := w.n4
  refine prod_sz w (by rw [sent_len]; have := oth_len (n := n) (h := h); omega) fun p hp => ⟨?_, sent_lt w.n1 _ _ p hp⟩
  have : p.1 ∈ othL n h := by
    rw [← sent_fst n (othL n h) m]
    exact List.mem_map_of_mem hp
  exact (oth_mem.mp this).1
def tt (n : Nat) (P : Nat → Nat → Rat) (h m : Nat) : Rat := if goodT n h m = true then prodT P 1 (sentL n (othL n h) m) else 0
theorem tt_ok (w : PW n P W) (h' : h < n) (m : Nat) : Wh (W ^ 4) (tt n P h m) ∧ 0 ≤ tt n P h m ∧ tt n P h m ≤ 1 := by
  unfold tt
  split
  · exact twt w h' m
  · exact ⟨wh_0, Rat.le_refl, by decide⟩
theorem tw_part (w : PW n P W) (h' : h < n) (m : Nat) (hm : m ≤ 64) : Wh (W ^ 4) (rs m (tt n P h)) ∧ 0 ≤ rs m (tt n P h) ∧ Ab ((64 : Nat) : Rat) (rs m (tt n P h)) := by
  refine ⟨rs_wh fun i _ => (tt_ok w h' i).1, rs_nn fun i _ => (tt_ok w h' i).2.1, ?_⟩
  have := rs_ab (n := m) (B := 1) (g := tt n P h) fun i _ => by
    have := tt_ok w h' i
    simpa using ab_01 this.2.1 this.2.2
  rw [Nat.mul_one] at this
  exact this.up (Rat.natCast_le_natCast.mpr hm)
theorem tw_sz (w : PW n P W) (h' : h < n) (m : Nat) (hm : m ≤ 64) : Sz 200 (rs m (tt n P h)) := by
  obtain ⟨a, b, c⟩ := tw_part w h' m hm
  refine ab_sz (Nat.pow_pos w.W0) a c (by decide) ?_
  have := w4 w
  omega
theorem sz01w {x : Rat} (w : PW n P W) (h : Wh (W ^ 4) x) (h0 : 0 ≤ x) (h1 : x ≤ 1) : Sz 200 x := sz01 (Nat.pow_pos w.W0) h h0 h1 (by have := w4 w; omega)
/-- the dict of where kinds are sent -/
structure SentD (kvs : List (Int × PyData)) (q : List (Nat × Nat)) : Prop where
  get : ∀ k : Nat, getK kvs (k : Int) = (q.find? fun p => decide (p.1 = k)).map fun p => .int (p.2 : Nat)
  len : kvs.length ≤ q.length
theorem SentD.nil : SentD [] [] := ⟨fun _ => rfl, Nat.le_refl 0⟩
theorem SentD.snoc {kvs : List (Int × PyData)} {q : List (Nat × Nat)} {k v : Nat} (s : SentD kvs q) (hk : k ∉ q.map (·.1)) : SentD (setK kvs (k : Int) (.int (v : Nat))) (q ++ [(k, v)]) := by
  refine ⟨fun j => ?_, ?_⟩
  · rw [setK_get, List.find?_append]
    by_cases e : k = j
    · subst e
      rw [if_pos rfl]
      have : q.find? (fun p => decide (p.1 = k)) = none := List.find?_eq_none.mpr fun p hp => by
        simp only [decide_eq_true_eq]
        exact fun z => hk (z ▸ List.mem_map_of_mem hp)
      rw [this]
      simp
    · rw [if_neg (fun z => e (by omega)), s.get j]
      cases q.find? (fun p => decide (p.1 = j)) with
      | some p => rfl
      | none => simp [e]
  · rw [List.length_append, List.length_singleton]
    have := setK_len kvs (k : Int) (.int (v : Nat))
    have := s.len
    omega
theorem iter_add (g : Nat → Nat) : ∀ a k, iterN g (a + 1) k = g (iterN g a k)
  | 0, k => rfl
  | a + 1, k => by
    show iterN g (a + 1) (g k) = g (iterN g a (g k))
    exact iter_add g a (g k)
theorem q_trees_q (w : PW n P W) (h' : h < n) : F_q_trees [.dat (rowsP n P), .dat (.int (h : Nat))] f = .ok (.dat (enc (tw n P h))) f := by
  have n1 := w.n1
  have n4 := w.n4
  have e0 := lenR (n := n) (P := P)
  have rg := rgN (m := n)
  have en0 : (enc 0 : PyData) = .tuple [.int 0, .int 1] := rfl
  have en1 : (enc 1 : PyData) = .tuple [.int 1, .int 1] := rfl
  have lo := oth_len (n := n) (h := h)
  have lcO : ∀ (s0 s2 s3 s4 s5 s6 s7 s8 s9 s10 s11 : Slot), lcN (.one 9) (cT (cBin oNe (cVar 9) (cVar 1))) (cVar 9) [s0, .dat (.int (h : Nat)), s2, s3, s4, s5, s6, s7, s8, s9, s10, s11] ((List.range n).map nD) [] f = .ok (natsD (othL n h)) f := fun s0 s2 s3 s4 s5 s6 s7 s8 s9 s10 s11 => by
    refine lc_pure (by rw [List.length_range]; omega) fun k hk => ⟨_, rfl, ?_, fun _ => by simp⟩
    simp
    omega
  have cn : (([1, 1, 2, 9, 64] : List Nat).map fun (a : Nat) => PyData.int a)[n]? = some (.int (cntT n : Nat)) := by
    unfold cntT
    match n, n4 with
    | 0, _ | 1, _ | 2, _ | 3, _ | 4, _ => rfl
  have c64 : cntT n ≤ 64 := by
    unfold cntT
    match n, n4 with
    | 0, _ | 1, _ | 2, _ | 3, _ | 4, _ => decide
  apply ev_is
  rw [u_q_trees, ev_dEnd]
  unfold S_q_trees
  refine ev_step (fun ρ g => g = f ∧ ρ = [.dat (rowsP n P), .dat (.int (h : Nat)), .dat (.int (n : Nat)), .emp, .emp, .emp, .emp, .emp, .emp, .emp, .emp, .emp]) (by simp [e0]) ?_
  rintro _ f ⟨rfl, rfl⟩
  refine ev_step (fun ρ g => g = f ∧ ρ = [.dat (rowsP n P), .dat (.int (h : Nat)), .dat (.int (n : Nat)), .own (natsD (othL n h)), .emp, .emp, .emp, .emp, .emp, .emp, .emp, .emp]) (by simp [smallI_ok (n := (n : Int)) (by omega) (by omega), rg, lcO]) ?_
  rintro _ f ⟨rfl, rfl⟩
  refine ev_step (fun ρ g => g = f ∧ ρ = [.dat (rowsP n P), .dat (.int (h : Nat)), .dat (.int (n : Nat)), .dat (.list (natsD (othL n h))), .emp, .emp, .emp, .emp, .emp, .emp, .emp, .emp]) (by simp) ?_
  rintro _ f ⟨rfl, rfl⟩
  refine ev_step (fun ρ g => g = f ∧ ρ = [.dat (rowsP n P), .dat (.int (h : Nat)), .dat (.int (n : Nat)), .dat (.list (natsD (othL n h))), .dat (enc (rs 0 (tt n P h))), .emp, .emp, .emp, .emp, .emp, .emp, .emp]) (by rw [show rs 0 (tt n P h) = 0 from rfl, en0]; simp) ?_
  rintro _ f ⟨rfl, rfl⟩
  refine ev_stp (fun ρ g => g = f ∧ ∃ s5 s6 s7 s8 s9 s10 s11 : Slot, ρ = [.dat (rowsP n P), .dat (.int (h : Nat)), .dat (.int (n : Nat)), .dat (.list (natsD (othL n h))), .dat (enc (tw n P h)), s5, s6, s7, s8, s9, s10, s11]) ?_ ?_
  · intro Q' hQ
    have cn : ([PyData.int 1, .int 1, .int 2, .int 9, .int 64] : List PyData)[n]? = some (.int (cntT n : Nat)) := cn
    rw [e_for]
    simp [cn, smallI_ok (n := (cntT n : Int)) (by omega) (by omega)]
    refine ev_for (I := fun m ρ g => g = f ∧ ∃ s5 s6 s7 s8 s9 s10 s11 : Slot, ρ = [.dat (rowsP n P), .dat (.int (h : Nat)), .dat (.int (n : Nat)), .dat (.list (natsD (othL n h))), .dat (enc (rs m (tt n P h))), s5, s6, s7, s8, s9, s10, s11]) ⟨rfl, .emp, .emp, .emp, .emp, .emp, .emp, .emp, rfl⟩ ?_ ?_
    · rintro m d ρ g hd ⟨rfl, s5, s6, s7, s8, s9, s10, s11, rfl⟩
      obtain ⟨rfl, hm⟩ := range_at hd
      refine ⟨_, rfl, ?_⟩
      simp only [Int.zero_add]
      have T := tw_sz w h' m (by omega)
      have t1 := tt_ok w h' m
      have pt := twt w h' m
      have nsum : rs m (tt n P h) + tt n P h m = rs (m + 1) (tt n P h) := rs_succ.symm
      have gT : tt n P h m = if goodT n h m = true then prodT P 1 (sentL n (othL n h) m) else 0 := rfl
      rw [← nsum]
      generalize rs m (tt n P h) = tot at *
      refine ev_step (fun ρ f => f = g ∧ ρ = [.dat (rowsP n P), .dat (.int (h : Nat)), .dat (.int (n : Nat)), .dat (.list (natsD (othL n h))), .dat (enc tot), .dat (.int (m : Nat)), .dct (.I []), s7, s8, s9, s10, s11]) (by simp) ?_
      rintro _ g ⟨rfl, rfl⟩
      refine ev_step (fun ρ f => f = g ∧ ρ = [.dat (rowsP n P), .dat (.int (h : Nat)), .dat (.int (n : Nat)), .dat (.list (natsD (othL n h))), .dat (enc tot), .dat (.int (m : Nat)), .dct (.I []), .dat (.int (m : Nat)), s8, s9, s10, s11]) (by simp) ?_
      rintro _ g ⟨rfl, rfl⟩
      refine ev_step (fun ρ f => f = g ∧ ρ = [.dat (rowsP n P), .dat (.int (h : Nat)), .dat (.int (n : Nat)), .dat (.list (natsD (othL n h))), .dat (enc tot), .dat (.int (m : Nat)), .dct (.I []), .dat (.int (m : Nat)), .dat (enc 1), s9, s10, s11]) (by rw [en1]; simp) ?_
      rintro _ g ⟨rfl, rfl⟩
      refine ev_stp (fun ρ f => f = g ∧ ∃ kvs, SentD kvs (sentL n (othL n h) m) ∧ ∃ s7 s9 : Slot, ρ = [.dat (rowsP n P), .dat (.int (h : Nat)), .dat (.int (n : Nat)), .dat (.list (natsD (othL n h))), .dat (enc tot), .dat (.int (m : Nat)), .dct (.I kvs), s7, .dat (enc (prodT P 1 (sentL n (othL n h) m))), s9, s10, s11]) ?_ ?_
      · intro Q'' hQ2
        have sq : seqOf (.list (natsD (othL n h))) = some ((othL n h).map nD) := rfl
        rw [e_for]
        simp [sq]
        refine ev_forT (enc := nD) (I := fun rest ρ f => f = g ∧ ∃ (L : Nat) (q : List (Nat × Nat)) (kvs : List (Int × PyData)) (s9 : Slot), q ++ sentL n rest L = sentL n (othL n h) m ∧ L ≤ m ∧ SentD kvs q ∧ ρ = [.dat (rowsP n P), .dat (.int (h : Nat)), .dat (.int (n : Nat)), .dat (.list (natsD (othL n h))), .dat (enc tot), .dat (.int (m : Nat)), .dct (.I kvs), .dat (.int (L : Nat)), .dat (enc (prodT P 1 q)), s9, s10, s11]) ?_ ?_ _ _ _ ⟨rfl, m, [], [], s9, rfl, Nat.le_refl _, SentD.nil, rfl⟩
        · rintro k rest ρ g ⟨rfl, L, q, kvs, s9, hq, hL, hs, rfl⟩
          refine ⟨_, rfl, ?_⟩
          have hq2 : q ++ (k, L % n) :: sentL n rest (L / n) = sentL n (othL n h) m := hq
          have hfst := congrArg (List.map (·.1)) hq2
          rw [sent_fst, List.map_append, List.map_cons] at hfst
          have hk : k ∈ othL n h := by rw [← hfst]; simp
          have hkn := (oth_mem.mp hk).1
          have nd := oth_nd (n := n) (h := h)
          rw [← hfst] at nd
          have kq : k ∉ q.map (·.1) := fun z => by
            have := (List.nodup_append.mp nd).2.2 k z k List.mem_cons_self
            exact this rfl
          have hs2 := hs.snoc (v := L % n) kq
          have ql : q.length ≤ n := by
            have := congrArg List.length hq2
            rw [List.length_append, sent_len] at this
            omega
          have pq := prod_sz w (s := q) (by omega) fun p hp => by
            have m1 : p ∈ sentL n (othL n h) m := by rw [← hq2]; exact List.mem_append_left _ hp
            have m2 : p.1 ∈ othL n h := by
              rw [← sent_fst n (othL n h) m]
              exact List.mem_map_of_mem m1
            exact ⟨(oth_mem.mp m2).1, sent_lt n1 _ _ p m1⟩
          have md := oMod_int (x := (L : Int)) (y := (n : Int)) (by omega)
          have dv := oDiv_int (x := (L : Int)) (y := (n : Int)) (by omega) (by
            have := log2_small (i := (n : Int)) (k := 10) (by omega) (by decide)
            omega)
          have lm : L % n < n := Nat.mod_lt _ n1
          have sz1 := sz01w w pq.1 pq.2.1 pq.2.2
          obtain ⟨x1, x2, x3⟩ := w.ok k (L % n) hkn lm
          have sz2 : Sz 200 (P k (L % n)) := sz01 w.W0 x1 x2 x3 (by have := w.W1; omega)
          have by' := q_by_s (f := g) sz1 sz2 (by decide)
          have ps : prodT P 1 q * P k (L % n) = prodT P 1 (q ++ [(k, L % n)]) := by
            rw [prod_app]
            rfl
          rw [ps] at by'
          have gk := hs2.get k
          have gk : getK (setK kvs (k : Int) (.int ((L % n : Nat) : Int))) (k : Int) = some (.int ((L % n : Nat) : Int)) := by rw [setK_get, if_pos rfl]
          have e1 := ixR (P := P) hkn
          have e2 := ixC (P := P) (i := k) lm
          have kl : kvs.length < 100000 := by have := hs.len; omega
          have md : oMod (.int (L : Nat)) (.int (n : Nat)) = some (.dat (.int ((L % n : Nat) : Int))) := md
          have dv : oDiv (.int (L : Nat)) (.int (n : Nat)) = some (.dat (.int ((L / n : Nat) : Int))) := dv
          have hq3 : (q ++ [(k, L % n)]) ++ sentL n rest (L / n) = sentL n (othL n h) m := by rw [List.append_assoc]; exact hq2
          have hL2 : L / n ≤ m := Nat.le_trans (Nat.div_le_self _ _) hL
          generalize L % n = r at *
          generalize L / n = L2 at *
          generalize rowsP n P = R at *
          generalize rwP n P k = rr at *
          generalize hx1 : enc (prodT P 1 q) = X1 at *
          generalize hx2 : enc (P k r) = X2 at *
          have Z : ∀ s9 : Slot, ∃ (L' : Nat) (q' : List (Nat × Nat)) (kvs' : List (Int × PyData)) (t9 : Slot), q' ++ sentL n rest L' = sentL n (othL n h) m ∧ L' ≤ m ∧ SentD kvs' q' ∧ [Slot.dat R, .dat (.int (h : Nat)), .dat (.int (n : Nat)), .dat (.list (natsD (othL n h))), .dat (enc tot), .dat (.int (m : Nat)), .dct (.I (setK kvs (k : Int) (.int (r : Nat)))), .dat (.int (L2 : Nat)), .dat (enc (prodT P 1 (q ++ [(k, r)]))), s9, s10, s11] = [.dat R, .dat (.int (h : Nat)), .dat (.int (n : Nat)), .dat (.list (natsD (othL n h))), .dat (enc tot), .dat (.int (m : Nat)), .dct (.I kvs'), .dat (.int (L' : Nat)), .dat (enc (prodT P 1 q')), t9, s10, s11] := fun s9 => ⟨L2, _, _, s9, hq3, hL2, hs2, rfl⟩
          generalize hK : setK kvs (k : Int) (.int (r : Nat)) = K2 at *
          refine ev_step (fun ρ f => f = g ∧ ρ = [.dat R, .dat (.int (h : Nat)), .dat (.int (n : Nat)), .dat (.list (natsD (othL n h))), .dat (enc tot), .dat (.int (m : Nat)), .dct (.I K2), .dat (.int (L : Nat)), .dat X1, .dat (.int (k : Nat)), s10, s11]) (by simp [md, kl, hK]) ?_
          rintro _ g ⟨rfl, rfl⟩
          refine ev_step (fun ρ f => f = g ∧ ρ = [.dat R, .dat (.int (h : Nat)), .dat (.int (n : Nat)), .dat (.list (natsD (othL n h))), .dat (enc tot), .dat (.int (m : Nat)), .dct (.I K2), .dat (.int (L2 : Nat)), .dat X1, .dat (.int (k : Nat)), s10, s11]) (by simp [dv]) ?_
          rintro _ g ⟨rfl, rfl⟩
          simp only [e_set]
          rw [ev_bind]
          have ee : (cCall F_q_by [cVar 8, cBin oIx (cBin oIx (cVar 0) (cVar 9)) (cDGet 6 (cVar 9))]) [.dat R, .dat (.int (h : Nat)), .dat (.int (n : Nat)), .dat (.list (natsD (othL n h))), .dat (enc tot), .dat (.int (m : Nat)), .dct (.I K2), .dat (.int (L2 : Nat)), .dat X1, .dat (.int (k : Nat)), s10, s11] g = .ok (.dat (enc (prodT P 1 (q ++ [(k, r)])))) g := by
            simp [e1, gk, e2, by']
          rw [ee]
          refine Ev.of rfl ?_
          exact Ev.of rfl ⟨rfl, Z _⟩
        · rintro ρ g ⟨rfl, L, q, kvs, s9, hq, hL, hs, rfl⟩
          have hq : q = sentL n (othL n h) m := by rw [← hq]; exact (List.append_nil q).symm
          subst hq
          exact ⟨_, rfl, hQ2 _ _ ⟨rfl, kvs, hs, _, s9, rfl⟩⟩
      rintro _ g ⟨rfl, kvs, hs, s7, s9, rfl⟩
      have gd : goodT n h m = (othL n h).all fun k => decide (iterN (sentF h (sentL n (othL n h) m)) n k = h) := rfl
      have hlt : ∀ p ∈ sentL n (othL n h) m, p.2 < n := sent_lt n1 _ _
      generalize hsent : sentL n (othL n h) m = S at *
      obtain ⟨ptw, pt0, pt1⟩ := pt
      generalize hX : prodT P 1 S = X at *
      refine ev_stp (fun ρ f => f = g ∧ ∃ s9 s10 s11 : Slot, ρ = [.dat (rowsP n P), .dat (.int (h : Nat)), .dat (.int (n : Nat)), .dat (.list (natsD (othL n h))), .dat (enc tot), .dat (.int (m : Nat)), .dct (.I kvs), s7, .dat (enc (tt n P h m)), s9, s10, s11]) ?_ ?_
      · intro Q'' hQ2
        have ix0 : oIx (enc X) (.int 0) = some (.dat (.int X.num)) := rfl
        have ng := num_gt pt0
        rw [e_for]
        by_cases x0 : 0 < X
        · rw [decide_eq_true x0] at ng
          have ng := of_decide_eq_true ng
          have mu : oMul (.list (natsD (othL n h))) (.int 1) = some (.own (natsD (othL n h))) := by
            rw [oMul_list, if_pos ⟨by decide, by decide, by unfold natsD; rw [List.length_map]; omega⟩]
            simp
          generalize hN : natsD (othL n h) = N at *
          simp [-oMul_list, ix0, ng, mu]
          subst hN
          refine ev_forT (enc := nD) (I := fun rest ρ f => f = g ∧ ∃ (pre : List Nat) (s9 s10 s11 : Slot), pre ++ rest = othL n h ∧ ρ = [.dat (rowsP n P), .dat (.int (h : Nat)), .dat (.int (n : Nat)), .dat (.list (natsD (othL n h))), .dat (enc tot), .dat (.int (m : Nat)), .dct (.I kvs), s7, .dat (enc (if (pre.all fun k => decide (iterN (sentF h S) n k = h)) = true then X else 0)), s9, s10, s11]) ?_ ?_ _ _ _ ⟨rfl, [], s9, s10, s11, rfl, rfl⟩
          · rintro k rest ρ g ⟨rfl, pre, s9, s10, s11, hpre, rfl⟩
            refine ⟨_, rfl, ?_⟩
            generalize hv : (if (pre.all fun k => decide (iterN (sentF h S) n k = h)) = true then X else 0) = v at *
            refine ev_step (fun ρ f => f = g ∧ ρ = [.dat (rowsP n P), .dat (.int (h : Nat)), .dat (.int (n : Nat)), .dat (.list (natsD (othL n h))), .dat (enc tot), .dat (.int (m : Nat)), .dct (.I kvs), s7, .dat (enc v), .dat (.int (k : Nat)), .dat (.int (iterN (sentF h S) 0 k : Nat)), s11]) (by simp [iterN]) ?_
            rintro _ g ⟨rfl, rfl⟩
            refine ev_stp (fun ρ f => f = g ∧ ∃ s11 : Slot, ρ = [.dat (rowsP n P), .dat (.int (h : Nat)), .dat (.int (n : Nat)), .dat (.list (natsD (othL n h))), .dat (enc tot), .dat (.int (m : Nat)), .dct (.I kvs), s7, .dat (enc v), .dat (.int (k : Nat)), .dat (.int (iterN (sentF h S) n k : Nat)), s11]) ?_ ?_
            · intro Q3 hQ3
              rw [e_for]
              simp [smallI_ok (n := (n : Int)) (by omega) (by omega)]
              refine ev_for (I := fun t ρ f => f = g ∧ ∃ s11 : Slot, ρ = [.dat (rowsP n P), .dat (.int (h : Nat)), .dat (.int (n : Nat)), .dat (.list (natsD (othL n h))), .dat (enc tot), .dat (.int (m : Nat)), .dct (.I kvs), s7, .dat (enc v), .dat (.int (k : Nat)), .dat (.int (iterN (sentF h S) t k : Nat)), s11]) ⟨rfl, s11, rfl⟩ ?_ ?_
              · rintro t d ρ g hd ⟨rfl, s11, rfl⟩
                obtain ⟨rfl, ht⟩ := range_at hd
                refine ⟨_, rfl, ?_⟩
                have it := iter_add (sentF h S) t k
                rw [it]
                generalize iterN (sentF h S) t k = c at *
                have gk := hs.get c
                have gs : (getK kvs (c : Int)).getD (.int (h : Nat)) = .int (sentF h S c : Nat) := by
                  rw [gk]
                  unfold sentF
                  cases S.find? (fun p => decide (p.1 = c)) <;> rfl
                generalize sentF h S c = c2 at *
                clear gk
                simp
                exact gs
              · rintro ρ g ⟨rfl, s11, rfl⟩
                rw [range_len]
                exact ⟨_, rfl, hQ3 _ _ ⟨rfl, s11, rfl⟩⟩
            rintro _ g ⟨rfl, s11, rfl⟩
            have al : (pre ++ [k]).all (fun k => decide (iterN (sentF h S) n k = h)) = (pre.all (fun k => decide (iterN (sentF h S) n k = h)) && decide (iterN (sentF h S) n k = h)) := by
              rw [List.all_append]
              simp
            have Z : ∀ (y : PyData), y = enc (if ((pre ++ [k]).all fun k => decide (iterN (sentF h S) n k = h)) = true then X else 0) → ∃ (pre' : List Nat) (t9 t10 t11 : Slot), pre' ++ rest = othL n h ∧ [Slot.dat (rowsP n P), .dat (.int (h : Nat)), .dat (.int (n : Nat)), .dat (.list (natsD (othL n h))), .dat (enc tot), .dat (.int (m : Nat)), .dct (.I kvs), s7, .dat y, .dat (.int (k : Nat)), .dat (.int (iterN (sentF h S) n k : Nat)), s11] = [.dat (rowsP n P), .dat (.int (h : Nat)), .dat (.int (n : Nat)), .dat (.list (natsD (othL n h))), .dat (enc tot), .dat (.int (m : Nat)), .dct (.I kvs), s7, .dat (enc (if (pre'.all fun k => decide (iterN (sentF h S) n k = h)) = true then X else 0)), t9, t10, t11] := fun y hy => ⟨pre ++ [k], .dat (.int (k : Nat)), .dat (.int (iterN (sentF h S) n k : Nat)), s11, by simp [hpre], by rw [hy]⟩
            rw [al] at Z
            generalize hJ : (fun (ρ : Rho) => ∃ (pre' : List Nat) (t9 t10 t11 : Slot), pre' ++ rest = othL n h ∧ ρ = [.dat (rowsP n P), .dat (.int (h : Nat)), .dat (.int (n : Nat)), .dat (.list (natsD (othL n h))), .dat (enc tot), .dat (.int (m : Nat)), .dct (.I kvs), s7, .dat (enc (if (pre'.all fun k => decide (iterN (sentF h S) n k = h)) = true then X else 0)), t9, t10, t11]) = J
            have hJ2 : ∀ ρ, J ρ ↔ ∃ (pre' : List Nat) (t9 t10 t11 : Slot), pre' ++ rest = othL n h ∧ ρ = [.dat (rowsP n P), .dat (.int (h : Nat)), .dat (.int (n : Nat)), .dat (.list (natsD (othL n h))), .dat (enc tot), .dat (.int (m : Nat)), .dct (.I kvs), s7, .dat (enc (if (pre'.all fun k => decide (iterN (sentF h S) n k = h)) = true then X else 0)), t9, t10, t11] := fun ρ => by rw [← hJ]
            simp only [← hJ2] at Z ⊢
            generalize natsD (othL n h) = N at *
            generalize rowsP n P = R at *
            by_cases c : iterN (sentF h S) n k = h
            · have Z := Z (enc v) (by rw [← hv]; simp [c])
              simp [c]
              rw [c] at Z
              exact Z
            · have Z := Z (.tuple [.int 0, .int 1]) (by simp [c]; rfl)
              simp [c, show ¬ ((iterN (sentF h S) n k : Nat) : Int) = (h : Nat) by omega]
              exact Z
          · rintro ρ g ⟨rfl, pre, s9, s10, s11, hpre, rfl⟩
            rw [List.append_nil] at hpre
            subst hpre
            refine ⟨_, rfl, hQ2 _ _ ⟨rfl, s9, s10, s11, ?_⟩⟩
            rw [gT, gd]
        · have z : X = 0 := by grind
          rw [decide_eq_false x0] at ng
          have ng := of_decide_eq_false ng
          have mu : oMul (.list (natsD (othL n h))) (.int 0) = some (.own []) := by
            rw [oMul_list, if_pos ⟨by decide, by decide, by unfold natsD; rw [List.length_map]; omega⟩]
            simp
          have tz : tt n P h m = 0 := by
            rw [gT, z]
            split <;> rfl
          have W2 := hQ2 [.dat (rowsP n P), .dat (.int (h : Nat)), .dat (.int (n : Nat)), .dat (.list (natsD (othL n h))), .dat (enc tot), .dat (.int (m : Nat)), .dct (.I kvs), s7, .dat (enc X), s9, s10, s11] g ⟨rfl, s9, s10, s11, by rw [tz, z]⟩
          generalize natsD (othL n h) = N at *
          simp [-oMul_list, ix0, ng, mu, forN]
          exact W2
      rintro _ g ⟨rfl, s9, s10, s11, rfl⟩
      have ad := q_add_q (f := g) T (sz01w w t1.1 t1.2.1 t1.2.2) (by decide)
      generalize rowsP n P = R at *
      generalize natsD (othL n h) = N at *
      generalize enc (tt n P h m) = y at *
      generalize enc (tot + tt n P h m) = y2 at *
      generalize enc tot = y1 at *
      simp [ad]
    · rintro ρ g ⟨rfl, s5, s6, s7, s8, s9, s10, s11, rfl⟩
      rw [range_len]
      exact ⟨_, rfl, hQ _ _ ⟨rfl, s5, s6, s7, s8, s9, s10, s11, rfl⟩⟩
  rintro _ f ⟨rfl, s5, s6, s7, s8, s9, s10, s11, rfl⟩
  generalize enc (tw n P h) = x
  simp
end
end Fp
namespace Fp
open PySem PySem.Spec L2 Dn
def encT (n : Nat) (g : Nat → Nat) : List Nat → Nat
  | [] => 0
  | k :: r => g k + n * encT n g r
section
variable {n h W : Nat} {P : Nat → Nat → Rat} {f : Feed}
theorem sent_enc (n0 : 0 < n) {g : Nat → Nat} : ∀ (l : List Nat), (∀ k ∈ l, g k < n) → sentL n l (encT n g l) = l.map fun k => (k, g k)
  | [], _ => rfl
  | k :: r, hg => by
    have a := hg k List.mem_cons_self
    show (k, (g k + n * encT n g r) % n) :: sentL n r ((g k + n * encT n g r) / n) = _
    rw [Nat.add_mul_mod_self_left, Nat.mod_eq_of_lt a, Nat.add_mul_div_left _ _ n0, Nat.div_eq_of_lt a, Nat.zero_add, sent_enc n0 r fun x hx => hg x (List.mem_cons_of_mem _ hx)]
    rfl
theorem enc_lt (n0 : 0 < n) {g : Nat → Nat} : ∀ (l : List Nat), (∀ k ∈ l, g k < n) → encT n g l < n ^ l.length
  | [], _ => by simp [encT]
  | k :: r, hg => by
    have a := hg k List.mem_cons_self
    have b := enc_lt n0 r fun x hx => hg x (List.mem_cons_of_mem _ hx)
    show g k + n * encT n g r < n ^ (r.length + 1)
    rw [Nat.pow_succ]
    have : n * (encT n g r + 1) ≤ n * n ^ r.length := Nat.mul_le_mul_left _ b
    rw [Nat.mul_comm (n ^ r.length) n]
    rw [Nat.mul_succ] at this
    omega
theorem oth_len1 (hh : h < n) : (othL n h).length = n - 1 := by
  have a := nodup_lt (n := n) (l := h :: othL n h) (List.nodup_cons.mpr ⟨fun z => (oth_mem.mp z).2 rfl, oth_nd⟩) fun x hx => by
    rcases List.mem_cons.mp hx with rfl | hx
    · exact hh
    · exact (oth_mem.mp hx).1
  have b := len_subN (List.nodup_range (n := n)) (m := h :: othL n h) fun k hk => by
    by_cases e : k = h
    · exact e ▸ List.mem_cons_self
    · exact List.mem_cons_of_mem _ (oth_mem.mpr ⟨List.mem_range.mp hk, e⟩)
  rw [List.length_range] at b
  rw [List.length_cons] at a b
  omega
theorem cnt_pow (n1 : 1 ≤ n) (n4 : n ≤ 4) : cntT n = n ^ (n - 1) := by
  match n, n1, n4 with
  | 1, _, _ | 2, _, _ | 3, _, _ | 4, _, _ => rfl
theorem way_iter {g : Nat → Nat} (gh : g h = h) : ∀ (ps : List (Nat × Nat)) (led : List Nat) (i r : Nat), wayV P led ps i = none → (∀ a ∈ led, iterN g r a = h) → (∀ p ∈ ps, g p.1 = p.2) → ∀ a ∈ led ++ ps.map (·.1), iterN g (r + ps.length) a = h
  | [], led, i, r, _, hl, _, a, ha => hl a (by simpa using ha)
  | (c, d) :: ps, led, i, r, q, hl, hg, a, ha => by
    unfold wayV at q
    split at q
    · cases q
    · rename_i z
      simp only [Bool.or_eq_true, decide_eq_true_eq, Bool.not_eq_true', decide_eq_false_iff_not, not_or, Decidable.not_not] at z
      have := way_iter gh ps (led ++ [c]) (i + 1) (r + 1) q (fun b hb => by
        rcases List.mem_append.mp hb with hb | hb
        · rw [iter_add, hl b hb, gh]
        · rw [List.mem_singleton.mp hb]
          show iterN g r (g c) = h
          rw [hg (c, d) List.mem_cons_self]
          exact hl d z.2.2) (fun p hp => hg p (List.mem_cons_of_mem _ hp)) a (by simpa using ha)
      rw [List.length_cons, show r + (ps.length + 1) = r + 1 + ps.length by omega]
      exact this
theorem way_ne0 : ∀ (ps : List (Nat × Nat)) (led : List Nat) (i : Nat), wayV P led ps i = none → ∀ p ∈ ps, P p.1 p.2 ≠ 0
  | [], _, _, _, p, hp => by cases hp
  | (c, d) :: ps, led, i, q, p, hp => by
    unfold wayV at q
    split at q
    · cases q
    · rename_i z
      simp only [Bool.or_eq_true, decide_eq_true_eq, Bool.not_eq_true', decide_eq_false_iff_not, not_or, Decidable.not_not] at z
      rcases List.mem_cons.mp hp with rfl | hp
      · exact z.2.1
      · exact way_ne0 ps _ _ q p hp
theorem prod_pos : ∀ (s : List (Nat × Nat)) (c : Rat), 0 < c → (∀ p ∈ s, 0 < P p.1 p.2) → 0 < prodT P c s
  | [], c, hc, _ => hc
  | p :: s, c, hc, h => prod_pos s _ (Rat.mul_pos hc (h p List.mem_cons_self)) fun q hq => h q (List.mem_cons_of_mem _ hq)
theorem sentF_map {l : List Nat} {g : Nat → Nat} {k : Nat} (hk : k ∈ l) : sentF h (l.map fun k => (k, g k)) k = g k := by
  unfold sentF
  have : (l.map fun k => (k, g k)).find? (fun p => decide (p.1 = k)) = some (k, g k) := by
    induction l with
    | nil => cases hk
    | cons a r ih =>
      rw [List.map_cons, List.find?_cons]
      by_cases e : a = k
      · subst e
        simp
      · simp only [e, decide_false]
        rcases List.mem_cons.mp hk with z | z
        · exact absurd z.symm e
        · exact ih z
  rw [this]
  rfl
theorem sentF_out {l : List Nat} {g : Nat → Nat} {k : Nat} (hk : k ∉ l) : sentF h (l.map fun k => (k, g k)) k = h := by
  unfold sentF
  have : (l.map fun k => (k, g k)).find? (fun p => decide (p.1 = k)) = none := List.find?_eq_none.mpr fun p hp => by
    obtain ⟨a, ha, rfl⟩ := List.mem_map.mp hp
    simp only [decide_eq_true_eq]
    exact fun z => hk (z ▸ ha)
  rw [this]
  rfl
theorem tw_pos (w : PW n P W) (hh : h < n) (hl : ∀ k, k < n → Led n P k h) : 0 < tw n P h := by
  have n1 := w.n1
  have n4 := w.n4
  obtain ⟨ps, wo, len⟩ := ways_exist hh hl (n - 1) [] (WaysOk.nil hh) (by simp)
  have g0 : ∃ g : Nat → Nat, ∀ p ∈ ps, g p.1 = p.2 := by
    refine ⟨fun k => ((ps.find? fun p => decide (p.1 = k)).map (·.2)).getD 0, fun p hp => ?_⟩
    have nd := (List.nodup_cons.mp wo.nd).2
    have : ps.find? (fun q => decide (q.1 = p.1)) = some p := by
      clear wo len
      induction ps with
      | nil => cases hp
      | cons a r ih =>
        rw [List.find?_cons]
        rw [List.map_cons] at nd
        obtain ⟨n1, n2⟩ := List.nodup_cons.mp nd
        rcases List.mem_cons.mp hp with rfl | hp
        · simp
        · have : a.1 ≠ p.1 := fun z => n1 (z ▸ List.mem_map_of_mem hp)
          simp only [this, decide_false]
          exact ih hp n2
    show (((ps.find? fun q => decide (q.1 = p.1)).map (·.2)).getD 0) = p.2
    rw [this]
    rfl
  obtain ⟨g, hg⟩ := g0
  have mem : ∀ k ∈ othL n h, ∃ p ∈ ps, p.1 = k := fun k hk => by
    obtain ⟨k1, k2⟩ := oth_mem.mp hk
    have := ((vY_none ps).mp (full_ways hh wo len)).2 k k1
    rcases List.mem_cons.mp this with z | z
    · exact absurd z k2
    · obtain ⟨p, hp, e⟩ := List.mem_map.mp z
      exact ⟨p, hp, e⟩
  have gl : ∀ k ∈ othL n h, g k < n := fun k hk => by
    obtain ⟨p, hp, rfl⟩ := mem k hk
    rw [hg p hp]
    exact (wo.lt p hp).2
  have gp : ∀ k ∈ othL n h, 0 < P k (g k) := fun k hk => by
    obtain ⟨p, hp, rfl⟩ := mem k hk
    rw [hg p hp]
    have a := way_ne0 ps _ _ wo.way p hp
    have b := (w.ok p.1 p.2 (wo.lt p hp).1 (wo.lt p hp).2).2.1
    grind
  have se := sent_enc n1 (othL n h) gl
  have el := enc_lt n1 (othL n h) gl
  rw [oth_len1 hh, ← cnt_pow n1 n4] at el
  have hin : ∀ p ∈ ps, p.1 ∈ othL n h := fun p hp => oth_mem.mpr ⟨(wo.lt p hp).1, fun z => (List.nodup_cons.mp wo.nd).1 (z ▸ List.mem_map_of_mem hp)⟩
  have good : goodT n h (encT n g (othL n h)) = true := by
    unfold goodT
    rw [se, List.all_eq_true]
    intro k hk
    rw [decide_eq_true_eq]
    have gh : sentF h ((othL n h).map fun k => (k, g k)) h = h := sentF_out fun z => (oth_mem.mp z).2 rfl
    have wi := way_iter gh ps [h] 0 0 wo.way (fun a ha => List.mem_singleton.mp ha) (fun p hp => by rw [sentF_map (hin p hp)]; exact hg p hp) k (by
      obtain ⟨p, hp, rfl⟩ := mem k hk
      simp
      exact .inr ⟨p.2, hp⟩)
    have e : ∀ G : Nat → Nat, iterN G n k = iterN G (0 + ps.length + 1) k := fun G => by rw [show n = 0 + ps.length + 1 by omega]
    rw [e, iter_add, wi, gh]
  have tp : 0 < tt n P h (encT n g (othL n h)) := by
    unfold tt
    rw [if_pos good, se]
    refine prod_pos _ _ (by decide) fun p hp => ?_
    obtain ⟨k, hk, rfl⟩ := List.mem_map.mp hp
    exact gp k hk
  have := rs_ge1 (n := cntT n) (g := tt n P h) (fun m _ => (tt_ok w hh m).2.1) _ el
  have e : tw n P h = rs (cntT n) (tt n P h) := rfl
  rw [e]
  grind
theorem tw_nn (w : PW n P W) (hh : h < n) : 0 ≤ tw n P h := rs_nn fun m _ => (tt_ok w hh m).2.1
def twS (n : Nat) (P : Nat → Nat → Rat) : Rat := rs n (tw n P)
def twW (n : Nat) (P : Nat → Nat → Rat) (i : Nat) : Rat := tw n P i / twS n P
theorem twS_pos (w : PW n P W) (hh : h < n) (hl : ∀ k, k < n → Led n P k h) : 0 < twS n P := by
  have a := tw_pos w hh hl
  have b := rs_ge1 (n := n) (g := tw n P) (fun k hk => tw_nn w hk) h hh
  unfold twS
  grind
theorem twW_sum (hp : twS n P ≠ 0) : rs n (twW n P) = 1 := by
  have : rs n (twW n P) = (twS n P)⁻¹ * rs n (tw n P) := by
    rw [← rs_mul]
    exact rs_congr fun i _ => by
      unfold twW
      rw [Rat.div_def, Rat.mul_comm]
  rw [this]
  exact Rat.inv_mul_cancel _ hp
theorem twW_stat (n1 : 1 ≤ n) (n4 : n ≤ 4) (c : Chn n P) : ∀ k, k < n → stat n P (twW n P) k = twW n P k := fun k hk => by
  have e := stat_tw n1 n4 c k hk
  have : stat n P (twW n P) k = (twS n P)⁻¹ * stat n P (tw n P) k := by
    unfold stat
    rw [← rs_mul]
    refine rs_congr fun i _ => ?_
    unfold twW
    rw [Rat.div_def]
    grind
  rw [this, e]
  unfold twW
  rw [Rat.div_def, Rat.mul_comm]
end
end Fp
namespace Fp
open PySem PySem.Spec L2 Dn
def keyD (t : Tri) : PyData := .tuple [.int t.st, .int t.nx]
section
variable {e b k n : Nat} {d : PyData} {f : Feed}
end
end Fp
namespace Fp
open PySem PySem.Spec L2 Dn
theorem thL_of5 {α : Type} {e b k : Nat} {f : α → PyData} : ∀ {xs : List α}, (∀ x ∈ xs, Th e b k (f x)) → ThL e (xs.length * (b + 1)) k (xs.map f)
  | [], _ => thL_nil.up (Nat.zero_le _) (Nat.zero_le _) (Nat.zero_le _)
  | x :: r, h => by
    have a := thL_cons (h x List.mem_cons_self) (thL_of5 (xs := r) fun y hy => h y (List.mem_cons_of_mem _ hy))
    rw [List.map_cons, List.length_cons]
    exact a.up (Nat.le_refl _) (by rw [Nat.add_mul]; omega) (Nat.le_refl _)
/-- kinds that were drawn, as things -/
theorem tc_kinds {W : Nat} {ks : List (List Tri)} (h : KsOk W ks) (hW : W ≤ 2 ^ 31) : Tc 134 4040 4 (kindsD ks) := by
  refine ⟨?_, (nice_kinds h hW).can⟩
  have n4 := h.n4
  have hk : ∀ k ∈ ks, Th 8 1008 3 (kindD k) := fun k hk => by
    obtain ⟨V, V2, hV⟩ := h.own k hk
    have hl := hV.len
    have := thL_of5 (e := 8) (b := 41) (k := 2) (xs := k) (f := triD) fun t ht => by
      obtain ⟨s1, s6, sn⟩ := hV.st t ht
      obtain ⟨w, c0, c1⟩ := hV.c t ht
      have sz : Sz 8 t.c := sz01 hV.W0 w (Rat.le_of_lt c0) c1 (by omega)
      have a : Th 8 9 1 (.int (t.st : Nat)) := (th_int (by rw [Int.natAbs_natCast]; omega)).up (Nat.le_refl _) (Nat.le_refl _) (Nat.zero_le _)
      have b : Th 8 9 1 (.int (t.nx : Nat)) := (th_int (by rw [Int.natAbs_natCast]; omega)).up (Nat.le_refl _) (Nat.le_refl _) (Nat.zero_le _)
      exact (th_tuple (thL_cons a (thL_cons b (thL_one (th_enc sz))))).up (Nat.le_refl _) (by decide) (Nat.le_refl _)
    exact (th_tuple this).up (Nat.le_refl _) (by omega) (Nat.le_refl _)
  have := thL_of5 hk
  exact (th_tuple this).up (by decide) (by omega) (Nat.le_refl _)
end Fp
namespace Fp
open PySem PySem.Spec L2 Dn
theorem tc_tupN {A : List Nat} (h : ∀ a ∈ A, a < 1000) (l : A.length ≤ 8) : Tc 134 96 1 (tupN A) := by
  refine ⟨?_, tup_can fun x hx => ?_⟩
  · have a := thL_of5 (e := 134) (b := 11) (k := 0) (xs := A) (f := nD) fun t ht => by
      have := h t ht
      have q : Th 10 11 0 (.int (t : Nat)) := th_int (by rw [Int.natAbs_natCast]; omega)
      exact q.up (by decide) (Nat.le_refl _) (Nat.le_refl _)
    exact th_tuple (a.up (Nat.le_refl _) (by omega) (Nat.le_refl _))
  · obtain ⟨a, _, rfl⟩ := List.mem_map.mp hx
    rfl
theorem tc_tup3 {e b1 b2 b3 k : Nat} {x y z : PyData} (hx : Tc e b1 k x) (hy : Tc e b2 k y) (hz : Tc e b3 k z) : Tc e (b1 + 1 + (b2 + 1 + (b3 + 1))) (k + 1) (.tuple [x, y, z]) := by
  refine ⟨th_tuple (thL_cons hx.th (thL_cons hy.th (thL_one hz.th))), tup_can fun d hd => ?_⟩
  simp only [List.mem_cons, List.not_mem_nil, or_false] at hd
  rcases hd with rfl | rfl | rfl
  · exact hx.c
  · exact hy.c
  · exact hz.c
theorem tc_word {w : Str} (h : WsOk w) (c : PyData.canLay0 (.str w) = true) {k : Nat} : Tc 134 10 k (.str w) := ⟨h.th.up (by decide) (Nat.le_refl _) (Nat.zero_le _), c⟩
theorem can_apart : PyData.canLay0 (.str (Str.ofString "apart")) = true := by decide +kernel
theorem can_share : PyData.canLay0 (.str (Str.ofString "share")) = true := by decide +kernel
/-- a set of kinds -/
structure SetOk (n : Nat) (A : List Nat) : Prop where
  ne : A ≠ []
  lt : ∀ a ∈ A, a < n
  pw : A.Pairwise (· < ·)
theorem pw_len : ∀ {A : List Nat} {n m : Nat}, A.Pairwise (· < ·) → (∀ a ∈ A, m ≤ a ∧ a < n) → m + A.length ≤ n ∨ A = []
  | [], n, m, _, _ => .inr rfl
  | a :: r, n, m, h, q => by
    obtain ⟨h1, h2⟩ := List.pairwise_cons.mp h
    obtain ⟨q1, q2⟩ := q a List.mem_cons_self
    rcases pw_len (n := n) (m := a + 1) h2 (fun x hx => ⟨h1 x hx, (q x (List.mem_cons_of_mem _ hx)).2⟩) with z | z
    · left
      rw [List.length_cons]
      omega
    · subst z
      left
      simp
      omega
theorem SetOk.len {n : Nat} {A : List Nat} (h : SetOk n A) : A.length ≤ n := by
  rcases pw_len (m := 0) h.pw (fun a ha => ⟨Nat.zero_le _, h.lt a ha⟩) with z | z
  · omega
  · exact absurd z h.ne
theorem SetOk.tc {n : Nat} {A : List Nat} (h : SetOk n A) (hn : n ≤ 4) : Tc 134 96 1 (tupN A) := tc_tupN (fun a ha => by have := h.lt a ha; omega) (by have := h.len; omega)
theorem SetOk.ri {n : Nat} {A : List Nat} (h : SetOk n A) : riB n (tupN A) = true := by
  show (!(natsD A).isEmpty && ((natsD A).all (plB n) && risD (natsD A))) = true
  have e1 : (natsD A).isEmpty = false := by
    cases A with
    | nil => exact absurd rfl h.ne
    | cons a r => rfl
  have e2 : (natsD A).all (plB n) = true := List.all_eq_true.mpr fun x hx => by
    obtain ⟨a, ha, rfl⟩ := List.mem_map.mp hx
    show decide (0 ≤ ((a : Nat) : Int) ∧ ((a : Nat) : Int) < n) = true
    rw [decide_eq_true_eq]
    have := h.lt a ha
    omega
  have e3 : risD (natsD A) = true := by
    have em : natsD A = (A.map fun (a : Nat) => (a : Int)).map .int := by unfold natsD; rw [List.map_map]; rfl
    rw [em, risD_ints, risI_pw]
    exact List.pairwise_map.mpr (h.pw.imp fun h => by omega)
  rw [e1, e2, e3]
  rfl
theorem apB_sets {n : Nat} {A B : List Nat} (hA : SetOk n A) (hB : SetOk n B) : apB n (apartD A B) = true := by
  show (decide (Str.ofString "apart" = Str.ofString "apart") && (riB n (tupN A) && riB n (tupN B))) = true
  rw [hA.ri, hB.ri, decide_eq_true rfl]
  rfl
theorem tc_apart {A B : List Nat} {n : Nat} (hn : n ≤ 4) (hA : SetOk n A) (hB : SetOk n B) : Tc 134 205 2 (apartD A B) := (tc_tup3 (tc_word ws_apart can_apart) (hA.tc hn) (hB.tc hn)).up (Nat.le_refl _) (by decide) (Nat.le_refl _)
/-- the papers apart of two sets that aren't led out of -/
def pairsC (C : List (List Nat)) : List (List Nat × List Nat) := C.flatMap fun A => (C.filter fun B => A.all fun a => !decide (a ∈ B)).map fun B => (A, B)
def pairD (p : List Nat × List Nat) : PyData := apartD p.1 p.2
theorem mem_pairs {C : List (List Nat)} {p : List Nat × List Nat} : p ∈ pairsC C ↔ p.1 ∈ C ∧ p.2 ∈ C ∧ ∀ a ∈ p.1, a ∉ p.2 := by
  unfold pairsC
  simp only [List.mem_flatMap, List.mem_map, List.mem_filter, List.all_eq_true]
  constructor
  · rintro ⟨A, hA, B, ⟨hB, h⟩, rfl⟩
    exact ⟨hA, hB, fun a ha => by simpa using h a ha⟩
  · rintro ⟨h1, h2, h3⟩
    exact ⟨p.1, h1, p.2, ⟨h2, fun a ha => by simpa using h3 a ha⟩, rfl⟩
theorem flat_len {α β : Type} {f : α → List β} {m : Nat} : ∀ {l : List α}, (∀ x ∈ l, (f x).length ≤ m) → (l.flatMap f).length ≤ l.length * m
  | [], _ => by simp
  | a :: r, h => by
    have := flat_len (f := f) (l := r) fun x hx => h x (List.mem_cons_of_mem _ hx)
    have := h a List.mem_cons_self
    rw [List.flatMap_cons, List.length_append, List.length_cons, Nat.succ_mul]
    omega
theorem pairs_len {C : List (List Nat)} : (pairsC C).length ≤ C.length * C.length := flat_len fun A _ => by
  rw [List.length_map]
  exact List.length_filter_le _ _
section
variable {n : Nat} {P : Nat → Nat → Rat} {f : Feed} {A B : List Nat}
theorem clos_set (hn : n ≤ 4) (h : A ∈ closL n P) : SetOk n A := by
  obtain ⟨h1, h2, h3, _⟩ := clos_mem hn h
  exact ⟨h1, h2, h3⟩
theorem pair_vA (hn : n ≤ 4) {p : List Nat × List Nat} (h : p ∈ pairsC (closL n P)) : SetOk n p.1 ∧ SetOk n p.2 ∧ vA n P p.1 p.2 = none := by
  obtain ⟨h1, h2, h3⟩ := mem_pairs.mp h
  refine ⟨clos_set hn h1, clos_set hn h2, ?_⟩
  have o1 := (clos_mem hn h1).2.2.2
  have o2 := (clos_mem hn h2).2.2.2
  have f1 : p.1.find? (fun k => decide (k ∈ p.2)) = none := List.find?_eq_none.mpr fun a ha => by simpa using h3 a ha
  have f2 : p.1.find? (outB n P p.1) = none := List.find?_eq_none.mpr fun a ha => by simp [o1 a ha]
  have f3 : p.2.find? (outB n P p.2) = none := List.find?_eq_none.mpr fun a ha => by simp [o2 a ha]
  unfold vA
  rw [f1, f2, f3]
  rfl
end
end Fp
namespace Fp
open PySem PySem.Spec L2 Dn
section
variable {n h W : Nat} {P : Nat → Nat → Rat} {f : Feed}
theorem cnt64 (n4 : n ≤ 4) : cntT n ≤ 64 := by
  unfold cntT
  match n, n4 with
  | 0, _ | 1, _ | 2, _ | 3, _ | 4, _ => decide
/-- each kind's chances by a bottom of its own -/
def OwnV (n : Nat) (P : Nat → Nat → Rat) (V : Nat → Nat) : Prop := ∀ i, i < n → 0 < V i ∧ V i ≤ 200 ∧ ∀ j, j < n → Wh (V i) (P i j)
def vp (V : Nat → Nat) : List Nat → Nat
  | [] => 1
  | k :: r => V k * vp V r
theorem vp_sub {V : Nat → Nat} {l m : List Nat} (s : l.Sublist m) : vp V l ∣ vp V m := by
  induction s with
  | slnil => exact Nat.dvd_refl _
  | cons a _ ih => exact Nat.dvd_trans ih (Nat.dvd_mul_left _ _)
  | cons_cons a _ ih => exact Nat.mul_dvd_mul_left _ ih
theorem vp_pos {V : Nat → Nat} : ∀ {l : List Nat}, (∀ k ∈ l, 0 < V k) → 0 < vp V l
  | [], _ => Nat.one_pos
  | k :: r, h => Nat.mul_pos (h k List.mem_cons_self) (vp_pos fun x hx => h x (List.mem_cons_of_mem _ hx))
theorem vp_le {V : Nat → Nat} : ∀ {l : List Nat}, (∀ k ∈ l, V k ≤ 200) → vp V l ≤ 200 ^ l.length
  | [], _ => Nat.le_refl _
  | k :: r, h => by
    have a := vp_le (V := V) (l := r) fun x hx => h x (List.mem_cons_of_mem _ hx)
    rw [List.length_cons, Nat.pow_succ, Nat.mul_comm]
    exact Nat.mul_le_mul (h k List.mem_cons_self) a
theorem prod_own {V : Nat → Nat} (o : OwnV n P V) : ∀ (s : List (Nat × Nat)) (c : Rat) (E : Nat), (∀ p ∈ s, p.1 < n ∧ p.2 < n) → Wh E c → Wh (E * vp V (s.map (·.1))) (prodT P c s)
  | [], c, E, _, hc => by
    show Wh (E * 1) c
    rw [Nat.mul_one]
    exact hc
  | p :: s, c, E, hp, hc => by
    obtain ⟨a1, a2⟩ := hp p List.mem_cons_self
    have x1 := (o p.1 a1).2.2 p.2 a2
    have := prod_own o s (c * P p.1 p.2) (E * V p.1) (fun q hq => hp q (List.mem_cons_of_mem _ hq)) (hc.mul x1)
    show Wh (E * (V p.1 * vp V (s.map (·.1)))) _
    rw [← Nat.mul_assoc]
    exact this
theorem tt_own {V : Nat → Nat} (w : PW n P W) (o : OwnV n P V) (hh : h < n) (m : Nat) : Wh (vp V (List.range n)) (tt n P h m) := by
  unfold tt
  split
  · have := prod_own o (sentL n (othL n h) m) 1 1 (fun p hp => ⟨by
      have : p.1 ∈ othL n h := by
        rw [← sent_fst n (othL n h) m]
        exact List.mem_map_of_mem hp
      exact (oth_mem.mp this).1, sent_lt w.n1 _ _ p hp⟩) wh1T
    rw [Nat.one_mul, sent_fst] at this
    exact this.up (vp_sub List.filter_sublist)
  · exact wh_0
theorem twW_sz {V : Nat → Nat} (w : PW n P W) (o : OwnV n P V) (z : twS n P ≠ 0) {i : Nat} (hi : i < n) : Sz 40 (twW n P i) ∧ 0 ≤ twW n P i ∧ twW n P i ≤ 1 := by
  have n4 := w.n4
  have c64 : cntT n ≤ 64 := cnt64 n4
  have part : ∀ i, i < n → Wh (W ^ 4) (tw n P i) ∧ 0 ≤ tw n P i ∧ Ab ((64 : Nat) : Rat) (tw n P i) := fun i hi => tw_part w hi (cntT n) c64
  have wt : ∀ i, i < n → Wh (vp V (List.range n)) (tw n P i) := fun i hi => rs_wh fun m _ => tt_own w o hi m
  have ws : Wh (vp V (List.range n)) (twS n P) := rs_wh fun i hi => wt i hi
  have s0 : 0 ≤ twS n P := rs_nn fun i hi => (part i hi).2.1
  have sp : 0 < twS n P := by grind
  have si : tw n P i ≤ twS n P := rs_ge1 (fun i hi => (part i hi).2.1) i hi
  have sb : Ab ((n * 64 : Nat) : Rat) (twS n P) := rs_ab fun i hi => (part i hi).2.2
  have sb2 : twS n P ≤ ((256 : Nat) : Rat) := (sb.up (Rat.natCast_le_natCast.mpr (show n * 64 ≤ 256 by omega))).2
  have v0 : 0 < vp V (List.range n) := vp_pos fun k hk => (o k (List.mem_range.mp hk)).1
  have vl : vp V (List.range n) ≤ 200 ^ 4 := by
    have := vp_le (V := V) (l := List.range n) fun k hk => (o k (List.mem_range.mp hk)).2.1
    rw [List.length_range] at this
    exact Nat.le_trans this (Nat.pow_le_pow_right (by decide) n4)
  obtain ⟨a, ha⟩ := ws
  obtain ⟨b, hb⟩ := wt i hi
  generalize vp V (List.range n) = D at *
  have Dp : (0 : Rat) < D := Rat.natCast_pos.mpr v0
  have ap : (0 : Rat) < (a : Rat) := by rw [← ha]; exact Rat.mul_pos sp Dp
  have ap : 0 < a := by
    have : ((0 : Int) : Rat) < (a : Rat) := by simpa using ap
    exact Rat.intCast_lt_intCast.mp this
  obtain ⟨A, rfl⟩ := Int.eq_ofNat_of_zero_le (Int.le_of_lt ap)
  have al : A ≤ 256 * 200 ^ 4 := by
    have h1 : twS n P * (D : Rat) ≤ ((256 : Nat) : Rat) * ((200 ^ 4 : Nat) : Rat) := by
      have x1 := Rat.mul_le_mul_of_nonneg_right sb2 (Rat.le_of_lt Dp)
      have x2 : ((256 : Nat) : Rat) * (D : Rat) ≤ ((256 : Nat) : Rat) * ((200 ^ 4 : Nat) : Rat) := Rat.mul_le_mul_of_nonneg_left (Rat.natCast_le_natCast.mpr vl) Rat.natCast_nonneg
      exact Rat.le_trans x1 x2
    rw [ha, ← Rat.natCast_mul] at h1
    have : (A : Rat) ≤ ((256 * 200 ^ 4 : Nat) : Rat) := h1
    exact Rat.natCast_le_natCast.mp this
  have e : twW n P i * twS n P = tw n P i := by
    unfold twW
    exact Rat.div_mul_cancel z
  have w01 : 0 ≤ twW n P i ∧ twW n P i ≤ 1 := by
    have iv : 0 < (twS n P)⁻¹ := Rat.inv_pos.mpr sp
    have e2 : twS n P * (twS n P)⁻¹ = 1 := Rat.mul_inv_cancel _ z
    unfold twW
    rw [Rat.div_def]
    refine ⟨Rat.mul_nonneg (part i hi).2.1 (Rat.le_of_lt iv), ?_⟩
    have := Rat.mul_le_mul_of_nonneg_right si (Rat.le_of_lt iv)
    rw [e2] at this
    exact this
  have A0 : 0 < A := by omega
  refine ⟨sz01 (D := A) A0 ⟨b, ?_⟩ w01.1 w01.2 (by omega), w01⟩
  have hA : (A : Rat) = twS n P * (D : Rat) := ha.symm
  rw [hA, ← hb, ← e]
  grind
theorem q_weights_q (w : PW n P W) : F_q_weights_v2 [.dat (rowsP n P)] f = .ok (.dat (if twS n P = 0 then .none else .tuple (wsD n (twW n P)))) f := by
  have n4 := w.n4
  have e0 := lenR (n := n) (P := P)
  have rg := rgN (m := n)
  have lc1 : ∀ s1 s2 s3 s4 s5 : Slot, lcN (.one 4) cYes (cCall F_q_trees [cVar 0, cVar 4]) [.dat (rowsP n P), s1, s2, s3, s4, s5] ((List.range n).map nD) [] f = .ok ((List.range n).map fun i => enc (tw n P i)) f := fun s1 s2 s3 s4 s5 => by
    refine lc_map (by rw [List.length_range]; omega) fun i hi => ⟨_, rfl, ?_⟩
    rw [List.mem_range] at hi
    have q := q_trees_q (f := f) w hi
    generalize rowsP n P = R at *
    simp [q]
  have part : ∀ i, i < n → Wh (W ^ 4) (tw n P i) ∧ 0 ≤ tw n P i ∧ Ab ((64 : Nat) : Rat) (tw n P i) := fun i hi => by
    exact tw_part w hi (cntT n) (cnt64 n4)
  have w4' := w4 w
  have al := q_all_d (f := f) (d0 := .list ((List.range n).map fun i => enc (tw n P i))) (xs := (List.range n).map (tw n P)) (D := W ^ 4) (B := 64) (L := 4) (by rw [List.map_map]; rfl) (Nat.pow_pos w.W0) (by decide) (fun x hx => by
    obtain ⟨i, hi, rfl⟩ := List.mem_map.mp hx
    exact (part i (List.mem_range.mp hi)).1) (fun x hx => by
    obtain ⟨i, hi, rfl⟩ := List.mem_map.mp hx
    exact (part i (List.mem_range.mp hi)).2.2) (by rw [List.length_map, List.length_range]; exact n4) (Nat.lt_of_le_of_lt (Nat.le_trans (Nat.mul_le_mul_left (64 * (4 + 1)) w4') (show 64 * (4 + 1) * 2 ^ 124 ≤ 2 ^ 140 by decide)) (Nat.pow_lt_pow_right (by decide) (by decide)))
  have al : F_q_all [.dat (.list ((List.range n).map fun i => enc (tw n P i)))] f = .ok (.dat (enc (twS n P))) f := al
  have s0 : 0 ≤ twS n P := rs_nn fun i hi => (part i hi).2.1
  have sS : Sz 200 (twS n P) := by
    have a : Wh (W ^ 4) (twS n P) := rs_wh fun i hi => (part i hi).1
    have b : Ab ((n * 64 : Nat) : Rat) (twS n P) := rs_ab fun i hi => (part i hi).2.2
    have b2 : Ab ((256 : Nat) : Rat) (twS n P) := b.up (Rat.natCast_le_natCast.mpr (by omega))
    exact ab_sz (Nat.pow_pos w.W0) a b2 (by decide) (by omega)
  have sT : ∀ i, i < n → Sz 200 (tw n P i) := fun i hi => ab_sz (Nat.pow_pos w.W0) (part i hi).1 (part i hi).2.2 (by decide) (by omega)
  have en : enc (twS n P) = .tuple [.int (twS n P).num, .int ((twS n P).den : Nat)] := rfl
  apply ev_is
  rw [u_q_weights_v2, ev_dEnd]
  unfold S_q_weights_v2
  refine ev_step (fun ρ g => g = f ∧ ρ = [.dat (rowsP n P), .own ((List.range n).map fun i => enc (tw n P i)), .emp, .emp, .emp, .emp]) (by
    generalize rowsP n P = R at *
    generalize ((List.range n).map fun i => enc (tw n P i)) = L at *
    simp [e0, smallI_ok (n := (n : Int)) (by omega) (by omega), rg, lc1]) ?_
  rintro _ f ⟨rfl, rfl⟩
  refine ev_step (fun ρ g => g = f ∧ ρ = [.dat (rowsP n P), .dat (.list ((List.range n).map fun i => enc (tw n P i))), .emp, .emp, .emp, .emp]) (by simp) ?_
  rintro _ f ⟨rfl, rfl⟩
  refine ev_step (fun ρ g => g = f ∧ ρ = [.dat (rowsP n P), .dat (.list ((List.range n).map fun i => enc (tw n P i))), .dat (.int (twS n P).num), .dat (.int ((twS n P).den : Nat)), .emp, .emp]) (by
    generalize rowsP n P = R at *
    generalize ((List.range n).map fun i => enc (tw n P i)) = L at *
    rw [en] at al
    simp [al]) ?_
  rintro _ f ⟨rfl, rfl⟩
  by_cases z : twS n P = 0
  · rw [if_pos z, z]
    have : (0 : Rat).num = 0 := rfl
    simp [this]
  · rw [if_neg z]
    have p : 0 < twS n P := by grind
    have np := num_pos p
    have nz : ¬ (twS n P).num = 0 := by omega
    have lc2 : ∀ (s0 s1 s4 s5 : Slot), lcN (.one 5) cYes (cCall F_q_lowest [cBin oMul (cBin oIx (cVar 5) (cC (.int 0))) (cVar 3), cBin oMul (cBin oIx (cVar 5) (cC (.int 1))) (cVar 2)]) [s0, s1, .dat (.int (twS n P).num), .dat (.int ((twS n P).den : Nat)), s4, s5] ((List.range n).map fun i => enc (tw n P i)) [] f = .ok ((List.range n).map fun i => enc (twW n P i)) f := fun s0 s1 s4 s5 => by
      refine lc_map (by rw [List.length_range]; omega) fun i hi => ⟨_, rfl, ?_⟩
      rw [List.mem_range] at hi
      have sx := sT i hi
      have e1 : oIx (enc (tw n P i)) (.int 0) = some (.dat (.int (tw n P i).num)) := rfl
      have e2 : oIx (enc (tw n P i)) (.int 1) = some (.dat (.int ((tw n P i).den : Nat))) := rfl
      have m1 : oMul (.int (tw n P i).num) (.int ((twS n P).den : Nat)) = some (.dat (.int ((tw n P i).num * (twS n P).den))) := oMul_int (mulC_sz (n := 200) sx.num (by rw [Int.natAbs_natCast]; exact sS.den) (by decide))
      have m3 : oMul (.int ((tw n P i).den : Nat)) (.int (twS n P).num) = some (.dat (.int ((tw n P i).den * (twS n P).num))) := oMul_int (mulC_sz (n := 200) (by rw [Int.natAbs_natCast]; exact sx.den) sS.num (by decide))
      have e : ((tw n P i).den * (twS n P).num : Int) = (((tw n P i).den * (twS n P).num.toNat : Nat) : Int) := by
        rw [Int.natCast_mul, Int.toNat_of_nonneg (by omega)]
      rw [e] at m3
      have b3 := prod_lt sx.den sS.num (by decide : (200 : Nat) ≤ 4000)
      have en2 : (twS n P).num.toNat = (twS n P).num.natAbs := by omega
      have kk : (2 : Nat) ^ 8000 ≤ 2 ^ 8500 := by decide
      have lb := lowest_big (f := f) (p := (tw n P i).num * (twS n P).den) (q := (tw n P i).den * (twS n P).num.toNat) (Nat.mul_pos (tw n P i).den_pos (by omega)) (by rw [en2]; omega)
      rw [div_eq p] at lb
      have tWe : twW n P i = tw n P i / twS n P := rfl
      rw [← tWe] at lb
      generalize twW n P i = y at *
      generalize enc (tw n P i) = x at *
      generalize ((tw n P i).den * (twS n P).num.toNat : Nat) = q at *
      generalize ((tw n P i).num * (twS n P).den : Int) = p' at *
      simp [e1, e2, m1, m3, lb]
    have ws : (List.range n).map (fun i => enc (twW n P i)) = wsD n (twW n P) := rfl
    rw [ws] at lc2
    generalize rowsP n P = R at *
    generalize ((List.range n).map fun i => enc (tw n P i)) = L at *
    generalize wsD n (twW n P) = L2 at *
    simp [nz, lc2]
/-- what may be added to ways -/
def someP (n : Nat) (P : Nat → Nat → Rat) (led : List Nat) : List (Nat × Nat) := (List.range n).flatMap fun k => if k ∈ led then [] else (led.filter fun b => !decide (P k b = 0)).map fun b => (k, b)
theorem mem_someP {led : List Nat} {p : Nat × Nat} : p ∈ someP n P led ↔ p.1 < n ∧ p.1 ∉ led ∧ p.2 ∈ led ∧ P p.1 p.2 ≠ 0 := by
  unfold someP
  rw [List.mem_flatMap]
  constructor
  · rintro ⟨k, hk, hp⟩
    split at hp
    · cases hp
    · rename_i z
      obtain ⟨b, hb, rfl⟩ := List.mem_map.mp hp
      obtain ⟨b1, b2⟩ := List.mem_filter.mp hb
      exact ⟨List.mem_range.mp hk, z, b1, by simpa using b2⟩
  · rintro ⟨h1, h2, h3, h4⟩
    refine ⟨p.1, List.mem_range.mpr h1, ?_⟩
    rw [if_neg h2]
    exact List.mem_map.mpr ⟨p.2, List.mem_filter.mpr ⟨h3, by simpa using h4⟩, rfl⟩
theorem shaped_prs : ∀ {l : List (Nat × Nat)}, SeqAt.shaped (.list (l.map prD)) = true := fun {l} => by
  refine shaped_list (canAll_iff.mpr fun x hx => ?_) ?_
  · obtain ⟨A, _, rfl⟩ := List.mem_map.mp hx
    rfl
  · have : PyData.depthAll (l.map prD) ≤ 1 := by
      induction l with
      | nil => decide
      | cons A r ih =>
        show max (prD A).depth (PyData.depthAll (r.map prD)) ≤ 1
        have : (prD A).depth = 1 := rfl
        omega
    omega
theorem ne_prs {l : List (Nat × Nat)} : oNe (.list (l.map prD)) (.list []) = some (.dat (.bool (!decide (l = [])))) := by
  rw [oNe_of shaped_prs (by rfl)]
  cases l with
  | nil => rfl
  | cons A r =>
    show some (RV.dat (PyData.bool (!PyData.eqvAll (prD A :: r.map prD) []))) = _
    simp [PyData.eqvAll]
theorem at_last9 {α : Type} {xs : List α} {x : α} : atI (xs ++ [x]) (-1) = some x := by
  exact L2.atI_last _ _
theorem q_ways_home_ok (hn : n ≤ 4) (hh : h < n) (hl : ∀ k, k < n → Led n P k h) {t : Int} (hF : Fd t f) (ht : t < 2 ^ 38) : Ev (F_q_ways_home [.feed, .dat (rowsP n P), .dat (.int (h : Nat))] f) fun rv g => ∃ ps, rv = .dat (.tuple (ps.map prD)) ∧ WaysOk n P h ps ∧ ps.length + 1 = n ∧ Fd (t + 4) g := by
  have e0 := lenR (n := n) (P := P)
  have rg := rgN (m := n)
  rw [u_q_ways_home, ev_dEnd]
  unfold S_q_ways_home
  refine ev_step (fun ρ g => g = f ∧ ρ = [.feed, .dat (rowsP n P), .dat (.int (h : Nat)), .own (natsD [h]), .emp, .emp, .emp, .emp, .emp]) (by simp [natsD]) ?_
  rintro _ f ⟨rfl, rfl⟩
  refine ev_step (fun ρ g => g = f ∧ ρ = [.feed, .dat (rowsP n P), .dat (.int (h : Nat)), .own (natsD [h]), .own [], .emp, .emp, .emp, .emp]) (by simp) ?_
  rintro _ f ⟨rfl, rfl⟩
  refine ev_stp (fun ρ g => ∃ ps, WaysOk n P h ps ∧ ps.length + 1 = n ∧ ∃ s5 s6 s7 s8 : Slot, ρ = [.feed, .dat (rowsP n P), .dat (.int (h : Nat)), .own (natsD (h :: ps.map (·.1))), .own (ps.map prD), s5, s6, s7, s8] ∧ Fd (t + 4) g) ?_ ?_
  · intro Q' hQ
    rw [e_for]
    simp [e0, smallI_ok (n := (n : Int)) (by omega) (by omega)]
    refine ev_for (I := fun i ρ g => ∃ ps, WaysOk n P h ps ∧ ps.length = min i (n - 1) ∧ ∃ s5 s6 s7 s8 : Slot, ρ = [.feed, .dat (rowsP n P), .dat (.int (h : Nat)), .own (natsD (h :: ps.map (·.1))), .own (ps.map prD), s5, s6, s7, s8] ∧ Fd (t + i) g) ⟨[], WaysOk.nil hh, by simp, .emp, .emp, .emp, .emp, rfl, by simpa using hF⟩ ?_ ?_
    · rintro i d ρ g hd ⟨ps, wo, hl2, s5, s6, s7, s8, rfl, hG⟩
      obtain ⟨rfl, hi⟩ := range_at hd
      refine ⟨_, rfl, ?_⟩
      simp only [Int.zero_add]
      have pl := wo.len hh
      generalize hled : h :: ps.map (·.1) = led at *
      have ledl : led.length ≤ n := by rw [← hled, List.length_cons, List.length_map]; exact pl
      have ledn : ∀ b ∈ led, b < n := fun b hb => by
        rw [← hled] at hb
        rcases List.mem_cons.mp hb with rfl | hb
        · exact hh
        · obtain ⟨p, hp, rfl⟩ := List.mem_map.mp hb
          exact (wo.lt p hp).1
      refine ev_step (fun ρ f => f = g ∧ ρ = [.feed, .dat (rowsP n P), .dat (.int (h : Nat)), .own (natsD led), .own (ps.map prD), .dat (.int (i : Nat)), .own [], s7, s8]) (by simp) ?_
      rintro _ g ⟨rfl, rfl⟩
      refine ev_stp (fun ρ f => f = g ∧ ∃ s7 s8 : Slot, ρ = [.feed, .dat (rowsP n P), .dat (.int (h : Nat)), .own (natsD led), .own (ps.map prD), .dat (.int (i : Nat)), .own ((someP n P led).map prD), s7, s8]) ?_ ?_
      · intro Q2 hQ2
        rw [e_for]
        simp [e0, smallI_ok (n := (n : Int)) (by omega) (by omega)]
        refine ev_for (I := fun k ρ f => f = g ∧ ∃ s7 s8 : Slot, ρ = [.feed, .dat (rowsP n P), .dat (.int (h : Nat)), .own (natsD led), .own (ps.map prD), .dat (.int (i : Nat)), .own (((List.range k).flatMap fun k => if k ∈ led then [] else (led.filter fun b => !decide (P k b = 0)).map fun b => (k, b)).map prD), s7, s8]) ⟨rfl, s7, s8, rfl⟩ ?_ ?_
        · rintro k d ρ g hd ⟨rfl, s7, s8, rfl⟩
          obtain ⟨rfl, hk⟩ := range_at hd
          refine ⟨_, rfl, ?_⟩
          simp only [Int.zero_add]
          have ef : ((List.range (k + 1)).flatMap fun k => if k ∈ led then [] else (led.filter fun b => !decide (P k b = 0)).map fun b => (k, b)).map prD = (((List.range k).flatMap fun k => if k ∈ led then [] else (led.filter fun b => !decide (P k b = 0)).map fun b => (k, b)).map prD) ++ ((if k ∈ led then [] else (led.filter fun b => !decide (P k b = 0)).map fun b => (k, b)).map prD) := by
            rw [List.range_succ, List.flatMap_append, List.map_append, List.flatMap_singleton]
          have ll : (((List.range k).flatMap fun k => if k ∈ led then [] else (led.filter fun b => !decide (P k b = 0)).map fun b => (k, b)).map prD).length ≤ 16 := by
            rw [List.length_map]
            refine Nat.le_trans (flat_len (m := 4) fun x _ => ?_) (by rw [List.length_range]; omega)
            split
            · simp
            · rw [List.length_map]
              exact Nat.le_trans (List.length_filter_le _ _) (by omega)
          rw [ef]
          generalize (((List.range k).flatMap fun k => if k ∈ led then [] else (led.filter fun b => !decide (P k b = 0)).map fun b => (k, b)).map prD) = L at *
          have i2 := inNs (neg := true) (a := k) (A := led)
          rw [Bool.true_xor] at i2
          by_cases c : k ∈ led
          · rw [decide_eq_true c] at i2
            rw [if_pos c]
            generalize natsD led = T at *
            generalize rowsP n P = R at *
            simp [i2]
          · rw [decide_eq_false c] at i2
            rw [if_neg c, List.map_map]
            have lc1 : ∀ (o4 o6 s8 : Slot), lcN (.one 8) (cT (cBin oNe (cBin oIx (cBin oIx (cVar 1) (cVar 7)) (cVar 8)) (cTup [cC (.int 0), cC (.int 1)]))) (cTup [cVar 7, cVar 8]) [.feed, .dat (rowsP n P), .dat (.int (h : Nat)), .own (natsD led), o4, .dat (.int (i : Nat)), o6, .dat (.int (k : Nat)), s8] (led.map nD) [] g = .ok ((led.filter fun b => !decide (P k b = 0)).map (prD ∘ fun b => (k, b))) g := fun o4 o6 s8 => by
              refine lc_pure (by omega) fun b hb => ⟨_, rfl, ?_, fun _ => ?_⟩
              · have e1 := ixR (P := P) hk
                have e2 := ixC (P := P) (i := k) (ledn b hb)
                have e3 := ne_enc0 (x := P k b)
                generalize rowsP n P = R at *
                generalize rwP n P k = r at *
                generalize enc (P k b) = x at *
                generalize decide (P k b = 0) = bb at *
                simp [e1, e2, e3]
              · simp [prD]
            have lm : ((led.filter fun b => !decide (P k b = 0)).map (prD ∘ fun b => (k, b))).length ≤ 4 := by
              rw [List.length_map]
              exact Nat.le_trans (List.length_filter_le _ _) (by omega)
            generalize ((led.filter fun b => !decide (P k b = 0)).map (prD ∘ fun b => (k, b))) = M at *
            have lM : L.length + M.length ≤ 100000 := by omega
            unfold natsD at i2 lc1 ⊢
            generalize led.map nD = T at *
            generalize rowsP n P = R at *
            simp [i2, lc1, lM]
        · rintro ρ g ⟨rfl, s7, s8, rfl⟩
          rw [range_len]
          exact ⟨_, rfl, hQ2 _ _ ⟨rfl, s7, s8, rfl⟩⟩
      rintro _ g ⟨rfl, s7, s8, rfl⟩
      refine ev_step (fun ρ f => f = g ∧ ρ = [.feed, .dat (rowsP n P), .dat (.int (h : Nat)), .own (natsD led), .own (ps.map prD), .dat (.int (i : Nat)), .dat (.list ((someP n P led).map prD)), s7, s8]) (by simp) ?_
      rintro _ g ⟨rfl, rfl⟩
      have nn := ne_prs (l := someP n P led)
      by_cases z : someP n P led = []
      · rw [decide_eq_true z] at nn
        have full : ps.length = n - 1 := by
          apply Classical.byContradiction
          intro q
          have : ∃ k, k < n ∧ k ∉ led := by
            apply Classical.byContradiction
            intro z2
            have this := len_subN (List.nodup_range (n := n)) (m := led) fun k hk => by
              apply Classical.byContradiction
              intro z3
              exact z2 ⟨k, List.mem_range.mp hk, z3⟩
            rw [List.length_range, ← hled, List.length_cons, List.length_map] at this
            omega
          obtain ⟨k, hk, nk⟩ := this
          obtain ⟨a, b, ha, hb, na, mb, hp⟩ := led_cross (hl k hk) (S := led) (by rw [← hled]; simp) nk
          have : (a, b) ∈ someP n P led := mem_someP.mpr ⟨ha, na, mb, hp⟩
          rw [z] at this
          cases this
        have Z : ∃ ps', WaysOk n P h ps' ∧ ps'.length = min (i + 1) (n - 1) ∧ ∃ t5 t6 t7 t8 : Slot, [Slot.feed, .dat (rowsP n P), .dat (.int (h : Nat)), .own (natsD led), .own (ps.map prD), .dat (.int (i : Nat)), .dat (.list ((someP n P led).map prD)), s7, s8] = [.feed, .dat (rowsP n P), .dat (.int (h : Nat)), .own (natsD (h :: ps'.map (·.1))), .own (ps'.map prD), t5, t6, t7, t8] ∧ Fd (t + ((i + 1 : Nat) : Int)) g := ⟨ps, wo, by omega, _, _, _, _, by rw [hled], hG.up (by omega)⟩
        generalize (someP n P led).map prD = L at *
        generalize rowsP n P = R at *
        generalize ps.map prD = PD at *
        generalize natsD led = T at *
        exact ⟨.nx [.feed, .dat R, .dat (.int (h : Nat)), .own T, .own PD, .dat (.int (i : Nat)), .dat (.list L), s7, s8], g, by simp [nn], Z⟩
      · rw [decide_eq_false z] at nn
        have l0 := List.length_pos_iff.mpr z
        have sl : (someP n P led).length ≤ 16 := by
          unfold someP
          refine Nat.le_trans (flat_len (m := 4) fun x _ => ?_) (by rw [List.length_range]; omega)
          split
          · simp
          · rw [List.length_map]
            exact Nat.le_trans (List.length_filter_le _ _) (by omega)
        have lsp : oLen (.list ((someP n P led).map prD)) = some (.dat (.int ((someP n P led).length : Nat))) := by simp
        have lnp : ps.length < n - 1 := by
          apply Classical.byContradiction
          intro q
          cases e : someP n P led with
          | nil => exact z e
          | cons p r =>
            have hp : p ∈ someP n P led := by rw [e]; exact List.mem_cons_self
            obtain ⟨p1, p2, _, _⟩ := mem_someP.mp hp
            have := ((vY_none ps).mp (full_ways hh wo (by omega))).2 p.1 p1
            rw [hled] at this
            exact p2 this
        simp only [e_if]
        rw [ev_bind]
        have tst : (cT (cBin oNe (cVar 6) (cLst []))) [.feed, .dat (rowsP n P), .dat (.int (h : Nat)), .own (natsD led), .own (ps.map prD), .dat (.int (i : Nat)), .dat (.list ((someP n P led).map prD)), s7, s8] g = .ok true g := by
          generalize (someP n P led).map prD = L at *
          generalize rowsP n P = R at *
          generalize ps.map prD = PD at *
          generalize natsD led = T at *
          simp [nn]
        rw [tst]
        refine Ev.of rfl ?_
        simp only [if_true]
        refine ev_stp (fun ρ f => ∃ p ∈ someP n P led, ρ = [.feed, .dat (rowsP n P), .dat (.int (h : Nat)), .own (natsD led), .own (ps.map prD ++ [prD p]), .dat (.int (i : Nat)), .dat (.list ((someP n P led).map prD)), s7, s8] ∧ Fd (t + i + 1) f) ?_ ?_
        · intro Q2 hQ2
          have key : ∀ a : Nat, a < (someP n P led).length → ∃ p ∈ someP n P led, ((someP n P led).map prD)[a]? = some (prD p) := fun a ha => ⟨_, List.getElem_mem ha, by rw [List.getElem?_map, List.getElem?_eq_getElem ha]; rfl⟩
          have pl4 : (ps.map prD).length < 100000 := by rw [List.length_map]; omega
          generalize hS : someP n P led = S at *
          generalize hL : S.map prD = L at *
          generalize rowsP n P = R at *
          generalize ps.map prD = PD at *
          generalize natsD led = T at *
          have lL : L.length = S.length := by rw [← hL, List.length_map]
          simp [lL]
          refine Ev.drawn (draw_v3_ok (s := (S.length : Int)) (by omega) (by omega) hG (by omega)) fun a g a0 a1 hF2 => ?_
          obtain ⟨a, rfl⟩ := Int.eq_ofNat_of_zero_le a0
          obtain ⟨p, hp, e1⟩ := key a (by omega)
          simp [e1, pl4]
          exact hQ2 _ _ ⟨p, hp, rfl, hF2⟩
        rintro _ g ⟨p, hp, rfl, hF2⟩
        obtain ⟨p1, p2, p3, p4⟩ := mem_someP.mp hp
        have wo2 : WaysOk n P h (ps ++ [p]) := wo.snoc (a := p.1) (b := p.2) p1 (ledn p.2 p3) (by rw [hled]; exact p2) (by rw [hled]; exact p3) p4
        have Z : ∃ ps', WaysOk n P h ps' ∧ ps'.length = min (i + 1) (n - 1) ∧ ∃ t5 t6 t7 t8 : Slot, [Slot.feed, .dat (rowsP n P), .dat (.int (h : Nat)), .own (natsD led ++ [.int (p.1 : Nat)]), .own (ps.map prD ++ [prD p]), .dat (.int (i : Nat)), .dat (.list ((someP n P led).map prD)), s7, s8] = [.feed, .dat (rowsP n P), .dat (.int (h : Nat)), .own (natsD (h :: ps'.map (·.1))), .own (ps'.map prD), t5, t6, t7, t8] ∧ Fd (t + ((i + 1 : Nat) : Int)) g := ⟨ps ++ [p], wo2, by rw [List.length_append, List.length_singleton]; omega, _, _, _, _, by
          have e1 : h :: (ps ++ [p]).map (·.1) = led ++ [p.1] := by rw [← hled]; simp
          rw [e1]
          unfold natsD
          rw [List.map_append, List.map_append]
          rfl, hF2.up (by omega)⟩
        have al := at_last9 (xs := ps.map prD) (x := prD p)
        have tl : (natsD led).length < 100000 := by unfold natsD; rw [List.length_map]; omega
        have ix : oIx (prD p) (.int 0) = some (.dat (.int (p.1 : Nat))) := rfl
        have ixl : oIx (.list (ps.map prD ++ [prD p])) (.int (-1)) = some (.dat (prD p)) := by rw [e_ix_list, al]; rfl
        generalize (someP n P led).map prD = L at *
        generalize rowsP n P = R at *
        generalize ps.map prD ++ [prD p] = PD at *
        generalize prD p = pd at *
        generalize natsD led = T at *
        exact ⟨.nx [.feed, .dat R, .dat (.int (h : Nat)), .own (T ++ [PyData.int ((p.1 : Nat) : Int)]), .own PD, .dat (.int (i : Nat)), .dat (.list L), s7, s8], g, by simp [-e_ix_list, ixl, ix, tl], Z⟩
    · rintro ρ g ⟨ps, wo, hl2, s5, s6, s7, s8, rfl, hG⟩
      rw [range_len] at *
      exact ⟨_, rfl, hQ _ _ ⟨ps, wo, by omega, s5, s6, s7, s8, rfl, hG.up (by omega)⟩⟩
  rintro _ g ⟨ps, wo, hl2, s5, s6, s7, s8, rfl, hG⟩
  have X : ∃ ps' : List (Nat × Nat), PyData.tuple (ps.map prD) = .tuple (ps'.map prD) ∧ WaysOk n P h ps' ∧ ps'.length + 1 = n ∧ Fd (t + 4) g := ⟨ps, rfl, wo, hl2, hG⟩
  generalize ps.map prD = PD at *
  simp
  simpa using X
end
end Fp
namespace Fp
open PySem PySem.Spec L2 Dn
theorem rs_cp {n : Nat} : ∀ {k : List Tri}, (∀ t ∈ k, t.nx < n) → (rs n fun j => cp k (pN j)) = (k.map (·.c)).sum
  | [], _ => by
    have : rs n (fun j => cp [] (pN j)) = rs n fun _ => 0 := rfl
    rw [this, rs_0]
    rfl
  | t :: k, h => by
    have a := h t List.mem_cons_self
    rw [rs_congr (h := fun j => (if j = t.nx then t.c else 0) + cp k (pN j)) fun j _ => by
      rw [cp_cons]
      congr 1
      unfold pN
      simp [eq_comm], rs_add, rs_cp fun s hs => h s (List.mem_cons_of_mem _ hs), List.map_cons, List.sum_cons]
    congr 1
    have : ∀ m, (rs m fun j => if j = t.nx then t.c else 0) = if t.nx < m then t.c else 0 := by
      intro m
      induction m with
      | zero => rfl
      | succ m ih =>
        rw [rs_succ, ih]
        by_cases e : m = t.nx
        · subst e
          simp
          grind
        · rw [if_neg e]
          by_cases q : t.nx < m
          · rw [if_pos q, if_pos (by omega)]
            grind
          · rw [if_neg q, if_neg (by omega)]
            grind
    rw [this, if_pos a]
section
variable {W n h : Nat} {ks : List (List Tri)} {f : Feed}
theorem ks_get (hi : n < ks.length) : ks.getD n [] ∈ ks := by
  rw [List.getD_eq_getElem?_getD, List.getElem?_eq_getElem hi]
  exact List.getElem_mem hi
theorem chn_of (hk : KsOk W ks) (hf : ∀ k ∈ ks, fullK k) : Chn ks.length (pk ks) := by
  refine ⟨fun i j hi hj => (hk.P i j hi hj).2.1, fun i hi => ?_⟩
  have hm := ks_get hi
  have e : rs ks.length (pk ks i) = rs ks.length fun j => cp (ks.getD i []) (pN j) := rfl
  rw [e, rs_cp fun t ht => ((hk.ok _ hm).st t ht).2.2]
  exact hf _ hm
theorem pw_of (hk : KsOk W ks) (hW : W ≤ 2 ^ 31) : PW ks.length (pk ks) W := ⟨hk.n1, hk.n4, hk.W0, hW, hk.P⟩
theorem own_of (hk : KsOk W ks) : ∃ V, OwnV ks.length (pk ks) V := by
  have : ∀ i, ∃ v, i < ks.length → 0 < v ∧ v ≤ 200 ∧ ∀ j, j < ks.length → Wh v (pk ks i j) := fun i => by
    by_cases hi : i < ks.length
    · obtain ⟨V, V2, hV⟩ := hk.own _ (ks_get hi)
      exact ⟨V, fun _ => ⟨hV.W0, V2, fun j _ => (hV.cp (pN j)).1⟩⟩
    · exact ⟨0, fun z => absurd z hi⟩
  exact ⟨fun i => Classical.choose (this i), fun i hi => Classical.choose_spec (this i) hi⟩
theorem tc_prs {n : Nat} (hn : n ≤ 4) {ps : List (Nat × Nat)} (hp : ∀ p ∈ ps, p.1 < n ∧ p.2 < n) (hl : ps.length ≤ 8) : Tc 134 200 2 (.tuple (ps.map prD)) := by
  refine ⟨?_, tup_can fun x hx => ?_⟩
  · have a := thL_of5 (e := 134) (b := 24) (k := 1) (xs := ps) (f := prD) fun t ht => by
      obtain ⟨p1, p2⟩ := hp t ht
      have q1 : Th 10 11 0 (.int (t.1 : Nat)) := th_int (by rw [Int.natAbs_natCast]; omega)
      have q2 : Th 10 11 0 (.int (t.2 : Nat)) := th_int (by rw [Int.natAbs_natCast]; omega)
      exact (th_tuple (thL_cons q1 (thL_one q2))).up (by decide) (by decide) (Nat.le_refl _)
    exact th_tuple (a.up (Nat.le_refl _) (by omega) (Nat.le_refl _))
  · obtain ⟨p, _, rfl⟩ := List.mem_map.mp hx
    rfl
theorem tc_ws {n e : Nat} (hn : n ≤ 4) (he : e ≤ 134) {w : Nat → Rat} (hw : ∀ i, i < n → Sz e (w i)) : Tc 134 (4 * (2 * e + 5)) 2 (.tuple (wsD n w)) := by
  refine ⟨?_, tup_can fun x hx => ?_⟩
  · have a := thL_of5 (e := 134) (b := 2 * e + 4) (k := 1) (xs := List.range n) (f := fun i => enc (w i)) fun t ht => ((th_enc (hw t (List.mem_range.mp ht))).up he (Nat.le_refl _) (Nat.le_refl _))
    rw [List.length_range] at a
    exact th_tuple (a.up (Nat.le_refl _) (Nat.mul_le_mul_right _ hn) (Nat.le_refl _))
  · obtain ⟨i, _, rfl⟩ := List.mem_map.mp hx
    rfl
theorem tc_nat {a : Nat} (h : a < 1000) {k : Nat} : Tc 134 11 k (.int (a : Nat)) := ⟨(th_int (e := 10) (by rw [Int.natAbs_natCast]; omega)).up (by decide) (Nat.le_refl _) (Nat.zero_le _), rfl⟩
theorem tc_share {n h e b1 : Nat} {w : Nat → Rat} {x y : PyData} (hh : h < 1000) (hx : Tc 134 e 2 x) (hy : Tc 134 b1 2 y) : Tc 134 (e + b1 + 25) 3 (.tuple [.str (Str.ofString "share"), .int (h : Nat), x, y]) := by
  refine ⟨(th_tuple (thL_cons (tc_word ws_share can_share).th (thL_cons (tc_nat hh).th (thL_cons hx.th (thL_one hy.th))))).up (Nat.le_refl _) (by omega) (Nat.le_refl _), tup_can fun d hd => ?_⟩
  simp only [List.mem_cons, List.not_mem_nil, or_false] at hd
  rcases hd with rfl | rfl | rfl | rfl
  · exact can_share
  · rfl
  · exact hx.c
  · exact hy.c
/-- a right share paper -/
structure SharePw (ks : List (List Tri)) (W : Nat) (h : Nat) (ps : List (Nat × Nat)) : Prop where
  hh : h < ks.length
  led : ∀ k, k < ks.length → Led ks.length (pk ks) k h
  wo : WaysOk ks.length (pk ks) h ps
  len : ps.length + 1 = ks.length
theorem SharePw.vS {ps : List (Nat × Nat)} (hk : KsOk W ks) (hW : W ≤ 2 ^ 31) (hf : ∀ k ∈ ks, fullK k) (s : SharePw ks W h ps) : vS ks.length (pk ks) h (twW ks.length (pk ks)) ps = none := by
  have w := pw_of hk hW
  have c := chn_of hk hf
  have sp := twS_pos w s.hh s.led
  unfold Fp.vS vW
  rw [if_pos (twW_sum (by grind)), List.find?_eq_none.mpr fun k hk2 => by
    rw [List.mem_range] at hk2
    unfold statB
    rw [twW_stat w.n1 w.n4 c k hk2]
    simp]
  exact full_ways s.hh s.wo s.len
theorem SharePw.tc {ps : List (Nat × Nat)} (hk : KsOk W ks) (hW : W ≤ 2 ^ 31) (s : SharePw ks W h ps) : Tc 134 565 3 (shareD ks.length h (twW ks.length (pk ks)) ps) := by
  have w := pw_of hk hW
  have n4 := hk.n4
  obtain ⟨V, o⟩ := own_of hk
  have sp := twS_pos w s.hh s.led
  have hl := s.len
  have hh := s.hh
  exact (tc_share (n := 0) (w := fun _ => 0) (by omega) (tc_ws (e := 40) n4 (by decide) fun i hi => (twW_sz w o (by grind) hi).1) (tc_prs n4 s.wo.lt (by omega))).up (Nat.le_refl _) (by decide) (Nat.le_refl _)
theorem SharePw.sh {ps : List (Nat × Nat)} (hk : KsOk W ks) (s : SharePw ks W h ps) {w : Nat → Rat} : shB ks.length (shareD ks.length h w ps) = true := by
  have n4 := hk.n4
  have hl := s.len
  have hh := s.hh
  show (decide (Str.ofString "share" = Str.ofString "share") && (plB ks.length (.int (h : Nat)) && (wsB ks.length (.tuple (wsD ks.length w)) && ypB ks.length (.tuple (ps.map prD))))) = true
  have e1 : plB ks.length (.int (h : Nat)) = true := by
    show decide (0 ≤ ((h : Nat) : Int) ∧ ((h : Nat) : Int) < ks.length) = true
    rw [decide_eq_true_eq]
    omega
  have e2 : wsB ks.length (.tuple (wsD ks.length w)) = true := by
    show (decide ((wsD ks.length w).length = ks.length) && (wsD ks.length w).all isr) = true
    rw [decide_eq_true (by unfold wsD; rw [List.length_map, List.length_range]), Bool.true_and, List.all_eq_true]
    intro x hx
    obtain ⟨i, _, rfl⟩ := List.mem_map.mp hx
    exact isr_of _
  have e3 : ypB ks.length (.tuple (ps.map prD)) = true := by
    show (decide ((ps.map prD).length ≤ 3) && (ps.map prD).all (prB ks.length)) = true
    rw [decide_eq_true (by rw [List.length_map]; omega), Bool.true_and, List.all_eq_true]
    intro x hx
    obtain ⟨p, hp, rfl⟩ := List.mem_map.mp hx
    obtain ⟨p1, p2⟩ := s.wo.lt p hp
    show (decide (0 ≤ ((p.1 : Nat) : Int) ∧ ((p.1 : Nat) : Int) < ks.length) && decide (0 ≤ ((p.2 : Nat) : Int) ∧ ((p.2 : Nat) : Int) < ks.length)) = true
    rw [decide_eq_true (by omega), decide_eq_true (by omega)]
    rfl
  rw [e1, e2, e3, decide_eq_true rfl]
  rfl
/-- the right share paper is let by -/
theorem SharePw.told {ps : List (Nat × Nat)} (hk : KsOk W ks) (hW : W ≤ 2 ^ 31) (hf : ∀ k ∈ ks, fullK k) (s : SharePw ks W h ps) : F_q_told_v4 [.dat (kindsD ks), .dat (shareD ks.length h (twW ks.length (pk ks)) ps)] f = .ok (.own [.str "share"]) f := by
  have t := s.tc hk hW
  have r := rw_of hk hW t.th (by decide)
  have n4 := hk.n4
  have hl := s.len
  have := told_v4 (f := f) fun g => lets_S (f := g) hk hW t.th (by decide) (s.sh hk) r s.hh s.wo.lt (by omega)
  rw [s.vS hk hW hf] at this
  exact this
theorem pair_told (hk : KsOk W ks) (hW : W ≤ 2 ^ 31) {p : List Nat × List Nat} (hp : p ∈ pairsC (closL ks.length (pk ks))) : F_q_told_v4 [.dat (kindsD ks), .dat (pairD p)] f = .ok (.own [.str "apart"]) f := by
  obtain ⟨sA, sB, pn⟩ := pair_vA hk.n4 hp
  have tp := tc_apart hk.n4 sA sB
  have t2 := told_v4 (d := pairD p) (K := kindsD ks) (f := f) (word := "apart") (v := vA ks.length (pk ks) p.1 p.2) fun g => lets_A hk hW tp (by decide) (by decide) (apB_sets sA sB) sA.lt sB.lt
  rw [pn] at t2
  exact t2
/-- where no kind is led to by all, there are two sets apart -/
theorem no_home_pair {P : Nat → Nat → Rat} (n1 : 1 ≤ n) (n4 : n ≤ 4) (h0 : homL n P = []) : pairsC (closL n P) ≠ [] := by
  have cl : ∀ i, i < n → rchL n P i ∈ closL n P := fun i hi => mem_clos n4 (fun a ha => ((mem_rch hi).mp ha).lt2) (List.Pairwise.sublist List.filter_sublist List.pairwise_lt_range) (fun z => by
    have : i ∈ rchL n P i := (mem_rch hi).mpr (.refl i hi)
    rw [z] at this
    cases this) fun a ha => by
    unfold outB
    rw [List.any_eq_false]
    intro j hj
    rw [List.mem_range] at hj
    by_cases z : P a j = 0
    · simp [z]
    · have m := (mem_rch hi).mp ha
      have : j ∈ rchL n P i := (mem_rch hi).mpr (m.trans (Led.one a j m.lt2 hj z))
      simp [this]
  intro z
  have : ∃ c, c < n ∧ ∀ k, k < n → Led n P k c := home_all n1 fun i j hi hj => by
    apply Classical.byContradiction
    intro q
    have : (rchL n P i, rchL n P j) ∈ pairsC (closL n P) := mem_pairs.mpr ⟨cl i hi, cl j hj, fun a ha hb => q ⟨a, (mem_rch hi).mp ha, (mem_rch hj).mp hb⟩⟩
    rw [z] at this
    cases this
  obtain ⟨c, c1, c2⟩ := this
  have : c ∈ homL n P := mem_hom.mpr ⟨c1, c2⟩
  rw [h0] at this
  cases this
end
section
variable {n : Nat}
end
end Fp
namespace Fp
open PySem PySem.Spec L2 Dn
/-- a right paper -/
def PaperOk (ks : List (List Tri)) (W : Nat) (d : PyData) : Prop := (∃ h ps, d = shareD ks.length h (twW ks.length (pk ks)) ps ∧ SharePw ks W h ps) ∨ (∃ p, d = pairD p ∧ p ∈ pairsC (closL ks.length (pk ks)) ∧ homL ks.length (pk ks) = [])
section
variable {W : Nat} {ks : List (List Tri)} {f : Feed}
theorem PaperOk.tc {d : PyData} (hk : KsOk W ks) (hW : W ≤ 2 ^ 31) (h : PaperOk ks W d) : Tc 134 565 3 d := by
  rcases h with ⟨h, ps, rfl, s⟩ | ⟨p, rfl, hp, _⟩
  · exact s.tc hk hW
  · obtain ⟨sA, sB, pn⟩ := pair_vA hk.n4 hp
    exact (tc_apart hk.n4 sA sB).up (Nat.le_refl _) (by decide) (by decide)
theorem PaperOk.told {d : PyData} (hk : KsOk W ks) (hW : W ≤ 2 ^ 31) (hf : ∀ k ∈ ks, fullK k) (h : PaperOk ks W d) : ∃ word : Str, WsOk word ∧ oIx d (.int 0) = some (.dat (.str word)) ∧ ∀ f, F_q_told_v4 [.dat (kindsD ks), .dat d] f = .ok (.own [.str word]) f := by
  rcases h with ⟨h, ps, rfl, s⟩ | ⟨p, rfl, hp, _⟩
  · exact ⟨Str.ofString "share", ws_share, rfl, fun f => s.told hk hW hf⟩
  · exact ⟨Str.ofString "apart", ws_apart, rfl, fun f => pair_told hk hW hp⟩
theorem share_drawn (hk : KsOk W ks) (hW : W ≤ 2 ^ 31) {t : Int} (hF : Fd t f) (ht : t < 2 ^ 37) {h : Nat} (hm : h ∈ homL ks.length (pk ks)) : Ev (cTup [cC (.str "share"), cVar 0, cCall F_q_weights_v2 [cVar 1], cCall F_q_ways_home [cVar 2, cVar 1, cVar 0]] [.dat (.int (h : Nat)), .dat (rowsP ks.length (pk ks)), .feed] f) fun rv g => ∃ ps, rv = .dat (shareD ks.length h (twW ks.length (pk ks)) ps) ∧ SharePw ks W h ps ∧ Fd (t + 4) g := by
  have w := pw_of hk hW
  obtain ⟨hh, hl⟩ := mem_hom.mp hm
  have sp := twS_pos w hh hl
  have qw := q_weights_q (f := f) w
  rw [if_neg (by grind)] at qw
  have qh := q_ways_home_ok (P := pk ks) hk.n4 hh hl hF (by omega)
  simp [qw]
  rw [ev_dt]
  refine Ev.mono qh ?_
  rintro _ g ⟨ps, rfl, wo, len, hF1⟩
  simp
  exact ⟨ps, rfl, ⟨hh, hl, wo, len⟩, hF1⟩
theorem pairs_flat {C : List (List Nat)} {A : List Nat} : (C.filter fun B => A.all fun a => !decide (a ∈ B)).map (fun B => (A, B)) = C.flatMap fun B => if A.all (fun a => !decide (a ∈ B)) = true then [(A, B)] else [] := by
  induction C with
  | nil => rfl
  | cons B r ih =>
    rw [List.flatMap_cons, ← ih]
    by_cases c : A.all (fun a => !decide (a ∈ B)) = true
    · simp only [List.filter_cons, c, if_true, List.map_cons, List.singleton_append]
    · simp only [List.filter_cons, c, if_false, List.nil_append, Bool.false_eq_true]
theorem paper_ok9 (hk : KsOk W ks) (hW : W ≤ 2 ^ 31) {t : Int} (hF : Fd t f) (ht : t < 2 ^ 36) : Ev (F_q_paper_v2 [.feed, .dat (rowsP ks.length (pk ks))] f) fun rv g => ∃ d, rv = .dat d ∧ PaperOk ks W d ∧ Fd (t + 5) g := by
  have n4 := hk.n4
  have n1 := hk.n1
  have qh := q_homes_q (n := ks.length) (P := pk ks) (f := f) n4
  have nn := ne_natL (A := homL ks.length (pk ks))
  rw [u_q_paper_v2, ev_dEnd]
  unfold S_q_paper_v2
  refine ev_step (fun ρ g => g = f ∧ ρ = [.feed, .dat (rowsP ks.length (pk ks)), .own (natsD (homL ks.length (pk ks))), .emp, .emp, .emp, .emp, .emp, .emp]) (by simp [qh]) ?_
  rintro _ f ⟨rfl, rfl⟩
  refine ev_step (fun ρ g => g = f ∧ ρ = [.feed, .dat (rowsP ks.length (pk ks)), .dat (.list (natsD (homL ks.length (pk ks)))), .emp, .emp, .emp, .emp, .emp, .emp]) (by simp) ?_
  rintro _ f ⟨rfl, rfl⟩
  by_cases z : homL ks.length (pk ks) = []
  · rw [decide_eq_true z] at nn
    have np := no_home_pair (P := pk ks) n1 n4 z
    have pall : ∀ p ∈ pairsC (closL ks.length (pk ks)), PaperOk ks W (pairD p) := fun p hp => .inr ⟨p, rfl, hp, z⟩
    have qc := q_closed_q (n := ks.length) (P := pk ks) (f := f) n4
    have cs : ∀ A ∈ closL ks.length (pk ks), SetOk ks.length A := fun A hA => clos_set n4 hA
    have cl := clos_len (n := ks.length) (P := pk ks)
    have p16 : 2 ^ ks.length ≤ 2 ^ 4 := Nat.pow_le_pow_right (by decide) n4
    have c15 : (closL ks.length (pk ks)).length ≤ 15 := by omega
    have pl : (pairsC (closL ks.length (pk ks))).length ≤ 225 := Nat.le_trans pairs_len (Nat.mul_le_mul c15 c15)
    refine ev_step (fun ρ g => g = f ∧ ρ = [.feed, .dat (rowsP ks.length (pk ks)), .dat (.list (natsD (homL ks.length (pk ks)))), .emp, .emp, .emp, .emp, .emp, .emp]) (by
      generalize natsD (homL ks.length (pk ks)) = H at *
      generalize rowsP ks.length (pk ks) = R at *
      simp [nn]) ?_
    rintro _ f ⟨rfl, rfl⟩
    generalize natsD (homL ks.length (pk ks)) = H at *
    refine ev_step (fun ρ g => g = f ∧ ρ = [.feed, .dat (rowsP ks.length (pk ks)), .dat (.list H), .emp, .own [], .emp, .emp, .emp, .emp]) (by simp) ?_
    rintro _ f ⟨rfl, rfl⟩
    refine ev_step (fun ρ g => g = f ∧ ρ = [.feed, .dat (rowsP ks.length (pk ks)), .dat (.list H), .emp, .own [], .own ((closL ks.length (pk ks)).map tupN), .emp, .emp, .emp]) (by simp [qc]) ?_
    rintro _ f ⟨rfl, rfl⟩
    refine ev_step (fun ρ g => g = f ∧ ρ = [.feed, .dat (rowsP ks.length (pk ks)), .dat (.list H), .emp, .own [], .dat (.list ((closL ks.length (pk ks)).map tupN)), .emp, .emp, .emp]) (by simp) ?_
    rintro _ f ⟨rfl, rfl⟩
    generalize hPL : pairsC (closL ks.length (pk ks)) = PL at *
    generalize hC : closL ks.length (pk ks) = C at *
    generalize rowsP ks.length (pk ks) = R at *
    refine ev_stp (fun ρ g => g = f ∧ ∃ s6 s7 s8 : Slot, ρ = [.feed, .dat R, .dat (.list H), .emp, .own (PL.map pairD), .dat (.list (C.map tupN)), s6, s7, s8]) ?_ ?_
    · intro Q' hQ
      simp
      refine ev_forT (enc := tupN) (I := fun rest ρ g => g = f ∧ ∃ (pre : List (List Nat)) (s6 s7 s8 : Slot), pre ++ rest = C ∧ ρ = [.feed, .dat R, .dat (.list H), .emp, .own ((pre.flatMap fun A => (C.filter fun B => A.all fun a => !decide (a ∈ B)).map fun B => (A, B)).map pairD), .dat (.list (C.map tupN)), s6, s7, s8]) ?_ ?_ _ _ _ ⟨rfl, [], .emp, .emp, .emp, rfl, by simp⟩
      · rintro A rest ρ g ⟨rfl, pre, s6, s7, s8, hpre, rfl⟩
        refine ⟨_, rfl, ?_⟩
        have hA := cs A (by rw [← hpre]; simp)
        have lA := hA.len
        have lpre : pre.length ≤ 15 := by
          have := congrArg List.length hpre
          rw [List.length_append] at this
          omega
        have lL : ((pre.flatMap fun A => (C.filter fun B => A.all fun a => !decide (a ∈ B)).map fun B => (A, B)).map pairD).length ≤ 225 := by
          rw [List.length_map]
          refine Nat.le_trans (flat_len (m := 15) fun A _ => ?_) (Nat.mul_le_mul_right 15 lpre)
          rw [List.length_map]
          exact Nat.le_trans (List.length_filter_le _ _) (by omega)
        have e9 : ((pre ++ [A]).flatMap fun A => (C.filter fun B => A.all fun a => !decide (a ∈ B)).map fun B => (A, B)).map pairD = ((pre.flatMap fun A => (C.filter fun B => A.all fun a => !decide (a ∈ B)).map fun B => (A, B)).map pairD) ++ (C.flatMap fun B => if A.all (fun a => !decide (a ∈ B)) = true then [(A, B)] else []).map pairD := by
          rw [List.flatMap_append, List.map_append, List.flatMap_singleton, pairs_flat]
        have Y : ∀ (s6 s7 s8 : Slot), ∃ (pre2 : List (List Nat)) (t6 t7 t8 : Slot), pre2 ++ rest = C ∧ [Slot.feed, .dat R, .dat (.list H), .emp, .own (((pre.flatMap fun A => (C.filter fun B => A.all fun a => !decide (a ∈ B)).map fun B => (A, B)).map pairD) ++ (C.flatMap fun B => if A.all (fun a => !decide (a ∈ B)) = true then [(A, B)] else []).map pairD), .dat (.list (C.map tupN)), s6, s7, s8] = [.feed, .dat R, .dat (.list H), .emp, .own ((pre2.flatMap fun A => (C.filter fun B => A.all fun a => !decide (a ∈ B)).map fun B => (A, B)).map pairD), .dat (.list (C.map tupN)), t6, t7, t8] := fun s6 s7 s8 => ⟨pre ++ [A], s6, s7, s8, by simp [hpre], by rw [e9]⟩
        generalize ((pre.flatMap fun A => (C.filter fun B => A.all fun a => !decide (a ∈ B)).map fun B => (A, B)).map pairD) = L at *
        have sqC : seqOf (.list (C.map tupN)) = some (C.map tupN) := rfl
        simp only [List.set_cons_succ, List.set_cons_zero]
        rw [e_for]
        simp only [e_iSeq]
        have v5 : (cVar 5) [.feed, .dat R, .dat (.list H), .emp, .own L, .dat (.list (C.map tupN)), .dat (tupN A), s7, s8] g = .ok (.dat (.list (C.map tupN))) g := by simp
        rw [v5]
        simp
        refine ev_forT (enc := tupN) (I := fun rest2 ρ f => f = g ∧ ∃ (pre2 : List (List Nat)) (s7 s8 : Slot), pre2 ++ rest2 = C ∧ ρ = [.feed, .dat R, .dat (.list H), .emp, .own (L ++ (pre2.flatMap fun B => if A.all (fun a => !decide (a ∈ B)) = true then [(A, B)] else []).map pairD), .dat (.list (C.map tupN)), .dat (tupN A), s7, s8]) ?_ ?_ _ _ _ ⟨rfl, [], s7, s8, rfl, by simp⟩
        · rintro B rest2 ρ g ⟨rfl, pre2, s7, s8, hpre2, rfl⟩
          refine ⟨_, rfl, ?_⟩
          have lpre2 : pre2.length ≤ 15 := by
            have := congrArg List.length hpre2
            rw [List.length_append] at this
            omega
          have lM : ((pre2.flatMap fun B => if A.all (fun a => !decide (a ∈ B)) = true then [(A, B)] else []).map pairD).length ≤ 15 := by
            rw [List.length_map]
            refine Nat.le_trans (flat_len (m := 1) fun x _ => ?_) (by omega)
            split <;> simp
          have e8 : ((pre2 ++ [B]).flatMap fun B => if A.all (fun a => !decide (a ∈ B)) = true then [(A, B)] else []).map pairD = ((pre2.flatMap fun B => if A.all (fun a => !decide (a ∈ B)) = true then [(A, B)] else []).map pairD) ++ (if A.all (fun a => !decide (a ∈ B)) = true then [pairD (A, B)] else []) := by
            rw [List.flatMap_append, List.map_append, List.flatMap_singleton]
            congr 1
            split <;> rfl
          have lcI : ∀ (o4 s8 : Slot), lcN (.one 8) (cT (cBin (oInF false) (cVar 8) (cVar 7))) (cVar 8) [.feed, .dat R, .dat (.list H), .emp, o4, .dat (.list (C.map tupN)), .dat (tupN A), .dat (tupN B), s8] (natsD A) [] g = .ok ((A.filter fun a => decide (a ∈ B)).map nD) g := fun o4 s8 => by
            refine lc_pure (by omega) fun a ha => ⟨_, rfl, ?_, fun _ => by simp⟩
            have q := inNt (neg := false) (a := a) (A := B)
            rw [Bool.false_xor] at q
            have q : oInF false (.int (a : Nat)) (tupN B) = some (.dat (.bool (decide (a ∈ B)))) := q
            generalize tupN B = B' at *
            generalize tupN A = A' at *
            simp [q]
          have q2 := eq_natL (A := A.filter fun a => decide (a ∈ B))
          have q3 : decide (A.filter (fun a => decide (a ∈ B)) = []) = A.all fun a => !decide (a ∈ B) := by
            rw [Bool.eq_iff_iff]
            simp [List.filter_eq_nil_iff]
          rw [q3] at q2
          unfold natsD at q2
          have sq : seqOf (tupN A) = some (natsD A) := rfl
          have pD : pairD (A, B) = .tuple [.str (Str.ofString "apart"), tupN A, tupN B] := rfl
          have Z : ∀ (s8 : Slot), ∃ (pre3 : List (List Nat)) (t7 t8 : Slot), pre3 ++ rest2 = C ∧ [Slot.feed, .dat R, .dat (.list H), .emp, .own (L ++ (((pre2.flatMap fun B => if A.all (fun a => !decide (a ∈ B)) = true then [(A, B)] else []).map pairD) ++ (if A.all (fun a => !decide (a ∈ B)) = true then [pairD (A, B)] else []))), .dat (.list (C.map tupN)), .dat (tupN A), .dat (tupN B), s8] = [.feed, .dat R, .dat (.list H), .emp, .own (L ++ (pre3.flatMap fun B => if A.all (fun a => !decide (a ∈ B)) = true then [(A, B)] else []).map pairD), .dat (.list (C.map tupN)), .dat (tupN A), t7, t8] := fun s8 => ⟨pre2 ++ [B], _, _, by simp [hpre2], by rw [e8]⟩
          generalize ((pre2.flatMap fun B => if A.all (fun a => !decide (a ∈ B)) = true then [(A, B)] else []).map pairD) = M at *
          generalize (A.filter fun a => decide (a ∈ B)).map nD = LL at *
          have lm : L.length + M.length < 100000 := by omega
          have Z := Z s8
          generalize hT : A.all (fun a => !decide (a ∈ B)) = b at *
          cases b with
          | true =>
            rw [if_pos rfl] at Z
            simp only [List.set_cons_succ, List.set_cons_zero]
            refine ⟨.nx [.feed, .dat R, .dat (.list H), .emp, .own (L ++ (M ++ [pairD (A, B)])), .dat (.list (C.map tupN)), .dat (tupN A), .dat (tupN B), s8], g, ?_, rfl, Z⟩
            rw [pD]
            generalize tupN B = B' at *
            generalize tupN A = A' at *
            simp [sq, lcI, q2, lm]
          | false =>
            rw [if_neg (by simp), List.append_nil] at Z
            simp only [List.set_cons_succ, List.set_cons_zero]
            refine ⟨.nx [.feed, .dat R, .dat (.list H), .emp, .own (L ++ M), .dat (.list (C.map tupN)), .dat (tupN A), .dat (tupN B), s8], g, ?_, rfl, Z⟩
            generalize tupN B = B' at *
            generalize tupN A = A' at *
            simp [sq, lcI, q2]
        · rintro ρ g ⟨rfl, pre2, s7, s8, hpre2, rfl⟩
          rw [List.append_nil] at hpre2
          subst hpre2
          obtain ⟨p3, t6, t7, t8, z1, z2⟩ := Y (.dat (tupN A)) s7 s8
          exact ⟨rfl, p3, z1, t6, t7, t8, z2⟩
      · rintro ρ g ⟨rfl, pre, s6, s7, s8, hpre, rfl⟩
        rw [List.append_nil] at hpre
        subst hpre
        have e9 : pre.flatMap (fun A => (pre.filter fun B => A.all fun a => !decide (a ∈ B)).map fun B => (A, B)) = PL := hPL
        rw [e9]
        exact ⟨_, rfl, hQ _ _ ⟨rfl, s6, s7, s8, rfl⟩⟩
    rintro _ f ⟨rfl, s6, s7, s8, rfl⟩
    refine ev_step (fun ρ g => g = f ∧ ρ = [.feed, .dat R, .dat (.list H), .emp, .dat (.list (PL.map pairD)), .dat (.list (C.map tupN)), s6, s7, s8]) (by simp) ?_
    rintro _ f ⟨rfl, rfl⟩
    have l0 := List.length_pos_iff.mpr np
    simp
    refine Ev.drawn (draw_v3_ok (s := (PL.length : Int)) (by omega) (by omega) hF (by omega)) fun a g a0 a1 hF2 => ?_
    obtain ⟨a, rfl⟩ := Int.eq_ofNat_of_zero_le a0
    have ha : a < PL.length := by omega
    have e1 : (PL.map pairD)[a]? = some (pairD PL[a]) := by rw [List.getElem?_map, List.getElem?_eq_getElem ha]; rfl
    simp [e1]
    exact ⟨pall _ (List.getElem_mem ha), hF2.up (by omega)⟩
  · rw [decide_eq_false z] at nn
    have l0 := List.length_pos_iff.mpr z
    have key : ∀ a : Nat, a < (homL ks.length (pk ks)).length → ∃ h ∈ homL ks.length (pk ks), (natsD (homL ks.length (pk ks)))[a]? = some (.int (h : Nat)) := fun a ha => ⟨_, List.getElem_mem ha, by unfold natsD; rw [List.getElem?_map, List.getElem?_eq_getElem ha]; rfl⟩
    have lH : (natsD (homL ks.length (pk ks))).length = (homL ks.length (pk ks)).length := by unfold natsD; rw [List.length_map]
    have hl4 : (homL ks.length (pk ks)).length ≤ 4 := by
      unfold homL
      exact Nat.le_trans (List.length_filter_le _ _) (by rw [List.length_range]; exact n4)
    have sd := fun (g : Feed) (hG : Fd (t + 1) g) h hm => share_drawn (f := g) hk hW hG (by omega) (h := h) hm
    have w := pw_of hk hW
    have X : ∀ h ∈ homL ks.length (pk ks), ∀ g : Feed, Fd (t + 1) g → F_q_weights_v2 [.dat (rowsP ks.length (pk ks))] g = .ok (.dat (.tuple (wsD ks.length (twW ks.length (pk ks))))) g ∧ Ev (F_q_ways_home [.feed, .dat (rowsP ks.length (pk ks)), .dat (.int (h : Nat))] g) fun rv g => ∃ ps, rv = .dat (.tuple (ps.map prD)) ∧ SharePw ks W h ps ∧ Fd (t + 5) g := fun h hm g hG => by
      obtain ⟨hh, hl⟩ := mem_hom.mp hm
      have sp := twS_pos w hh hl
      have qw := q_weights_q (f := g) w
      rw [if_neg (by grind)] at qw
      refine ⟨qw, Ev.mono (q_ways_home_ok (P := pk ks) hk.n4 hh hl hG (by omega)) ?_⟩
      rintro _ g ⟨ps, rfl, wo, len, hF1⟩
      exact ⟨ps, rfl, ⟨hh, hl, wo, len⟩, hF1.up (by omega)⟩
    have fin : ∀ h ps, SharePw ks W h ps → PaperOk ks W (.tuple [.str (Str.ofString "share"), .int (h : Nat), .tuple (wsD ks.length (twW ks.length (pk ks))), .tuple (ps.map prD)]) := fun h ps s => .inl ⟨h, ps, rfl, s⟩
    generalize hHL : homL ks.length (pk ks) = HL at *
    generalize natsD HL = H at *
    generalize rowsP ks.length (pk ks) = R at *
    generalize wsD ks.length (twW ks.length (pk ks)) = wd at *
    rw [e_seq, ev_bind]
    simp [nn, lH]
    refine Ev.drawn (draw_v3_ok (s := (HL.length : Int)) (by omega) (by omega) hF (by omega)) fun a g a0 a1 hF2 => ?_
    obtain ⟨a, rfl⟩ := Int.eq_ofNat_of_zero_le a0
    obtain ⟨h, hm, e1⟩ := key a (by omega)
    obtain ⟨x1, x2⟩ := X h hm g hF2
    simp [e1, x1]
    rw [ev_dt]
    refine Ev.mono x2 ?_
    rintro _ g ⟨ps, rfl, s, hF3⟩
    simp
    exact ⟨fin h ps s, hF3⟩
end
end Fp
namespace Lfreshparts_k58_papers_of_kinds_let_by
open PySem PySem.Spec L2 Dn Fp
/-- law, behind its first row; slots: 0 _law_script, 1 _law_feed_here, 2 _law_k, 3 _law_size, 4 _law_kinds_here, 5 _law_others, 6 _law_turn, 7 _law_paper_here, 8 _law_text, 9 _law_due_here, 10 _law_found -/
noncomputable def S_law : Sm := sSeq (sFor (iRange1 (cC (.int 3))) (.one 2) (sSeq (sSet 3 (cBin oAdd (cC (.int 1)) (cCall F_q_draw_v3 [cVar 1, cC (.int 4)]))) (sSeq (sPar 4 5 (cCall F_q_kinds [cVar 1, cVar 3, cC (.bool true)]) (cCall F_q_kinds [cVar 1, cVar 3, cC (.bool true)])) (sSeq (sFor (iRange1 (cC (.int 2))) (.one 6) (sSeq (sSet 7 (cCall F_q_paper_v2 [cVar 1, cCall F_q_rows_v2 [cVar 4]])) (sSeq (sSet 8 (cUn oReprX (cTup [cVar 4, cVar 5, cVar 7]))) (sSeq (sSet 9 (cLst [cLst [cBin oIx (cVar 7) (cC (.int 0))], cCall F_q_due_v7 [cVar 5, cVar 7], cLst [cBin oIx (cVar 7) (cC (.int 0))]])) (sSeq (sFrz 9) (sSeq (sSet 10 (cLst [cCall F_q_told_v4 [cVar 4, cVar 7], cCall F_q_told_v4 [cVar 5, cVar 7], cCall F_q_told_v4 [cVar 4, cVar 7]])) (sSeq (sFrz 10) (sIf (tOrX (cT (cBin oNe (cUn oReprX (cVar 10)) (cUn oReprX (cVar 9)))) (cT (cBin oNe (cUn oReprX (cTup [cVar 4, cVar 5, cVar 7])) (cVar 8)))) (sRet (cC (.bool false))) (sNext))))))))) (sSeq (sFrz 9) (sSeq (sFrz 10) (sNext))))))) (sRet (cC (.bool true)))
theorem fin : ∀ ns : List Int, ns.length ≤ 63 → ∃ f, S_law (.emp :: .feed :: List.replicate 9 .emp) (feed0 ns) = .ok (.rt (.dat (.bool true))) f := by
  intro ns hns
  suffices h : Ev (S_law (.emp :: .feed :: List.replicate 9 .emp) (feed0 ns)) (fun c _ => c = .rt (.dat (.bool true))) by
    obtain ⟨c, f, e, rfl⟩ := h
    exact ⟨f, e⟩
  unfold S_law
  rw [show (Slot.emp :: Slot.feed :: List.replicate 9 Slot.emp) = [.emp, .feed, .emp, .emp, .emp, .emp, .emp, .emp, .emp, .emp, .emp] from rfl]
  have hF0 := fd0 ns
  refine ev_step (fun ρ g => True) ?_ ?_
  · simp [smallI_ok (n := 3) (by decide) (by decide)]
    refine ev_for (I := fun i ρ g => (∃ s2 s3 s4 s5 s6 s7 s8 s9 s10 : Slot, ρ = [.emp, .feed, s2, s3, s4, s5, s6, s7, s8, s9, s10]) ∧ Fd (2000 * i) g) ⟨⟨_, _, _, _, _, _, _, _, _, rfl⟩, hF0.up (by decide)⟩ ?_ ?_
    · rintro i d ρ g hd ⟨⟨s2, s3, s4, s5, s6, s7, s8, s9, s10, rfl⟩, hG⟩
      obtain ⟨rfl, hi⟩ := range_at hd
      refine ⟨_, rfl, ?_⟩
      refine ev_stp (fun ρ f => ∃ n : Nat, 1 ≤ n ∧ n ≤ 4 ∧ ρ = [.emp, .feed, .dat (.int (i : Nat)), .dat (.int (n : Nat)), s4, s5, s6, s7, s8, s9, s10] ∧ Fd (2000 * i + 1) f) ?_ ?_
      · intro Q' hQ
        simp
        refine Ev.drawn (draw_v3_ok (s := 4) (by decide) (by decide) hG (by omega)) fun a f a0 a1 hF1 => ?_
        obtain ⟨a, rfl⟩ := Int.eq_ofNat_of_zero_le a0
        have e1 : (1 : Int) + (a : Nat) = ((a + 1 : Nat) : Int) := by omega
        simp [-Int.natCast_add, e1]
        exact hQ _ _ ⟨a + 1, by omega, by omega, rfl, hF1⟩
      rintro _ f ⟨n, n1, n4, rfl, hF1⟩
      refine ev_stp (fun ρ f => ∃ ks W ls V, KsOk W ks ∧ W ≤ 2 ^ 31 ∧ (∀ k ∈ ks, fullK k) ∧ ks.length = n ∧ KsOk V ls ∧ V ≤ 2 ^ 31 ∧ ls.length = n ∧ ρ = [.emp, .feed, .dat (.int (i : Nat)), .dat (.int (n : Nat)), .dat (kindsD ks), .dat (kindsD ls), s6, s7, s8, s9, s10] ∧ Fd (2000 * i + 150) f) ?_ ?_
      · intro Q' hQ
        simp
        rw [ev_dt]
        refine Ev.mono (kinds_ok (full := true) hF1 (by omega) (by omega) n1 n4) ?_
        rintro _ f ⟨ks, W, rfl, h1, h2, h3, h4, hF2⟩
        simp
        rw [ev_dt]
        refine Ev.mono (kinds_ok (full := true) hF2 (by omega) (by omega) n1 n4) ?_
        rintro _ f ⟨ls, V, rfl, g1, g2, g3, g4, hF3⟩
        simp
        exact hQ _ _ ⟨ks, W, ls, V, h1, h2, h4 rfl, h3, g1, g2, g3, rfl, hF3.up (by omega)⟩
      rintro _ f ⟨ks, W, ls, V, hk, hW, hf, hl, gk, gV, gl, rfl, hF2⟩
      have tk := tc_kinds hk hW
      have tl := tc_kinds gk gV
      have qr := fun g => q_rows_q (f := g) hk hW
      rw [rowsD_P] at qr
      refine ev_stp (fun ρ f => (∃ s6 s7 s8 s9 s10 : Slot, ρ = [.emp, .feed, .dat (.int (i : Nat)), .dat (.int (n : Nat)), .dat (kindsD ks), .dat (kindsD ls), s6, s7, s8, s9, s10]) ∧ Fd (2000 * i + 200) f) ?_ ?_
      · intro Q' hQ
        rw [e_for]
        simp [smallI_ok (n := 2) (by decide) (by decide)]
        refine ev_for (I := fun j ρ g => (∃ s6 s7 s8 s9 s10 : Slot, ρ = [.emp, .feed, .dat (.int (i : Nat)), .dat (.int (n : Nat)), .dat (kindsD ks), .dat (kindsD ls), s6, s7, s8, s9, s10]) ∧ Fd (2000 * i + 150 + 10 * j) g) ⟨⟨_, _, _, _, _, rfl⟩, hF2.up (by omega)⟩ ?_ ?_
        · rintro j d ρ g hd ⟨⟨s6, s7, s8, s9, s10, rfl⟩, hG⟩
          obtain ⟨rfl, hj⟩ := range_at hd
          refine ⟨_, rfl, ?_⟩
          refine ev_stp (fun ρ f => ∃ d, PaperOk ks W d ∧ ρ = [.emp, .feed, .dat (.int (i : Nat)), .dat (.int (n : Nat)), .dat (kindsD ks), .dat (kindsD ls), .dat (.int (j : Nat)), .dat d, s8, s9, s10] ∧ Fd (2000 * i + 150 + 10 * (j + 1)) f) ?_ ?_
          · intro Q2 hQ2
            have pk := paper_ok9 hk hW hG (by omega)
            have qr := qr g
            generalize kindsD ks = K at *
            generalize kindsD ls = L at *
            generalize rowsP ks.length (Fp.pk ks) = R at *
            simp [qr]
            refine Ev.mono pk ?_
            rintro _ f ⟨d, rfl, hd, hF3⟩
            simp
            exact hQ2 _ _ ⟨d, hd, rfl, hF3.up (by omega)⟩
          rintro _ f ⟨d, hd, rfl, hF3⟩
          have td := hd.tc hk hW
          obtain ⟨w1, wo1, ix, t1⟩ := hd.told hk hW hf
          obtain ⟨word, v, wo, q1, q2⟩ := told_due gk gV td (by decide) (by decide) (by decide)
          have rT : oReprX (.tuple [kindsD ks, kindsD ls, d]) = some (.dat (.str (PyData.tuple [kindsD ks, kindsD ls, d]).shown)) := oReprX_of ((th_tuple (thL_cons (tk.th.up (e := 134) (g := 142) (c := 4040) (l := 12) (by decide) (by decide) (by decide)) (thL_cons (tl.th.up (e := 134) (g := 142) (c := 4040) (l := 12) (by decide) (by decide) (by decide)) (thL_one (td.th.up (g := 142) (c := 600) (l := 12) (by decide) (by decide) (by decide)))))).shows (by decide) (by decide) (by decide))
          have tw : Th 10 20 1 (.list [.str w1]) := (th_list (thL_one wo1.th)).up (Nat.le_refl _) (by decide) (by decide)
          have rL : oReprX (.list [.list [.str w1], resD word v, .list [.str w1]]) = some (.dat (.str (PyData.list [.list [.str w1], resD word v, .list [.str w1]]).shown)) := oReprX_of ((th_list (thL_cons (tw.up (g := 10) (c := 20) (l := 2) (by decide) (by decide) (by decide)) (thL_cons wo.th (thL_one (tw.up (g := 10) (c := 20) (l := 2) (by decide) (by decide) (by decide)))))).shows (by decide) (by decide) (by decide))
          have t1 := t1 f
          have q1 := q1 f
          have q2 := q2 f
          generalize kindsD ks = K at *
          generalize kindsD ls = L at *
          refine ev_step (fun ρ g => g = f ∧ ρ = [.emp, .feed, .dat (.int (i : Nat)), .dat (.int (n : Nat)), .dat K, .dat L, .dat (.int (j : Nat)), .dat d, .dat (.str (PyData.tuple [K, L, d]).shown), s9, s10]) (by simp [rT]) ?_
          rintro _ f ⟨rfl, rfl⟩
          generalize (PyData.tuple [K, L, d]).shown = w0 at *
          generalize hs : (PyData.list [.list [.str w1], resD word v, .list [.str w1]]).shown = w2 at *
          have fin : Fd (2000 * i + 150 + 10 * (j + 1)) f := hF3.up (by omega)
          cases v with
          | none =>
            have rL : oReprX (.list [.list [.str w1], .list [.str word], .list [.str w1]]) = some (.dat (.str w2)) := rL
            simp [ix, t1, q1, q2, resR, rL, rT]
            exact fin
          | some z =>
            have rL : oReprX (.list [.list [.str w1], .tuple [.str z.1, .int (z.2 : Nat)], .list [.str w1]]) = some (.dat (.str w2)) := rL
            simp [ix, t1, q1, q2, resR, rL, rT]
            exact fin
        · rintro ρ g ⟨⟨s6, s7, s8, s9, s10, rfl⟩, hG⟩
          rw [range_len] at *
          exact ⟨_, rfl, hQ _ _ ⟨⟨_, _, _, _, _, rfl⟩, hG.up (by omega)⟩⟩
      rintro _ f ⟨⟨s6, s7, s8, s9, s10, rfl⟩, hF3⟩
      cases s9 <;> cases s10 <;> simp <;> exact hF3.up (by omega)
    · rintro ρ g ⟨⟨s2, s3, s4, s5, s6, s7, s8, s9, s10, rfl⟩, hG⟩
      simp
  rintro ρ g _
  simp
section
set_option maxHeartbeats 4000000
def topS (i : Nat) : Stmt := PySem.Challenge.pw_freshparts_k58_papers_of_kinds_let_by.main.body.getD i (.Pass ⟨0, 0, 0, 0⟩)
abbrev st_q_feed : Stmt := topS 40
abbrev N_q_feed : List Str := ["_law_script"]
theorem sc_q_feed : FnScope N_q_feed ["_law_script"] (defScope st_q_feed) := ⟨rfl, rfl, rfl, by decide +kernel, rfl, by decide +kernel, by decide +kernel⟩
abbrev st_q_draw : Stmt := topS 41
abbrev N_q_draw : List Str := ["_law_feed_here", "_law_size", "_law_turn", "_law_digit", "_law_at", "_law_cell", "_law_mixed"]
theorem sc_q_draw : FnScope N_q_draw ["_law_feed_here", "_law_size"] (defScope st_q_draw) := ⟨rfl, rfl, rfl, by decide +kernel, rfl, by decide +kernel, by decide +kernel⟩
abbrev st_q_lowest : Stmt := topS 42
abbrev N_q_lowest : List Str := ["_law_top", "_law_bottom", "_law_one", "_law_other"]
theorem sc_q_lowest : FnScope N_q_lowest ["_law_top", "_law_bottom"] (defScope st_q_lowest) := ⟨rfl, rfl, rfl, by decide +kernel, rfl, by decide +kernel, by decide +kernel⟩
abbrev st_q_following : Stmt := topS 48
abbrev N_q_following : List Str := ["_law_feed_here", "_law_way", "_law_k", "_law_size"]
theorem sc_q_following : FnScope N_q_following ["_law_feed_here", "_law_way", "_law_k", "_law_size"] (defScope st_q_following) := ⟨rfl, rfl, rfl, by decide +kernel, rfl, by decide +kernel, by decide +kernel⟩
abbrev st_q_kinds : Stmt := topS 49
abbrev N_q_kinds : List Str := ["_law_feed_here", "_law_size", "_law_is_full", "_law_way", "_law_kinds_here", "_law_k", "_law_marks", "_law_lack", "_law_turn", "_law_pair", "_law_total"]
theorem sc_q_kinds : FnScope N_q_kinds ["_law_feed_here", "_law_size", "_law_is_full"] (defScope st_q_kinds) := ⟨rfl, rfl, rfl, by decide +kernel, rfl, by decide +kernel, by decide +kernel⟩
abbrev st_q_add : Stmt := topS 43
abbrev N_q_add : List Str := ["_law_one", "_law_other"]
theorem sc_q_add : FnScope N_q_add ["_law_one", "_law_other"] (defScope st_q_add) := ⟨rfl, rfl, rfl, by decide +kernel, rfl, by decide +kernel, by decide +kernel⟩
abbrev st_q_all : Stmt := topS 45
abbrev N_q_all : List Str := ["_law_numbers", "_law_found", "_law_number"]
theorem sc_q_all : FnScope N_q_all ["_law_numbers"] (defScope st_q_all) := ⟨rfl, rfl, rfl, by decide +kernel, rfl, by decide +kernel, by decide +kernel⟩
abbrev st_q_rows : Stmt := topS 50
abbrev N_q_rows : List Str := ["_law_kinds_here", "_law_rows_here", "_law_triples", "_law_k", "_law_one"]
theorem sc_q_rows : FnScope N_q_rows ["_law_kinds_here"] (defScope st_q_rows) := ⟨rfl, rfl, rfl, by decide +kernel, rfl, by decide +kernel, by decide +kernel⟩
abbrev st_q_reached : Stmt := topS 51
abbrev N_q_reached : List Str := ["_law_rows_here", "_law_kind", "_law_found", "_law_turn", "_law_k", "_law_j"]
theorem sc_q_reached : FnScope N_q_reached ["_law_rows_here", "_law_kind"] (defScope st_q_reached) := ⟨rfl, rfl, rfl, by decide +kernel, rfl, by decide +kernel, by decide +kernel⟩
abbrev st_q_homes : Stmt := topS 52
abbrev N_q_homes : List Str := ["_law_rows_here", "_law_spread", "_law_kind", "_law_some"]
theorem sc_q_homes : FnScope N_q_homes ["_law_rows_here"] (defScope st_q_homes) := ⟨rfl, rfl, rfl, by decide +kernel, rfl, by decide +kernel, by decide +kernel⟩
abbrev st_q_by : Stmt := topS 44
abbrev N_q_by : List Str := ["_law_one", "_law_other"]
theorem sc_q_by : FnScope N_q_by ["_law_one", "_law_other"] (defScope st_q_by) := ⟨rfl, rfl, rfl, by decide +kernel, rfl, by decide +kernel, by decide +kernel⟩
abbrev st_q_trees : Stmt := topS 53
abbrev N_q_trees : List Str := ["_law_rows_here", "_law_home", "_law_size", "_law_others", "_law_total", "_law_number", "_law_sent", "_law_left", "_law_chance", "_law_kind", "_law_here", "_law_turn"]
theorem sc_q_trees : FnScope N_q_trees ["_law_rows_here", "_law_home"] (defScope st_q_trees) := ⟨rfl, rfl, rfl, by decide +kernel, rfl, by decide +kernel, by decide +kernel⟩
abbrev st_q_weights : Stmt := topS 54
abbrev N_q_weights : List Str := ["_law_rows_here", "_law_trees_here", "_law_top", "_law_bottom", "_law_kind", "_law_one"]
theorem sc_q_weights : FnScope N_q_weights ["_law_rows_here"] (defScope st_q_weights) := ⟨rfl, rfl, rfl, by decide +kernel, rfl, by decide +kernel, by decide +kernel⟩
abbrev st_q_ways_home : Stmt := topS 55
abbrev N_q_ways_home : List Str := ["_law_feed_here", "_law_rows_here", "_law_home", "_law_led", "_law_found", "_law_turn", "_law_some", "_law_kind", "_law_following_here"]
theorem sc_q_ways_home : FnScope N_q_ways_home ["_law_feed_here", "_law_rows_here", "_law_home"] (defScope st_q_ways_home) := ⟨rfl, rfl, rfl, by decide +kernel, rfl, by decide +kernel, by decide +kernel⟩
abbrev st_q_is_out : Stmt := topS 56
abbrev N_q_is_out : List Str := ["_law_rows_here", "_law_kind", "_law_some", "_law_k"]
theorem sc_q_is_out : FnScope N_q_is_out ["_law_rows_here", "_law_kind", "_law_some"] (defScope st_q_is_out) := ⟨rfl, rfl, rfl, by decide +kernel, rfl, by decide +kernel, by decide +kernel⟩
abbrev st_q_closed : Stmt := topS 57
abbrev N_q_closed : List Str := ["_law_rows_here", "_law_found", "_law_number", "_law_some", "_law_kind"]
theorem sc_q_closed : FnScope N_q_closed ["_law_rows_here"] (defScope st_q_closed) := ⟨rfl, rfl, rfl, by decide +kernel, rfl, by decide +kernel, by decide +kernel⟩
abbrev st_q_paper : Stmt := topS 58
abbrev N_q_paper : List Str := ["_law_feed_here", "_law_rows_here", "_law_homes_here", "_law_home", "_law_some", "_law_closed_here", "_law_one", "_law_other", "_law_kind"]
theorem sc_q_paper : FnScope N_q_paper ["_law_feed_here", "_law_rows_here"] (defScope st_q_paper) := ⟨rfl, rfl, rfl, by decide +kernel, rfl, by decide +kernel, by decide +kernel⟩
abbrev st_q_whole : Stmt := topS 46
abbrev N_q_whole : List Str := ["_law_thing"]
theorem sc_q_whole : FnScope N_q_whole ["_law_thing"] (defScope st_q_whole) := ⟨rfl, rfl, rfl, by decide +kernel, rfl, by decide +kernel, by decide +kernel⟩
abbrev st_q_is_ratio : Stmt := topS 47
abbrev N_q_is_ratio : List Str := ["_law_thing"]
theorem sc_q_is_ratio : FnScope N_q_is_ratio ["_law_thing"] (defScope st_q_is_ratio) := ⟨rfl, rfl, rfl, by decide +kernel, rfl, by decide +kernel, by decide +kernel⟩
abbrev st_q_place : Stmt := topS 59
abbrev N_q_place : List Str := ["_law_thing", "_law_size"]
theorem sc_q_place : FnScope N_q_place ["_law_thing", "_law_size"] (defScope st_q_place) := ⟨rfl, rfl, rfl, by decide +kernel, rfl, by decide +kernel, by decide +kernel⟩
abbrev st_q_is_shape : Stmt := topS 60
abbrev N_q_is_shape : List Str := ["_law_thing", "_law_size", "_law_one", "_law_some", "_law_k"]
theorem sc_q_is_shape : FnScope N_q_is_shape ["_law_thing", "_law_size"] (defScope st_q_is_shape) := ⟨rfl, rfl, rfl, by decide +kernel, rfl, by decide +kernel, by decide +kernel⟩
abbrev st_q_due : Stmt := topS 61
abbrev N_q_due : List Str := ["_law_kinds_here", "_law_thing", "_law_rows_here", "_law_size", "_law_kind", "_law_some", "_law_word", "_law_home", "_law_weights_here", "_law_ways", "_law_led", "_law_at", "_law_following_here", "_law_out", "_law_k"]
theorem sc_q_due : FnScope N_q_due ["_law_kinds_here", "_law_thing"] (defScope st_q_due) := ⟨rfl, rfl, rfl, by decide +kernel, rfl, by decide +kernel, by decide +kernel⟩
abbrev st_common : Stmt := topS 14
abbrev N_common : List Str := ["one", "other"]
theorem sc_common : FnScope N_common ["one", "other"] (defScope st_common) := ⟨rfl, rfl, rfl, by decide +kernel, rfl, by decide +kernel, by decide +kernel⟩
abbrev st_ratio : Stmt := topS 16
abbrev N_ratio : List Str := ["top", "bottom", "sign", "part"]
theorem sc_ratio : FnScope N_ratio ["top", "bottom"] (defScope st_ratio) := ⟨rfl, rfl, rfl, by decide +kernel, rfl, by decide +kernel, by decide +kernel⟩
abbrev st_plus : Stmt := topS 17
abbrev N_plus : List Str := ["one", "other"]
theorem sc_plus : FnScope N_plus ["one", "other"] (defScope st_plus) := ⟨rfl, rfl, rfl, by decide +kernel, rfl, by decide +kernel, by decide +kernel⟩
abbrev st_chain : Stmt := topS 24
abbrev N_chain : List Str := ["kinds", "rows", "triples", "row", "stretch", "following", "chance", "triple"]
theorem sc_chain : FnScope N_chain ["kinds"] (defScope st_chain) := ⟨rfl, rfl, rfl, by decide +kernel, rfl, by decide +kernel, by decide +kernel⟩
abbrev st_is_whole_0 : Stmt := topS 12
abbrev N_is_whole_0 : List Str := ["thing"]
theorem sc_is_whole_0 : FnScope N_is_whole_0 ["thing"] (defScope st_is_whole_0) := ⟨rfl, rfl, rfl, by decide +kernel, rfl, by decide +kernel, by decide +kernel⟩
abbrev st_is_ratio : Stmt := topS 15
abbrev N_is_ratio : List Str := ["thing"]
theorem sc_is_ratio : FnScope N_is_ratio ["thing"] (defScope st_is_ratio) := ⟨rfl, rfl, rfl, by decide +kernel, rfl, by decide +kernel, by decide +kernel⟩
abbrev st_is_whole_1 : Stmt := topS 21
abbrev N_is_whole_1 : List Str := ["thing"]
theorem sc_is_whole_1 : FnScope N_is_whole_1 ["thing"] (defScope st_is_whole_1) := ⟨rfl, rfl, rfl, by decide +kernel, rfl, by decide +kernel, by decide +kernel⟩
abbrev st_is_place : Stmt := topS 23
abbrev N_is_place : List Str := ["thing", "size"]
theorem sc_is_place : FnScope N_is_place ["thing", "size"] (defScope st_is_place) := ⟨rfl, rfl, rfl, by decide +kernel, rfl, by decide +kernel, by decide +kernel⟩
abbrev st_is_named : Stmt := topS 29
abbrev N_is_named : List Str := ["thing", "word", "length"]
theorem sc_is_named : FnScope N_is_named ["thing", "word", "length"] (defScope st_is_named) := ⟨rfl, rfl, rfl, by decide +kernel, rfl, by decide +kernel, by decide +kernel⟩
abbrev st_is_pair_of_kinds : Stmt := topS 30
abbrev N_is_pair_of_kinds : List Str := ["thing", "size", "one"]
theorem sc_is_pair_of_kinds : FnScope N_is_pair_of_kinds ["thing", "size"] (defScope st_is_pair_of_kinds) := ⟨rfl, rfl, rfl, by decide +kernel, rfl, by decide +kernel, by decide +kernel⟩
abbrev st_is_share_shape : Stmt := topS 31
abbrev N_is_share_shape : List Str := ["thing", "size", "weights", "ways", "one"]
theorem sc_is_share_shape : FnScope N_is_share_shape ["thing", "size"] (defScope st_is_share_shape) := ⟨rfl, rfl, rfl, by decide +kernel, rfl, by decide +kernel, by decide +kernel⟩
abbrev st_is_rising_kinds : Stmt := topS 32
abbrev N_is_rising_kinds : List Str := ["thing", "size", "k", "one"]
theorem sc_is_rising_kinds : FnScope N_is_rising_kinds ["thing", "size"] (defScope st_is_rising_kinds) := ⟨rfl, rfl, rfl, by decide +kernel, rfl, by decide +kernel, by decide +kernel⟩
abbrev st_is_apart_shape : Stmt := topS 33
abbrev N_is_apart_shape : List Str := ["thing", "size", "some"]
theorem sc_is_apart_shape : FnScope N_is_apart_shape ["thing", "size"] (defScope st_is_apart_shape) := ⟨rfl, rfl, rfl, by decide +kernel, rfl, by decide +kernel, by decide +kernel⟩
abbrev st_times : Stmt := topS 18
abbrev N_times : List Str := ["one", "other"]
theorem sc_times : FnScope N_times ["one", "other"] (defScope st_times) := ⟨rfl, rfl, rfl, by decide +kernel, rfl, by decide +kernel, by decide +kernel⟩
abbrev st_look_at_weights_X : Stmt := topS 35
abbrev N_look_at_weights_X : List Str := ["rows", "weights", "total", "weight", "kind", "other", "row"]
theorem sc_look_at_weights_X : FnScope N_look_at_weights_X ["rows", "weights"] (defScope st_look_at_weights_X) := ⟨rfl, rfl, rfl, by decide +kernel, rfl, by decide +kernel, by decide +kernel⟩
abbrev st_is_led_to : Stmt := topS 34
abbrev N_is_led_to : List Str := ["rows", "kind", "following"]
theorem sc_is_led_to : FnScope N_is_led_to ["rows", "kind", "following"] (defScope st_is_led_to) := ⟨rfl, rfl, rfl, by decide +kernel, rfl, by decide +kernel, by decide +kernel⟩
abbrev st_look_at_ways_X : Stmt := topS 36
abbrev N_look_at_ways_X : List Str := ["rows", "home", "ways", "led", "place", "pair", "kind", "following"]
theorem sc_look_at_ways_X : FnScope N_look_at_ways_X ["rows", "home", "ways"] (defScope st_look_at_ways_X) := ⟨rfl, rfl, rfl, by decide +kernel, rfl, by decide +kernel, by decide +kernel⟩
abbrev st_look_at_apart_X : Stmt := topS 37
abbrev N_look_at_apart_X : List Str := ["rows", "one", "other", "kind", "some", "following"]
theorem sc_look_at_apart_X : FnScope N_look_at_apart_X ["rows", "one", "other"] (defScope st_look_at_apart_X) := ⟨rfl, rfl, rfl, by decide +kernel, rfl, by decide +kernel, by decide +kernel⟩
abbrev st_lets_share_X : Stmt := topS 38
abbrev N_lets_share_X : List Str := ["kinds", "thing", "rows"]
theorem sc_lets_share_X : FnScope N_lets_share_X ["kinds", "thing"] (defScope st_lets_share_X) := ⟨rfl, rfl, rfl, by decide +kernel, rfl, by decide +kernel, by decide +kernel⟩
abbrev st_q_told : Stmt := topS 62
abbrev N_q_told : List Str := ["_law_kinds_here", "_law_thing", "_law_found", "e", "_law_others"]
theorem sc_q_told : FnScope N_q_told ["_law_kinds_here", "_law_thing"] (defScope st_q_told) := ⟨rfl, rfl, rfl, by decide +kernel, rfl, by decide +kernel, by decide +kernel⟩
abbrev st_law : Stmt := topS 63
abbrev N_law : List Str := ["_law_script", "_law_feed_here", "_law_k", "_law_size", "_law_kinds_here", "_law_others", "_law_turn", "_law_paper_here", "_law_text", "_law_due_here", "_law_found"]
theorem sc_law : FnScope N_law ["_law_script"] (defScope st_law) := ⟨rfl, rfl, rfl, by decide +kernel, rfl, by decide +kernel, by decide +kernel⟩
/-- what the top has written: the facts -/
abbrev st_i_NoPaper : Stmt := inClass (topS 5) 0
theorem sc_i_NoPaper : FnScope ["self", "word", "place"] ["self", "word", "place"] (defScope st_i_NoPaper) := ⟨rfl, rfl, rfl, by decide +kernel, rfl, by decide +kernel, by decide +kernel⟩
structure Txt (K : PySem.W.Frag) (mg : Str → Option Value) : Prop where
  e_ok : excAll K = true
  p_FreshError : ErrP K mg "FreshError"
  p_NoAge : ErrP K mg "NoAge"
  p_NoBeat : ErrP K mg "NoBeat"
  p_NoLines : ErrP K mg "NoLines"
  p_NoName : ErrP K mg "NoName"
  p_NoPaper : ErrP K mg "NoPaper"
  p_NoRatio : ErrP K mg "NoRatio"
  p_NoRow : ErrP K mg "NoRow"
  p_NoText : ErrP K mg "NoText"
  p_TooMany : ErrP K mg "TooMany"
  p_ValueError : ErrT K mg "ValueError" (.type "ValueError")
  b_FE : ErrB K mg
  r_NoPaper : ErrS K mg "NoPaper" ["word", "place"] "NoPaper.__init__" st_i_NoPaper
  n_abs : mg "abs" = none
  n_all : mg "all" = none
  n_bool : mg "bool" = none
  n_enumerate : mg "enumerate" = none
  n_int : mg "int" = none
  n_isinstance : mg "isinstance" = none
  n_len : mg "len" = none
  n_list : mg "list" = none
  n_min : mg "min" = none
  n_range : mg "range" = none
  n_repr : mg "repr" = none
  n_set : mg "set" = none
  n_sorted : mg "sorted" = none
  n_str : mg "str" = none
  n_sum : mg "sum" = none
  n_tuple : mg "tuple" = none
  a_is_whole_kinds : mg "is_whole_kinds" = mg "is_whole"
  s_q_feed : Src K mg "_law_feed" "_law_feed" st_q_feed ["_law_script"]
  s_q_draw : Src K mg "_law_draw" "_law_draw" st_q_draw ["_law_feed_here", "_law_size"]
  s_q_lowest : Src K mg "_law_lowest" "_law_lowest" st_q_lowest ["_law_top", "_law_bottom"]
  s_q_following : Src K mg "_law_following" "_law_following" st_q_following ["_law_feed_here", "_law_way", "_law_k", "_law_size"]
  s_q_kinds : Src K mg "_law_kinds" "_law_kinds" st_q_kinds ["_law_feed_here", "_law_size", "_law_is_full"]
  s_q_add : Src K mg "_law_add" "_law_add" st_q_add ["_law_one", "_law_other"]
  s_q_all : Src K mg "_law_all" "_law_all" st_q_all ["_law_numbers"]
  s_q_rows : Src K mg "_law_rows" "_law_rows" st_q_rows ["_law_kinds_here"]
  s_q_reached : Src K mg "_law_reached" "_law_reached" st_q_reached ["_law_rows_here", "_law_kind"]
  s_q_homes : Src K mg "_law_homes" "_law_homes" st_q_homes ["_law_rows_here"]
  s_q_by : Src K mg "_law_by" "_law_by" st_q_by ["_law_one", "_law_other"]
  s_q_trees : Src K mg "_law_trees" "_law_trees" st_q_trees ["_law_rows_here", "_law_home"]
  s_q_weights : Src K mg "_law_weights" "_law_weights" st_q_weights ["_law_rows_here"]
  s_q_ways_home : Src K mg "_law_ways_home" "_law_ways_home" st_q_ways_home ["_law_feed_here", "_law_rows_here", "_law_home"]
  s_q_is_out : Src K mg "_law_is_out" "_law_is_out" st_q_is_out ["_law_rows_here", "_law_kind", "_law_some"]
  s_q_closed : Src K mg "_law_closed" "_law_closed" st_q_closed ["_law_rows_here"]
  s_q_paper : Src K mg "_law_paper" "_law_paper" st_q_paper ["_law_feed_here", "_law_rows_here"]
  s_q_whole : Src K mg "_law_whole" "_law_whole" st_q_whole ["_law_thing"]
  s_q_is_ratio : Src K mg "_law_is_ratio" "_law_is_ratio" st_q_is_ratio ["_law_thing"]
  s_q_place : Src K mg "_law_place" "_law_place" st_q_place ["_law_thing", "_law_size"]
  s_q_is_shape : Src K mg "_law_is_shape" "_law_is_shape" st_q_is_shape ["_law_thing", "_law_size"]
  s_q_due : Src K mg "_law_due" "_law_due" st_q_due ["_law_kinds_here", "_law_thing"]
  s_common : Src K mg "common" "common" st_common ["one", "other"]
  s_ratio : Src K mg "ratio" "ratio" st_ratio ["top", "bottom"]
  s_plus : Src K mg "plus" "plus" st_plus ["one", "other"]
  s_chain : Src K mg "chain" "chain" st_chain ["kinds"]
  s_is_whole_0 : Src K mg "is_whole_ratios" "is_whole" st_is_whole_0 ["thing"]
  s_is_ratio : Src K mg "is_ratio" "is_ratio" st_is_ratio ["thing"]
  s_is_whole_1 : Src K mg "is_whole" "is_whole" st_is_whole_1 ["thing"]
  s_is_place : Src K mg "is_place" "is_place" st_is_place ["thing", "size"]
  s_is_named : Src K mg "is_named" "is_named" st_is_named ["thing", "word", "length"]
  s_is_pair_of_kinds : Src K mg "is_pair_of_kinds" "is_pair_of_kinds" st_is_pair_of_kinds ["thing", "size"]
  s_is_share_shape : Src K mg "is_share_shape" "is_share_shape" st_is_share_shape ["thing", "size"]
  s_is_rising_kinds : Src K mg "is_rising_kinds" "is_rising_kinds" st_is_rising_kinds ["thing", "size"]
  s_is_apart_shape : Src K mg "is_apart_shape" "is_apart_shape" st_is_apart_shape ["thing", "size"]
  s_times : Src K mg "times" "times" st_times ["one", "other"]
  s_look_at_weights_X : Src K mg "look_at_weights" "look_at_weights" st_look_at_weights_X ["rows", "weights"]
  s_is_led_to : Src K mg "is_led_to" "is_led_to" st_is_led_to ["rows", "kind", "following"]
  s_look_at_ways_X : Src K mg "look_at_ways" "look_at_ways" st_look_at_ways_X ["rows", "home", "ways"]
  s_look_at_apart_X : Src K mg "look_at_apart" "look_at_apart" st_look_at_apart_X ["rows", "one", "other"]
  s_lets_share_X : Src K mg "lets_share" "lets_share" st_lets_share_X ["kinds", "thing"]
  s_q_told : Src K mg "_law_told" "_law_told" st_q_told ["_law_kinds_here", "_law_thing"]
  s_law : Src K mg "law" "law" st_law ["_law_script"]
  k_NOUGHT_kinds : ∃ a, mg "NOUGHT_kinds" = some (.ref a) ∧ ∀ HF, DR K HF (.ref a) d_NOUGHT
  k_NOUGHT_sharechecker : ∃ a, mg "NOUGHT_sharechecker" = some (.ref a) ∧ ∀ HF, DR K HF (.ref a) d_NOUGHT
  k_ONE : ∃ a, mg "ONE" = some (.ref a) ∧ ∀ HF, DR K HF (.ref a) d_ONE
  k_MOST_WAYS : ∃ t, mg "MOST_WAYS" = some (.int 3 t)
theorem c_NOUGHT_kinds {K : PySem.W.Frag} {mg : Str → Option Value} (T : Txt K mg) {X : Cx} {W : Wish} {p : Pos} (hK : X.K = K) (hm : X.mg = mg) (hg : Gl X "NOUGHT_kinds") : DE X W (.Name "NOUGHT_kinds" p) (cC d_NOUGHT) := by
  subst hK
  subst hm
  obtain ⟨a, h1, h2⟩ := T.k_NOUGHT_kinds
  exact de_glob hg h1 (v := .ref a) rfl h2 (by decide)
theorem c_NOUGHT_sharechecker {K : PySem.W.Frag} {mg : Str → Option Value} (T : Txt K mg) {X : Cx} {W : Wish} {p : Pos} (hK : X.K = K) (hm : X.mg = mg) (hg : Gl X "NOUGHT_sharechecker") : DE X W (.Name "NOUGHT_sharechecker" p) (cC d_NOUGHT) := by
  subst hK
  subst hm
  obtain ⟨a, h1, h2⟩ := T.k_NOUGHT_sharechecker
  exact de_glob hg h1 (v := .ref a) rfl h2 (by decide)
theorem c_ONE {K : PySem.W.Frag} {mg : Str → Option Value} (T : Txt K mg) {X : Cx} {W : Wish} {p : Pos} (hK : X.K = K) (hm : X.mg = mg) (hg : Gl X "ONE") : DE X W (.Name "ONE" p) (cC d_ONE) := by
  subst hK
  subst hm
  obtain ⟨a, h1, h2⟩ := T.k_ONE
  exact de_glob hg h1 (v := .ref a) rfl h2 (by decide)
theorem c_MOST_WAYS {K : PySem.W.Frag} {mg : Str → Option Value} (T : Txt K mg) {X : Cx} {W : Wish} {p : Pos} (hK : X.K = K) (hm : X.mg = mg) (hg : Gl X "MOST_WAYS") : DE X W (.Name "MOST_WAYS" p) (cC d_MOST_WAYS_v2) := by
  subst hK
  subst hm
  obtain ⟨t, h1⟩ := T.k_MOST_WAYS
  exact de_glob hg h1 (v := .int 3) ⟨t, rfl⟩ (fun _ => .int _) (by decide)
theorem i_NoPaper {P : Program} {w : World} {K : PySem.W.Frag} {mg : Str → Option Value} {base : Heap} (T : Txt K mg) : ErrI P w K mg base "NoPaper" ["word", "place"] :=
  errI_mk (tt := tI2 K "no paper" "word" "place") T.b_FE T.r_NoPaper sc_i_NoPaper ini2 fun b1 b2 b3 b4 f cdv A outer s H E => (pss_cons (ps_expr (pe_finit (by rfl) b1 b2 b3 b4 (pa_cons (pv 0) (pa_cons pe_str pa_nil)))) (pss_cons (ps_ost (pv 0) (pv 1)) (pss_one (ps_ost (pv 0) (pv 2)))))
section
variable {P : Program} {w : World} {K : PySem.W.Frag} {mg : Str → Option Value} {base : Heap}
theorem h_q_draw (T : Txt K mg)  : Has P w K mg base 1 "_law_draw" ["_law_feed_here", "_law_size"] F_q_draw_v3 :=
  has_mk (k := 0) T.s_q_draw sc_q_draw fun ff cdv A outer s0 H E gd hr => by
    have hu := hr.units
    exact (dss_cons (ds_set (i := 2) sc_q_draw.nd rfl (.inl rfl) (de_add (de_feed (hu1 hu) (de_var (pv 0)) (fun _ _ => rfl)) de_int)) (dss_cons (ds_feed (hu1 hu) (de_var (pv 0)) (de_var (pv 2))) (dss_cons (ds_if (dt_gt (de_feed (hu1 hu) (de_var (pv 0)) (fun _ _ => rfl)) de_int) (dss_cons (ds_set (i := 3) sc_q_draw.nd rfl (.inl rfl) (de_mod (de_feed (hu1 hu) (de_var (pv 0)) (fun _ _ => rfl)) (de_var (pv 1)))) (dss_cons (ds_feed (hu1 hu) (de_var (pv 0)) (de_fdiv (de_feed (hu1 hu) (de_var (pv 0)) (fun _ _ => rfl)) (de_var (pv 1)))) (dss_one (ds_ret (de_var (pv 3)))))) dss_nil) (dss_cons (ds_set (i := 4) sc_q_draw.nd rfl (.inl rfl) (de_feed (hu1 hu) (de_var (pv 0)) (fun _ _ => rfl))) (dss_cons (ds_feed (hu1 hu) (de_var (pv 0)) (de_add (de_var (pv 4)) de_int)) (dss_cons (ds_set (i := 5) sc_q_draw.nd rfl (.inl rfl) (de_if (dt_ne hu (de_feed (hu1 hu) (de_var (pv 0)) (fun _ _ => rfl)) (de_lst da_nil)) (de_ix (de_feed (hu1 hu) (de_var (pv 0)) (fun _ _ => rfl)) (de_mod (de_var (pv 4)) (de_len (by rfl) T.n_len (de_feed (hu1 hu) (de_var (pv 0)) (fun _ _ => rfl)))) (fun _ _ => rfl)) de_int)) (dss_cons (ds_if (dt_w (dw_and (dt_ge (de_var (pv 5)) (de_pow de_int de_int)) (dw_and1 (dt_lt (de_var (pv 4)) (de_len (by rfl) T.n_len (de_feed (hu1 hu) (de_var (pv 0)) (fun _ _ => rfl))))))) (dss_cons (ds_feed (hu1 hu) (de_var (pv 0)) (de_fdiv (de_var (pv 5)) (de_var (pv 1)))) (dss_one (ds_ret (de_mod (de_var (pv 5)) (de_var (pv 1)))))) dss_nil) (dss_cons (ds_set (i := 6) sc_q_draw.nd rfl (.inl rfl) (de_mod (de_pow (de_add (de_add (de_mod (de_var (pv 5)) de_int) (de_mul de_int (de_var (pv 2)))) de_int) de_int) de_int)) (dss_cons (ds_set (i := 6) sc_q_draw.nd rfl (.inl rfl) (de_mod (de_pow (de_add (de_var (pv 6)) (de_mul de_int (de_var (pv 2)))) de_int) de_int)) (dss_one (ds_ret (de_mod (de_fdiv (de_var (pv 6)) de_int) (de_var (pv 1))))))))))))))
theorem h_q_lowest (T : Txt K mg)  : Has P w K mg base 1 "_law_lowest" ["_law_top", "_law_bottom"] F_q_lowest :=
  has_mk (k := 0) T.s_q_lowest sc_q_lowest fun ff cdv A outer s0 H E gd hr => by
    have hu := hr.units
    exact (dss_cons (ds_par (i := 2) (j := 3) rfl sc_q_lowest.nd rfl rfl (by decide) rfl rfl (da_cons (de_abs (by rfl) T.n_abs (de_var (pv 0))) (da_cons (de_var (pv 1)) da_nil)) (by rfl)) (dss_cons (ds_while PassesOwn.never (dt_gt (de_var (pv 3)) de_int) (dss_one (ds_par (i := 2) (j := 3) rfl sc_q_lowest.nd rfl rfl (by decide) rfl rfl (da_cons (de_var (pv 3)) (da_cons (de_mod (de_var (pv 2)) (de_var (pv 3))) da_nil)) (by rfl)))) (dss_one (ds_ret (de_tup (da_cons (de_fdiv (de_var (pv 0)) (de_var (pv 2))) (da_cons (de_fdiv (de_var (pv 1)) (de_var (pv 2))) da_nil)))))))
theorem h_q_following (T : Txt K mg) (H_q_draw : Has P w K mg base 1 "_law_draw" ["_law_feed_here", "_law_size"] F_q_draw_v3) : Has P w K mg base 2 "_law_following" ["_law_feed_here", "_law_way", "_law_k", "_law_size"] F_q_following :=
  has_mk (k := 1) T.s_q_following sc_q_following fun ff cdv A outer s0 H E gd hr => by
    have hu := hr.units
    exact (dss_cons (ds_if (dt_eq hu (de_var (pv 1)) de_int) (dss_one (ds_ret (de_mod (de_add (de_var (pv 2)) de_int) (de_var (pv 3))))) dss_nil) (dss_cons (ds_if (dt_eq hu (de_var (pv 1)) de_int) (dss_one (ds_ret (de_var (pv 2)))) dss_nil) (dss_cons (ds_if (dt_eq hu (de_var (pv 1)) de_int) (dss_one (ds_ret (de_min2 rfl (by rfl) T.n_min (de_sub (de_var (pv 3)) de_int) (de_add (de_mul (de_fdiv (de_var (pv 2)) de_int) de_int) (de_has H_q_draw gd (hr.mono (by decide)) (by rfl) (da_cons (de_var (pv 0)) (da_cons de_int da_nil))))))) dss_nil) (dss_one (ds_ret (de_if (dt_eq hu (de_var (pv 1)) de_int) (de_has H_q_draw gd (hr.mono (by decide)) (by rfl) (da_cons (de_var (pv 0)) (da_cons (de_add (de_var (pv 2)) de_int) da_nil))) (de_has H_q_draw gd (hr.mono (by decide)) (by rfl) (da_cons (de_var (pv 0)) (da_cons (de_var (pv 3)) da_nil)))))))))
theorem h_q_kinds (T : Txt K mg) (H_q_draw : Has P w K mg base 1 "_law_draw" ["_law_feed_here", "_law_size"] F_q_draw_v3) (H_q_lowest : Has P w K mg base 1 "_law_lowest" ["_law_top", "_law_bottom"] F_q_lowest) (H_q_following : Has P w K mg base 2 "_law_following" ["_law_feed_here", "_law_way", "_law_k", "_law_size"] F_q_following) : Has P w K mg base 3 "_law_kinds" ["_law_feed_here", "_law_size", "_law_is_full"] F_q_kinds :=
  has_mk (k := 2) T.s_q_kinds sc_q_kinds fun ff cdv A outer s0 H E gd hr => by
    have hu := hr.units
    exact (dss_cons (ds_set (i := 3) sc_q_kinds.nd rfl (.inl rfl) (de_has H_q_draw gd (hr.mono (by decide)) (by rfl) (da_cons (de_var (pv 0)) (da_cons de_int da_nil)))) (dss_cons (ds_set (i := 4) sc_q_kinds.nd rfl (.inl rfl) (de_lst da_nil)) (dss_cons (ds_for (T := (.one 5)) PassesOwn.never rfl (di_range1 (by rfl) T.n_range (de_var (pv 1))) (dg_one sc_q_kinds.nd rfl (.inl rfl)) (dss_cons (ds_dctT (i := 6) sc_q_kinds.nd rfl (.inr rfl)) (dss_cons (ds_set (i := 7) sc_q_kinds.nd rfl (.inl rfl) (de_mul (de_ix (de_lst (da_cons de_int (da_cons de_int (da_cons de_int (da_cons de_int (da_cons de_int da_nil)))))) (de_has H_q_draw gd (hr.mono (by decide)) (by rfl) (da_cons (de_var (pv 0)) (da_cons de_int da_nil))) (fun _ _ => rfl)) (de_int1 (by rfl) T.n_int (de_not (de_var (pv 2)))))) (dss_cons (ds_for (T := (.one 8)) PassesOwn.never rfl (di_range1 (by rfl) T.n_range (de_add de_int (de_has H_q_draw gd (hr.mono (by decide)) (by rfl) (da_cons (de_var (pv 0)) (da_cons de_int da_nil))))) (dg_one sc_q_kinds.nd rfl (.inl rfl)) (dss_cons (ds_key (i := 9) sc_q_kinds.nd rfl (.inl rfl) (dk_tup (da_cons (de_add de_int (de_has H_q_draw gd (hr.mono (by decide)) (by rfl) (da_cons (de_var (pv 0)) (da_cons de_int da_nil)))) (da_cons (de_has H_q_following gd (hr.mono (by decide)) (by rfl) (da_cons (de_var (pv 0)) (da_cons (de_var (pv 3)) (da_cons (de_var (pv 5)) (da_cons (de_var (pv 1)) da_nil))))) da_nil)))) (dss_one (ds_dputT hu (pv 6) (dk_var (pv 9)) (de_add de_int (de_has H_q_draw gd (hr.mono (by decide)) (by rfl) (da_cons (de_var (pv 0)) (da_cons de_int da_nil)))))))) (dss_cons (ds_if (dt_w (dw_and (dt_eq hu (de_var (pv 7)) de_int) (dw_and1 (dt_eq hu (de_has H_q_draw gd (hr.mono (by decide)) (by rfl) (da_cons (de_var (pv 0)) (da_cons de_int da_nil))) de_int)))) (dss_one (ds_dctT (i := 6) sc_q_kinds.nd rfl (.inr rfl))) dss_nil) (dss_cons (ds_set (i := 10) sc_q_kinds.nd rfl (.inr rfl) (de_add (de_sum rfl (by rfl) T.n_sum (de_dvals rfl (by rfl) T.n_list (pv 6))) (de_var (pv 7)))) (dss_one (ds_app (pv 4) (de_tuple (by rfl) T.n_tuple (de_lc (own := [("_law_pair", 9)]) (T := (.one 9)) rfl sc_q_kinds.nd (di_seq (de_dsort rfl hu (by rfl) T.n_sorted (pv 6))) (blkOk_by (own := [("_law_pair", 9)]) (N := N_q_kinds) (sc := defScope st_q_kinds) (by decide +kernel)) (by decide) (fun _ _ _ _ _ => (dg_one sc_q_kinds.nd rfl (.inl rfl))) (fun _ _ _ _ _ => ts_nil) (fun _ _ _ _ _ => (de_tup (da_cons (de_ix (de_var (pv 9)) de_int (fun _ _ => rfl)) (da_cons (de_ix (de_var (pv 9)) de_int (fun _ _ => rfl)) (da_cons (de_has H_q_lowest gd (hr.mono (by decide)) (by rfl) (da_cons (de_dget hu (pv 6) (de_var (pv 9)) (fun _ _ => rfl)) (da_cons (de_var (pv 10)) da_nil))) da_nil))))))))))))))) (dss_frz 4 (dss_one (ds_ret (de_tuple (by rfl) T.n_tuple (de_var (pv 4)))))))))
theorem h_q_add (T : Txt K mg) (H_q_lowest : Has P w K mg base 1 "_law_lowest" ["_law_top", "_law_bottom"] F_q_lowest) : Has P w K mg base 2 "_law_add" ["_law_one", "_law_other"] F_q_add :=
  has_mk (k := 1) T.s_q_add sc_q_add fun ff cdv A outer s0 H E gd hr => by
    have hu := hr.units
    exact (dss_one (ds_ret (de_has H_q_lowest gd (hr.mono (by decide)) (by rfl) (da_cons (de_add (de_mul (de_ix (de_var (pv 0)) de_int (fun _ _ => rfl)) (de_ix (de_var (pv 1)) de_int (fun _ _ => rfl))) (de_mul (de_ix (de_var (pv 1)) de_int (fun _ _ => rfl)) (de_ix (de_var (pv 0)) de_int (fun _ _ => rfl)))) (da_cons (de_mul (de_ix (de_var (pv 0)) de_int (fun _ _ => rfl)) (de_ix (de_var (pv 1)) de_int (fun _ _ => rfl))) da_nil)))))
theorem h_q_all (T : Txt K mg) (H_q_add : Has P w K mg base 2 "_law_add" ["_law_one", "_law_other"] F_q_add) : Has P w K mg base 3 "_law_all" ["_law_numbers"] F_q_all :=
  has_mk (k := 2) T.s_q_all sc_q_all fun ff cdv A outer s0 H E gd hr => by
    have hu := hr.units
    exact (dss_cons (ds_set (i := 1) sc_q_all.nd rfl (.inl rfl) (de_tup (da_cons de_int (da_cons de_int da_nil)))) (dss_cons (ds_for (T := (.one 2)) PassesOwn.never rfl (di_seq (de_var (pv 0))) (dg_one sc_q_all.nd rfl (.inl rfl)) (dss_one (ds_set (i := 1) sc_q_all.nd rfl (.inl rfl) (de_has H_q_add gd (hr.mono (by decide)) (by rfl) (da_cons (de_var (pv 1)) (da_cons (de_var (pv 2)) da_nil)))))) (dss_one (ds_ret (de_var (pv 1))))))
theorem h_q_rows (T : Txt K mg) (H_q_all : Has P w K mg base 3 "_law_all" ["_law_numbers"] F_q_all) : Has P w K mg base 4 "_law_rows" ["_law_kinds_here"] F_q_rows_v2 :=
  has_mk (k := 3) T.s_q_rows sc_q_rows fun ff cdv A outer s0 H E gd hr => by
    have hu := hr.units
    exact (dss_cons (ds_set (i := 1) sc_q_rows.nd rfl (.inl rfl) (de_lst da_nil)) (dss_cons (ds_for (T := (.one 2)) PassesOwn.never rfl (di_seq (de_var (pv 0))) (dg_one sc_q_rows.nd rfl (.inr rfl)) (dss_one (ds_app (pv 1) (de_tuple (by rfl) T.n_tuple (de_lc (own := [("_law_k", 3)]) (T := (.one 3)) rfl sc_q_rows.nd (di_range1 (by rfl) T.n_range (de_len (by rfl) T.n_len (de_var (pv 0)))) (blkOk_by (own := [("_law_k", 3)]) (N := N_q_rows) (sc := defScope st_q_rows) (by decide +kernel)) (by decide) (fun _ _ _ _ _ => (dg_one sc_q_rows.nd rfl (.inr rfl))) (fun _ _ _ _ _ => ts_nil) (fun _ _ _ _ _ => (de_has H_q_all gd (hr.mono (by decide)) (by rfl) (da_cons (de_lc (own := [("_law_one", 4)]) (T := (.one 4)) rfl sc_q_rows.nd (di_seq (de_var (pv 2))) (blkOk_by (own := [("_law_one", 4)]) (by rfl)) (by decide) (fun _ _ _ _ _ => (dg_one sc_q_rows.nd rfl (.inl rfl))) (fun _ _ _ _ _ => (ts_one (dt_eq hu (de_ix (de_var (pv 4)) de_int (fun _ _ => rfl)) (de_var (pv 3))))) (fun _ _ _ _ _ => (de_ix (de_var (pv 4)) de_int (fun _ _ => rfl)))) da_nil)))))))) (dss_frz 1 (dss_one (ds_ret (de_tuple (by rfl) T.n_tuple (de_var (pv 1))))))))
theorem h_q_reached (T : Txt K mg)  : Has P w K mg base 1 "_law_reached" ["_law_rows_here", "_law_kind"] F_q_reached :=
  has_mk (k := 0) T.s_q_reached sc_q_reached fun ff cdv A outer s0 H E gd hr => by
    have hu := hr.units
    exact (dss_cons (ds_set (i := 2) sc_q_reached.nd rfl (.inr rfl) (de_lst (da_cons (de_var (pv 1)) da_nil))) (dss_frz 2 (dss_cons (ds_for (T := (.one 3)) PassesOwn.never rfl (di_range1 (by rfl) T.n_range (de_len (by rfl) T.n_len (de_var (pv 0)))) (dg_one sc_q_reached.nd rfl (.inl rfl)) (dss_cons (ds_set (i := 2) sc_q_reached.nd rfl (.inr rfl) (de_lc (own := [("_law_k", 4)]) (T := (.one 4)) rfl sc_q_reached.nd (di_range1 (by rfl) T.n_range (de_len (by rfl) T.n_len (de_var (pv 0)))) (blkOk_by (own := [("_law_k", 4)]) (N := N_q_reached) (sc := defScope st_q_reached) (by decide +kernel)) (by decide) (fun _ _ _ _ _ => (dg_one sc_q_reached.nd rfl (.inr rfl))) (fun _ _ _ _ _ => (ts_one (dt_w (dw_or (dt_in (de_var (pv 4)) (de_var (pv 2))) (dw_or1 (dt_ne hu (de_lc (own := [("_law_j", 5)]) (T := (.one 5)) rfl sc_q_reached.nd (di_seq (de_var (pv 2))) (blkOk_by (own := [("_law_j", 5)]) (by rfl)) (by decide) (fun _ _ _ _ _ => (dg_one sc_q_reached.nd rfl (.inl rfl))) (fun _ _ _ _ _ => (ts_one (dt_ne hu (de_ix (de_ix (de_var (pv 0)) (de_var (pv 5)) (fun _ _ => rfl)) (de_var (pv 4)) (fun _ _ => rfl)) (de_tup (da_cons de_int (da_cons de_int da_nil)))))) (fun _ _ _ _ _ => (de_var (pv 5)))) (de_lst da_nil))))))) (fun _ _ _ _ _ => (de_var (pv 4))))) (dss_frz 2 dss_nil))) (dss_frz 2 (dss_one (ds_ret (de_tuple (by rfl) T.n_tuple (de_var (pv 2)))))))))
theorem h_q_homes (T : Txt K mg) (H_q_reached : Has P w K mg base 1 "_law_reached" ["_law_rows_here", "_law_kind"] F_q_reached) : Has P w K mg base 2 "_law_homes" ["_law_rows_here"] F_q_homes :=
  has_mk (k := 1) T.s_q_homes sc_q_homes fun ff cdv A outer s0 H E gd hr => by
    have hu := hr.units
    exact (dss_cons (ds_set (i := 1) sc_q_homes.nd rfl (.inr rfl) (de_lc (own := [("_law_kind", 2)]) (T := (.one 2)) rfl sc_q_homes.nd (di_range1 (by rfl) T.n_range (de_len (by rfl) T.n_len (de_var (pv 0)))) (blkOk_by (own := [("_law_kind", 2)]) (N := N_q_homes) (sc := defScope st_q_homes) (by decide +kernel)) (by decide) (fun _ _ _ _ _ => (dg_one sc_q_homes.nd rfl (.inl rfl))) (fun _ _ _ _ _ => ts_nil) (fun _ _ _ _ _ => (de_has H_q_reached gd (hr.mono (by decide)) (by rfl) (da_cons (de_var (pv 0)) (da_cons (de_var (pv 2)) da_nil)))))) (dss_frz 1 (dss_one (ds_ret (de_lc (own := [("_law_kind", 2)]) (T := (.one 2)) rfl sc_q_homes.nd (di_range1 (by rfl) T.n_range (de_len (by rfl) T.n_len (de_var (pv 0)))) (blkOk_by (own := [("_law_kind", 2)]) (N := N_q_homes) (sc := defScope st_q_homes) (by decide +kernel)) (by decide) (fun _ _ _ _ _ => (dg_one sc_q_homes.nd rfl (.inr rfl))) (fun _ _ _ _ _ => (ts_one (dt_eq hu (de_lc (own := [("_law_some", 3)]) (T := (.one 3)) rfl sc_q_homes.nd (di_seq (de_var (pv 1))) (blkOk_by (own := [("_law_some", 3)]) (by rfl)) (by decide) (fun _ _ _ _ _ => (dg_one sc_q_homes.nd rfl (.inl rfl))) (fun _ _ _ _ _ => (ts_one (dt_nin (de_var (pv 2)) (de_var (pv 3))))) (fun _ _ _ _ _ => (de_var (pv 3)))) (de_lst da_nil)))) (fun _ _ _ _ _ => (de_var (pv 2))))))))
theorem h_q_by (T : Txt K mg) (H_q_lowest : Has P w K mg base 1 "_law_lowest" ["_law_top", "_law_bottom"] F_q_lowest) : Has P w K mg base 2 "_law_by" ["_law_one", "_law_other"] F_q_by :=
  has_mk (k := 1) T.s_q_by sc_q_by fun ff cdv A outer s0 H E gd hr => by
    have hu := hr.units
    exact (dss_one (ds_ret (de_has H_q_lowest gd (hr.mono (by decide)) (by rfl) (da_cons (de_mul (de_ix (de_var (pv 0)) de_int (fun _ _ => rfl)) (de_ix (de_var (pv 1)) de_int (fun _ _ => rfl))) (da_cons (de_mul (de_ix (de_var (pv 0)) de_int (fun _ _ => rfl)) (de_ix (de_var (pv 1)) de_int (fun _ _ => rfl))) da_nil)))))
theorem h_q_trees (T : Txt K mg) (H_q_add : Has P w K mg base 2 "_law_add" ["_law_one", "_law_other"] F_q_add) (H_q_by : Has P w K mg base 2 "_law_by" ["_law_one", "_law_other"] F_q_by) : Has P w K mg base 3 "_law_trees" ["_law_rows_here", "_law_home"] F_q_trees :=
  has_mk (k := 2) T.s_q_trees sc_q_trees fun ff cdv A outer s0 H E gd hr => by
    have hu := hr.units
    exact (dss_cons (ds_set (i := 2) sc_q_trees.nd rfl (.inl rfl) (de_len (by rfl) T.n_len (de_var (pv 0)))) (dss_cons (ds_setLc (i := 3) (own := [("_law_kind", 9)]) (T := (.one 9)) rfl sc_q_trees.nd rfl rfl (sw_true rfl rfl rfl (by decide +kernel)) (di_range1 (by rfl) T.n_range (de_var (pv 2))) (blkOk_by (own := [("_law_kind", 9)]) (N := N_q_trees) (sc := defScope st_q_trees) (by decide +kernel)) (by decide) (fun _ _ _ _ _ => (dg_one sc_q_trees.nd rfl (.inl rfl))) (fun _ _ _ _ _ => (ts_one (dt_ne hu (de_var (pv 9)) (de_var (pv 1))))) (fun _ _ _ _ _ => (de_var (pv 9)))) (dss_frz 3 (dss_cons (ds_set (i := 4) sc_q_trees.nd rfl (.inl rfl) (de_tup (da_cons de_int (da_cons de_int da_nil)))) (dss_cons (ds_for (T := (.one 5)) PassesOwn.never rfl (di_range1 (by rfl) T.n_range (de_ix (de_lst (da_cons de_int (da_cons de_int (da_cons de_int (da_cons de_int (da_cons de_int da_nil)))))) (de_var (pv 2)) (fun _ _ => rfl))) (dg_one sc_q_trees.nd rfl (.inl rfl)) (dss_cons (ds_dctI (i := 6) sc_q_trees.nd rfl (.inl rfl)) (dss_cons (ds_set (i := 7) sc_q_trees.nd rfl (.inl rfl) (de_var (pv 5))) (dss_cons (ds_set (i := 8) sc_q_trees.nd rfl (.inl rfl) (de_tup (da_cons de_int (da_cons de_int da_nil)))) (dss_cons (ds_for (T := (.one 9)) PassesOwn.never rfl (di_seq (de_var (pv 3))) (dg_one sc_q_trees.nd rfl (.inl rfl)) (dss_cons (ds_dputI hu (pv 6) (de_var (pv 9)) (de_mod (de_var (pv 7)) (de_var (pv 2)))) (dss_cons (ds_set (i := 7) sc_q_trees.nd rfl (.inl rfl) (de_fdiv (de_var (pv 7)) (de_var (pv 2)))) (dss_one (ds_set (i := 8) sc_q_trees.nd rfl (.inl rfl) (de_has H_q_by gd (hr.mono (by decide)) (by rfl) (da_cons (de_var (pv 8)) (da_cons (de_ix (de_ix (de_var (pv 0)) (de_var (pv 9)) (fun _ _ => rfl)) (de_dget hu (pv 6) (de_var (pv 9)) (fun _ _ => rfl)) (fun _ _ => rfl)) da_nil)))))))) (dss_cons (ds_for (T := (.one 9)) PassesOwn.never rfl (di_seq (de_mul (de_var (pv 3)) (de_int1 (by rfl) T.n_int (de_gt (de_ix (de_var (pv 8)) de_int (fun _ _ => rfl)) de_int)))) (dg_one sc_q_trees.nd rfl (.inl rfl)) (dss_cons (ds_set (i := 10) sc_q_trees.nd rfl (.inl rfl) (de_var (pv 9))) (dss_cons (ds_for (T := (.one 11)) PassesOwn.never rfl (di_range1 (by rfl) T.n_range (de_var (pv 2))) (dg_one sc_q_trees.nd rfl (.inl rfl)) (dss_one (ds_set (i := 10) sc_q_trees.nd rfl (.inl rfl) (de_dget2 hu (pv 6) (de_var (pv 10)) (de_var (pv 1)))))) (dss_one (ds_if (dt_ne hu (de_var (pv 10)) (de_var (pv 1))) (dss_one (ds_set (i := 8) sc_q_trees.nd rfl (.inl rfl) (de_tup (da_cons de_int (da_cons de_int da_nil))))) dss_nil))))) (dss_one (ds_set (i := 4) sc_q_trees.nd rfl (.inl rfl) (de_has H_q_add gd (hr.mono (by decide)) (by rfl) (da_cons (de_var (pv 4)) (da_cons (de_var (pv 8)) da_nil))))))))))) (dss_one (ds_ret (de_var (pv 4)))))))))
theorem h_q_weights (T : Txt K mg) (H_q_lowest : Has P w K mg base 1 "_law_lowest" ["_law_top", "_law_bottom"] F_q_lowest) (H_q_all : Has P w K mg base 3 "_law_all" ["_law_numbers"] F_q_all) (H_q_trees : Has P w K mg base 3 "_law_trees" ["_law_rows_here", "_law_home"] F_q_trees) : Has P w K mg base 4 "_law_weights" ["_law_rows_here"] F_q_weights_v2 :=
  has_mk (k := 3) T.s_q_weights sc_q_weights fun ff cdv A outer s0 H E gd hr => by
    have hu := hr.units
    exact (dss_cons (ds_setLc (i := 1) (own := [("_law_kind", 4)]) (T := (.one 4)) rfl sc_q_weights.nd rfl rfl (sw_true rfl rfl rfl (by decide +kernel)) (di_range1 (by rfl) T.n_range (de_len (by rfl) T.n_len (de_var (pv 0)))) (blkOk_by (own := [("_law_kind", 4)]) (N := N_q_weights) (sc := defScope st_q_weights) (by decide +kernel)) (by decide) (fun _ _ _ _ _ => (dg_one sc_q_weights.nd rfl (.inl rfl))) (fun _ _ _ _ _ => ts_nil) (fun _ _ _ _ _ => (de_has H_q_trees gd (hr.mono (by decide)) (by rfl) (da_cons (de_var (pv 0)) (da_cons (de_var (pv 4)) da_nil))))) (dss_frz 1 (dss_cons (ds_asg (T := (.many [2, 3])) (de_has H_q_all gd (hr.mono (by decide)) (by rfl) (da_cons (de_var (pv 1)) da_nil)) (dg_many rfl (dga_cons (pg_name (i := 2) sc_q_weights.nd rfl (.inr rfl)) (dga_cons (pg_name (i := 3) sc_q_weights.nd rfl (.inr rfl)) dga_nil)))) (dss_cons (ds_if (dt_eq hu (de_var (pv 2)) de_int) (dss_one (ds_ret de_non)) dss_nil) (dss_one (ds_ret (de_tuple (by rfl) T.n_tuple (de_lc (own := [("_law_one", 5)]) (T := (.one 5)) rfl sc_q_weights.nd (di_seq (de_var (pv 1))) (blkOk_by (own := [("_law_one", 5)]) (N := N_q_weights) (sc := defScope st_q_weights) (by decide +kernel)) (by decide) (fun _ _ _ _ _ => (dg_one sc_q_weights.nd rfl (.inl rfl))) (fun _ _ _ _ _ => ts_nil) (fun _ _ _ _ _ => (de_has H_q_lowest gd (hr.mono (by decide)) (by rfl) (da_cons (de_mul (de_ix (de_var (pv 5)) de_int (fun _ _ => rfl)) (de_var (pv 3))) (da_cons (de_mul (de_ix (de_var (pv 5)) de_int (fun _ _ => rfl)) (de_var (pv 2))) da_nil))))))))))))
theorem h_q_ways_home (T : Txt K mg) (H_q_draw : Has P w K mg base 1 "_law_draw" ["_law_feed_here", "_law_size"] F_q_draw_v3) : Has P w K mg base 2 "_law_ways_home" ["_law_feed_here", "_law_rows_here", "_law_home"] F_q_ways_home :=
  has_mk (k := 1) T.s_q_ways_home sc_q_ways_home fun ff cdv A outer s0 H E gd hr => by
    have hu := hr.units
    exact (dss_cons (ds_set (i := 3) sc_q_ways_home.nd rfl (.inl rfl) (de_lst (da_cons (de_var (pv 2)) da_nil))) (dss_cons (ds_set (i := 4) sc_q_ways_home.nd rfl (.inl rfl) (de_lst da_nil)) (dss_cons (ds_for (T := (.one 5)) PassesOwn.never rfl (di_range1 (by rfl) T.n_range (de_len (by rfl) T.n_len (de_var (pv 1)))) (dg_one sc_q_ways_home.nd rfl (.inl rfl)) (dss_cons (ds_set (i := 6) sc_q_ways_home.nd rfl (.inl rfl) (de_lst da_nil)) (dss_cons (ds_for (T := (.one 7)) PassesOwn.never rfl (di_range1 (by rfl) T.n_range (de_len (by rfl) T.n_len (de_var (pv 1)))) (dg_one sc_q_ways_home.nd rfl (.inr rfl)) (dss_one (ds_if (dt_nin (de_var (pv 7)) (de_var (pv 3))) (dss_one (ds_ext (pv 6) (de_lcO (own := [("_law_following_here", 8)]) (T := (.one 8)) rfl sc_q_ways_home.nd (i := 3) (pv 3) (blkOk_by (own := [("_law_following_here", 8)]) (N := N_q_ways_home) (sc := defScope st_q_ways_home) (by decide +kernel)) (by decide) (fun _ _ _ _ _ => (dg_one sc_q_ways_home.nd rfl (.inl rfl))) (fun _ _ _ _ _ => (ts_one (dt_ne hu (de_ix (de_ix (de_var (pv 1)) (de_var (pv 7)) (fun _ _ => rfl)) (de_var (pv 8)) (fun _ _ => rfl)) (de_tup (da_cons de_int (da_cons de_int da_nil)))))) (fun _ _ _ _ _ => (de_tup (da_cons (de_var (pv 7)) (da_cons (de_var (pv 8)) da_nil))))))) dss_nil))) (dss_frz 6 (dss_one (ds_if (dt_ne hu (de_var (pv 6)) (de_lst da_nil)) (dss_cons (ds_app (pv 4) (de_ix (de_var (pv 6)) (de_has H_q_draw gd (hr.mono (by decide)) (by rfl) (da_cons (de_var (pv 0)) (da_cons (de_len (by rfl) T.n_len (de_var (pv 6))) da_nil))) (fun _ _ => rfl))) (dss_one (ds_app (pv 3) (de_ix (de_ix (de_var (pv 4)) (de_neg de_int) (fun _ _ => rfl)) de_int (fun _ _ => rfl))))) dss_nil)))))) (dss_frz 4 (dss_one (ds_ret (de_tuple (by rfl) T.n_tuple (de_var (pv 4)))))))))
theorem h_q_is_out (T : Txt K mg)  : Has P w K mg base 1 "_law_is_out" ["_law_rows_here", "_law_kind", "_law_some"] F_q_is_out :=
  has_mk (k := 0) T.s_q_is_out sc_q_is_out fun ff cdv A outer s0 H E gd hr => by
    have hu := hr.units
    exact (dss_one (ds_ret (de_ne hu (de_lc (own := [("_law_k", 3)]) (T := (.one 3)) rfl sc_q_is_out.nd (di_range1 (by rfl) T.n_range (de_len (by rfl) T.n_len (de_var (pv 0)))) (blkOk_by (own := [("_law_k", 3)]) (N := N_q_is_out) (sc := defScope st_q_is_out) (by decide +kernel)) (by decide) (fun _ _ _ _ _ => (dg_one sc_q_is_out.nd rfl (.inl rfl))) (fun _ _ _ _ _ => (ts_one (dt_w (dw_and (dt_ne hu (de_ix (de_ix (de_var (pv 0)) (de_var (pv 1)) (fun _ _ => rfl)) (de_var (pv 3)) (fun _ _ => rfl)) (de_tup (da_cons de_int (da_cons de_int da_nil)))) (dw_and1 (dt_nin (de_var (pv 3)) (de_var (pv 2)))))))) (fun _ _ _ _ _ => (de_var (pv 3)))) (de_lst da_nil))))
theorem h_q_closed (T : Txt K mg) (H_q_is_out : Has P w K mg base 1 "_law_is_out" ["_law_rows_here", "_law_kind", "_law_some"] F_q_is_out) : Has P w K mg base 2 "_law_closed" ["_law_rows_here"] F_q_closed :=
  has_mk (k := 1) T.s_q_closed sc_q_closed fun ff cdv A outer s0 H E gd hr => by
    have hu := hr.units
    exact (dss_cons (ds_set (i := 1) sc_q_closed.nd rfl (.inl rfl) (de_lst da_nil)) (dss_cons (ds_for (T := (.one 2)) PassesOwn.never rfl (di_range2 (by rfl) T.n_range de_int (de_shl de_int (de_len (by rfl) T.n_len (de_var (pv 0))))) (dg_one sc_q_closed.nd rfl (.inr rfl)) (dss_cons (ds_set (i := 3) sc_q_closed.nd rfl (.inr rfl) (de_lc (own := [("_law_kind", 4)]) (T := (.one 4)) rfl sc_q_closed.nd (di_range1 (by rfl) T.n_range (de_len (by rfl) T.n_len (de_var (pv 0)))) (blkOk_by (own := [("_law_kind", 4)]) (N := N_q_closed) (sc := defScope st_q_closed) (by decide +kernel)) (by decide) (fun _ _ _ _ _ => (dg_one sc_q_closed.nd rfl (.inl rfl))) (fun _ _ _ _ _ => (ts_one (dt_eq hu (de_bitand (de_shr (de_var (pv 2)) (de_var (pv 4))) de_int) de_int))) (fun _ _ _ _ _ => (de_var (pv 4))))) (dss_frz 3 (dss_one (ds_if (dt_eq hu (de_lc (own := [("_law_kind", 4)]) (T := (.one 4)) rfl sc_q_closed.nd (di_seq (de_var (pv 3))) (blkOk_by (own := [("_law_kind", 4)]) (N := N_q_closed) (sc := defScope st_q_closed) (by decide +kernel)) (by decide) (fun _ _ _ _ _ => (dg_one sc_q_closed.nd rfl (.inl rfl))) (fun _ _ _ _ _ => (ts_one (dt_val (de_has H_q_is_out gd (hr.mono (by decide)) (by rfl) (da_cons (de_var (pv 0)) (da_cons (de_var (pv 4)) (da_cons (de_var (pv 3)) da_nil))))))) (fun _ _ _ _ _ => (de_var (pv 4)))) (de_lst da_nil)) (dss_one (ds_app (pv 1) (de_tuple (by rfl) T.n_tuple (de_var (pv 3))))) dss_nil))))) (dss_one (ds_ret (de_var (pv 1))))))
theorem h_q_paper (T : Txt K mg) (H_q_draw : Has P w K mg base 1 "_law_draw" ["_law_feed_here", "_law_size"] F_q_draw_v3) (H_q_homes : Has P w K mg base 2 "_law_homes" ["_law_rows_here"] F_q_homes) (H_q_weights : Has P w K mg base 4 "_law_weights" ["_law_rows_here"] F_q_weights_v2) (H_q_ways_home : Has P w K mg base 2 "_law_ways_home" ["_law_feed_here", "_law_rows_here", "_law_home"] F_q_ways_home) (H_q_closed : Has P w K mg base 2 "_law_closed" ["_law_rows_here"] F_q_closed) : Has P w K mg base 5 "_law_paper" ["_law_feed_here", "_law_rows_here"] F_q_paper_v2 :=
  has_mk (k := 4) T.s_q_paper sc_q_paper fun ff cdv A outer s0 H E gd hr => by
    have hu := hr.units
    exact (dss_cons (ds_set (i := 2) sc_q_paper.nd rfl (.inl rfl) (de_has H_q_homes gd (hr.mono (by decide)) (by rfl) (da_cons (de_var (pv 1)) da_nil))) (dss_frz 2 (dss_cons (ds_if (dt_ne hu (de_var (pv 2)) (de_lst da_nil)) (dss_cons (ds_set (i := 3) sc_q_paper.nd rfl (.inl rfl) (de_ix (de_var (pv 2)) (de_has H_q_draw gd (hr.mono (by decide)) (by rfl) (da_cons (de_var (pv 0)) (da_cons (de_len (by rfl) T.n_len (de_var (pv 2))) da_nil))) (fun _ _ => rfl))) (dss_one (ds_ret (de_tup (da_cons de_str (da_cons (de_var (pv 3)) (da_cons (de_has H_q_weights gd (hr.mono (by decide)) (by rfl) (da_cons (de_var (pv 1)) da_nil)) (da_cons (de_has H_q_ways_home gd (hr.mono (by decide)) (by rfl) (da_cons (de_var (pv 0)) (da_cons (de_var (pv 1)) (da_cons (de_var (pv 3)) da_nil)))) da_nil)))))))) dss_nil) (dss_cons (ds_set (i := 4) sc_q_paper.nd rfl (.inl rfl) (de_lst da_nil)) (dss_cons (ds_set (i := 5) sc_q_paper.nd rfl (.inl rfl) (de_has H_q_closed gd (hr.mono (by decide)) (by rfl) (da_cons (de_var (pv 1)) da_nil))) (dss_frz 5 (dss_cons (ds_for (T := (.one 6)) PassesOwn.never rfl (di_seq (de_var (pv 5))) (dg_one sc_q_paper.nd rfl (.inl rfl)) (dss_one (ds_for (T := (.one 7)) PassesOwn.never rfl (di_seq (de_var (pv 5))) (dg_one sc_q_paper.nd rfl (.inr rfl)) (dss_one (ds_if (dt_eq hu (de_lc (own := [("_law_kind", 8)]) (T := (.one 8)) rfl sc_q_paper.nd (di_seq (de_var (pv 6))) (blkOk_by (own := [("_law_kind", 8)]) (N := N_q_paper) (sc := defScope st_q_paper) (by decide +kernel)) (by decide) (fun _ _ _ _ _ => (dg_one sc_q_paper.nd rfl (.inl rfl))) (fun _ _ _ _ _ => (ts_one (dt_in (de_var (pv 8)) (de_var (pv 7))))) (fun _ _ _ _ _ => (de_var (pv 8)))) (de_lst da_nil)) (dss_one (ds_app (pv 4) (de_tup (da_cons de_str (da_cons (de_var (pv 6)) (da_cons (de_var (pv 7)) da_nil)))))) dss_nil))))) (dss_frz 4 (dss_one (ds_ret (de_ix (de_var (pv 4)) (de_has H_q_draw gd (hr.mono (by decide)) (by rfl) (da_cons (de_var (pv 0)) (da_cons (de_len (by rfl) T.n_len (de_var (pv 4))) da_nil))) (fun _ _ => rfl))))))))))))
theorem h_q_whole (T : Txt K mg)  : Has P w K mg base 1 "_law_whole" ["_law_thing"] F_q_whole :=
  has_mk (k := 0) T.s_q_whole sc_q_whole fun ff cdv A outer s0 H E gd hr => by
    have hu := hr.units
    exact (dss_one (ds_ret (de_and (de_isi "int" (by decide) (by rfl) T.n_isinstance (by rfl) T.n_int (by decide +kernel) (de_var (pv 0))) (de_one (de_not (de_isi "bool" (by decide) (by rfl) T.n_isinstance (by rfl) T.n_bool (by decide +kernel) (de_var (pv 0))))))))
theorem h_q_is_ratio (T : Txt K mg) (H_q_lowest : Has P w K mg base 1 "_law_lowest" ["_law_top", "_law_bottom"] F_q_lowest) (H_q_whole : Has P w K mg base 1 "_law_whole" ["_law_thing"] F_q_whole) : Has P w K mg base 2 "_law_is_ratio" ["_law_thing"] F_q_is_ratio_v3 :=
  has_mk (k := 1) T.s_q_is_ratio sc_q_is_ratio fun ff cdv A outer s0 H E gd hr => by
    have hu := hr.units
    exact (dss_cons (ds_if (dt_w (dw_or (dt_not (dt_val (de_isi "tuple" (by decide) (by rfl) T.n_isinstance (by rfl) T.n_tuple (by decide +kernel) (de_var (pv 0))))) (dw_or (dt_ne hu (de_len (by rfl) T.n_len (de_var (pv 0))) de_int) (dw_or (dt_not (dt_val (de_has H_q_whole gd (hr.mono (by decide)) (by rfl) (da_cons (de_ix (de_var (pv 0)) de_int (fun _ _ => rfl)) da_nil)))) (dw_or1 (dt_not (dt_val (de_has H_q_whole gd (hr.mono (by decide)) (by rfl) (da_cons (de_ix (de_var (pv 0)) de_int (fun _ _ => rfl)) da_nil))))))))) (dss_one (ds_ret de_bl)) dss_nil) (dss_one (ds_ret (de_and (de_gt (de_ix (de_var (pv 0)) de_int (fun _ _ => rfl)) de_int) (de_one (de_eq hu (de_has H_q_lowest gd (hr.mono (by decide)) (by rfl) (da_cons (de_ix (de_var (pv 0)) de_int (fun _ _ => rfl)) (da_cons (de_ix (de_var (pv 0)) de_int (fun _ _ => rfl)) da_nil))) (de_var (pv 0))))))))
theorem h_q_place (T : Txt K mg) (H_q_whole : Has P w K mg base 1 "_law_whole" ["_law_thing"] F_q_whole) : Has P w K mg base 2 "_law_place" ["_law_thing", "_law_size"] F_q_place :=
  has_mk (k := 1) T.s_q_place sc_q_place fun ff cdv A outer s0 H E gd hr => by
    have hu := hr.units
    exact (dss_one (ds_ret (de_and (de_has H_q_whole gd (hr.mono (by decide)) (by rfl) (da_cons (de_var (pv 0)) da_nil)) (de_one (de_chain op_le intsB_ok op_lt intsB_ok de_int (de_var (pv 0)) (de_var (pv 1)))))))
theorem h_q_is_shape (T : Txt K mg) (H_q_is_ratio : Has P w K mg base 2 "_law_is_ratio" ["_law_thing"] F_q_is_ratio_v3) (H_q_place : Has P w K mg base 2 "_law_place" ["_law_thing", "_law_size"] F_q_place) : Has P w K mg base 3 "_law_is_shape" ["_law_thing", "_law_size"] F_q_is_shape_v2 :=
  has_mk (k := 2) T.s_q_is_shape sc_q_is_shape fun ff cdv A outer s0 H E gd hr => by
    have hu := hr.units
    exact (dss_cons (ds_if (dt_w (dw_or (dt_not (dt_val (de_isi "tuple" (by decide) (by rfl) T.n_isinstance (by rfl) T.n_tuple (by decide +kernel) (de_var (pv 0))))) (dw_or (dt_nin (de_len (by rfl) T.n_len (de_var (pv 0))) (de_tup (da_cons de_int (da_cons de_int da_nil)))) (dw_or1 (dt_not (dt_val (de_isi "str" (by decide) (by rfl) T.n_isinstance (by rfl) T.n_str (by decide +kernel) (de_ix (de_var (pv 0)) de_int (fun _ _ => rfl))))))))) (dss_one (ds_ret de_bl)) dss_nil) (dss_cons (ds_if (dt_ne hu (de_ix (de_var (pv 0)) de_int (fun _ _ => rfl)) (de_ix (de_lst (da_cons de_str (da_cons de_str da_nil))) (de_sub (de_len (by rfl) T.n_len (de_var (pv 0))) de_int) (fun _ _ => rfl))) (dss_one (ds_ret de_bl)) dss_nil) (dss_cons (ds_if (dt_eq hu (de_len (by rfl) T.n_len (de_var (pv 0))) de_int) (dss_cons (ds_if (dt_w (dw_or (dt_not (dt_val (de_has H_q_place gd (hr.mono (by decide)) (by rfl) (da_cons (de_ix (de_var (pv 0)) de_int (fun _ _ => rfl)) (da_cons (de_var (pv 1)) da_nil))))) (dw_or (dt_not (dt_val (de_isi "tuple" (by decide) (by rfl) T.n_isinstance (by rfl) T.n_tuple (by decide +kernel) (de_ix (de_var (pv 0)) de_int (fun _ _ => rfl))))) (dw_or1 (dt_ne hu (de_len (by rfl) T.n_len (de_ix (de_var (pv 0)) de_int (fun _ _ => rfl))) (de_var (pv 1))))))) (dss_one (ds_ret de_bl)) dss_nil) (dss_cons (ds_if (dt_w (dw_or (dt_in de_bl (de_lc (own := [("_law_one", 2)]) (T := (.one 2)) rfl sc_q_is_shape.nd (di_seq (de_ix (de_var (pv 0)) de_int (fun _ _ => rfl))) (blkOk_by (own := [("_law_one", 2)]) (N := N_q_is_shape) (sc := defScope st_q_is_shape) (by decide +kernel)) (by decide) (fun _ _ _ _ _ => (dg_one sc_q_is_shape.nd rfl (.inl rfl))) (fun _ _ _ _ _ => ts_nil) (fun _ _ _ _ _ => (de_has H_q_is_ratio gd (hr.mono (by decide)) (by rfl) (da_cons (de_var (pv 2)) da_nil))))) (dw_or (dt_not (dt_val (de_isi "tuple" (by decide) (by rfl) T.n_isinstance (by rfl) T.n_tuple (by decide +kernel) (de_ix (de_var (pv 0)) de_int (fun _ _ => rfl))))) (dw_or1 (dt_gt (de_len (by rfl) T.n_len (de_ix (de_var (pv 0)) de_int (fun _ _ => rfl))) de_int))))) (dss_one (ds_ret de_bl)) dss_nil) (dss_cons (ds_for (T := (.one 2)) PassesOwn.never rfl (di_seq (de_ix (de_var (pv 0)) de_int (fun _ _ => rfl))) (dg_one sc_q_is_shape.nd rfl (.inl rfl)) (dss_one (ds_if (dt_w (dw_or (dt_not (dt_val (de_isi "tuple" (by decide) (by rfl) T.n_isinstance (by rfl) T.n_tuple (by decide +kernel) (de_var (pv 2))))) (dw_or (dt_ne hu (de_len (by rfl) T.n_len (de_var (pv 2))) de_int) (dw_or1 (dt_in de_bl (de_lc (own := [("_law_k", 4)]) (T := (.one 4)) rfl sc_q_is_shape.nd (di_seq (de_var (pv 2))) (blkOk_by (own := [("_law_k", 4)]) (N := N_q_is_shape) (sc := defScope st_q_is_shape) (by decide +kernel)) (by decide) (fun _ _ _ _ _ => (dg_one sc_q_is_shape.nd rfl (.inl rfl))) (fun _ _ _ _ _ => ts_nil) (fun _ _ _ _ _ => (de_has H_q_place gd (hr.mono (by decide)) (by rfl) (da_cons (de_var (pv 4)) (da_cons (de_var (pv 1)) da_nil)))))))))) (dss_one (ds_ret de_bl)) dss_nil))) (dss_one (ds_ret de_bl))))) dss_nil) (dss_cons (ds_for (T := (.one 3)) PassesOwn.never rfl (di_seq (de_slice (de_var (pv 0)) (do_some de_int) do_none)) (dg_one sc_q_is_shape.nd rfl (.inl rfl)) (dss_cons (ds_if (dt_w (dw_or (dt_not (dt_val (de_isi "tuple" (by decide) (by rfl) T.n_isinstance (by rfl) T.n_tuple (by decide +kernel) (de_var (pv 3))))) (dw_or (dt_eq hu (de_var (pv 3)) (de_tup da_nil)) (dw_or1 (dt_in de_bl (de_lc (own := [("_law_k", 4)]) (T := (.one 4)) rfl sc_q_is_shape.nd (di_seq (de_var (pv 3))) (blkOk_by (own := [("_law_k", 4)]) (N := N_q_is_shape) (sc := defScope st_q_is_shape) (by decide +kernel)) (by decide) (fun _ _ _ _ _ => (dg_one sc_q_is_shape.nd rfl (.inl rfl))) (fun _ _ _ _ _ => ts_nil) (fun _ _ _ _ _ => (de_has H_q_place gd (hr.mono (by decide)) (by rfl) (da_cons (de_var (pv 4)) (da_cons (de_var (pv 1)) da_nil)))))))))) (dss_one (ds_ret de_bl)) dss_nil) (dss_one (ds_if (dt_ne hu (de_list (by rfl) T.n_list (de_var (pv 3))) (de_sortSetI rfl (by rfl) T.n_sorted (by rfl) T.n_set (de_var (pv 3)))) (dss_one (ds_ret de_bl)) dss_nil)))) (dss_one (ds_ret de_bl))))))
theorem h_q_due (T : Txt K mg) (H_q_by : Has P w K mg base 2 "_law_by" ["_law_one", "_law_other"] F_q_by) (H_q_all : Has P w K mg base 3 "_law_all" ["_law_numbers"] F_q_all) (H_q_rows : Has P w K mg base 4 "_law_rows" ["_law_kinds_here"] F_q_rows_v2) (H_q_is_out : Has P w K mg base 1 "_law_is_out" ["_law_rows_here", "_law_kind", "_law_some"] F_q_is_out) (H_q_is_shape : Has P w K mg base 3 "_law_is_shape" ["_law_thing", "_law_size"] F_q_is_shape_v2) : Has P w K mg base 5 "_law_due" ["_law_kinds_here", "_law_thing"] F_q_due_v7 :=
  has_mk (k := 4) T.s_q_due sc_q_due fun ff cdv A outer s0 H E gd hr => by
    have hu := hr.units
    exact (dss_cons (ds_set (i := 2) sc_q_due.nd rfl (.inr rfl) (de_has H_q_rows gd (hr.mono (by decide)) (by rfl) (da_cons (de_var (pv 0)) da_nil))) (dss_cons (ds_set (i := 3) sc_q_due.nd rfl (.inl rfl) (de_len (by rfl) T.n_len (de_var (pv 2)))) (dss_cons (ds_if (dt_not (dt_val (de_has H_q_is_shape gd (hr.mono (by decide)) (by rfl) (da_cons (de_var (pv 1)) (da_cons (de_var (pv 3)) da_nil))))) (dss_one (ds_ret (de_tup (da_cons de_str (da_cons de_int da_nil))))) dss_nil) (dss_cons (ds_if (dt_eq hu (de_ix (de_var (pv 1)) de_int (fun _ _ => rfl)) de_str) (dss_cons (ds_for (T := (.one 4)) PassesOwn.never rfl (di_seq (de_ix (de_var (pv 1)) de_int (fun _ _ => rfl))) (dg_one sc_q_due.nd rfl (.inr rfl)) (dss_one (ds_if (dt_in (de_var (pv 4)) (de_ix (de_var (pv 1)) de_int (fun _ _ => rfl))) (dss_one (ds_ret (de_tup (da_cons de_str (da_cons (de_var (pv 4)) da_nil))))) dss_nil))) (dss_cons (ds_for (T := (.one 5)) PassesOwn.never rfl (di_seq (de_slice (de_var (pv 1)) (do_some de_int) do_none)) (dg_one sc_q_due.nd rfl (.inl rfl)) (dss_one (ds_for (T := (.one 4)) PassesOwn.never rfl (di_seq (de_var (pv 5))) (dg_one sc_q_due.nd rfl (.inr rfl)) (dss_one (ds_if (dt_val (de_has H_q_is_out gd (hr.mono (by decide)) (by rfl) (da_cons (de_var (pv 2)) (da_cons (de_var (pv 4)) (da_cons (de_var (pv 5)) da_nil))))) (dss_one (ds_ret (de_tup (da_cons de_str (da_cons (de_var (pv 4)) da_nil))))) dss_nil))))) (dss_one (ds_ret (de_lst (da_cons de_str da_nil)))))) dss_nil) (dss_cons (ds_asg (T := (.many [6, 7, 8, 9])) (de_var (pv 1)) (dg_many rfl (dga_cons (pg_name (i := 6) sc_q_due.nd rfl (.inl rfl)) (dga_cons (pg_name (i := 7) sc_q_due.nd rfl (.inl rfl)) (dga_cons (pg_name (i := 8) sc_q_due.nd rfl (.inr rfl)) (dga_cons (pg_name (i := 9) sc_q_due.nd rfl (.inl rfl)) dga_nil)))))) (dss_cons (ds_if (dt_ne hu (de_has H_q_all gd (hr.mono (by decide)) (by rfl) (da_cons (de_var (pv 8)) da_nil)) (de_tup (da_cons de_int (da_cons de_int da_nil)))) (dss_one (ds_ret (de_tup (da_cons de_str (da_cons de_int da_nil))))) dss_nil) (dss_cons (ds_for (T := (.one 4)) PassesOwn.never rfl (di_range1 (by rfl) T.n_range (de_var (pv 3))) (dg_one sc_q_due.nd rfl (.inr rfl)) (dss_one (ds_if (dt_ne hu (de_has H_q_all gd (hr.mono (by decide)) (by rfl) (da_cons (de_lc (own := [("_law_k", 14)]) (T := (.one 14)) rfl sc_q_due.nd (di_range1 (by rfl) T.n_range (de_var (pv 3))) (blkOk_by (own := [("_law_k", 14)]) (N := N_q_due) (sc := defScope st_q_due) (by decide +kernel)) (by decide) (fun _ _ _ _ _ => (dg_one sc_q_due.nd rfl (.inl rfl))) (fun _ _ _ _ _ => ts_nil) (fun _ _ _ _ _ => (de_has H_q_by gd (hr.mono (by decide)) (by rfl) (da_cons (de_ix (de_var (pv 8)) (de_var (pv 14)) (fun _ _ => rfl)) (da_cons (de_ix (de_ix (de_var (pv 2)) (de_var (pv 14)) (fun _ _ => rfl)) (de_var (pv 4)) (fun _ _ => rfl)) da_nil))))) da_nil)) (de_ix (de_var (pv 8)) (de_var (pv 4)) (fun _ _ => rfl))) (dss_one (ds_ret (de_tup (da_cons de_str (da_cons (de_var (pv 4)) da_nil))))) dss_nil))) (dss_cons (ds_set (i := 10) sc_q_due.nd rfl (.inr rfl) (de_lst (da_cons (de_var (pv 7)) da_nil))) (dss_cons (ds_for (T := (.one 11)) PassesOwn.never rfl (di_range1 (by rfl) T.n_range (de_len (by rfl) T.n_len (de_var (pv 9)))) (dg_one sc_q_due.nd rfl (.inl rfl)) (dss_cons (ds_asg (T := (.many [4, 12])) (de_ix (de_var (pv 9)) (de_var (pv 11)) (fun _ _ => rfl)) (dg_many rfl (dga_cons (pg_name (i := 4) sc_q_due.nd rfl (.inr rfl)) (dga_cons (pg_name (i := 12) sc_q_due.nd rfl (.inl rfl)) dga_nil)))) (dss_cons (ds_if (dt_w (dw_or (dt_in (de_var (pv 4)) (de_var (pv 10))) (dw_or (dt_eq hu (de_ix (de_ix (de_var (pv 2)) (de_var (pv 4)) (fun _ _ => rfl)) (de_var (pv 12)) (fun _ _ => rfl)) (de_tup (da_cons de_int (da_cons de_int da_nil)))) (dw_or1 (dt_nin (de_var (pv 12)) (de_var (pv 10))))))) (dss_one (ds_ret (de_tup (da_cons de_str (da_cons (de_var (pv 11)) da_nil))))) dss_nil) (dss_one (ds_app (pv 10) (de_var (pv 4))))))) (dss_frz 10 (dss_cons (ds_setLc (i := 13) (own := [("_law_kind", 4)]) (T := (.one 4)) rfl sc_q_due.nd rfl rfl (sw_true rfl rfl rfl (by decide +kernel)) (di_range1 (by rfl) T.n_range (de_var (pv 3))) (blkOk_by (own := [("_law_kind", 4)]) (N := N_q_due) (sc := defScope st_q_due) (by decide +kernel)) (by decide) (fun _ _ _ _ _ => (dg_one sc_q_due.nd rfl (.inl rfl))) (fun _ _ _ _ _ => (ts_one (dt_nin (de_var (pv 4)) (de_var (pv 10))))) (fun _ _ _ _ _ => (de_var (pv 4)))) (dss_frz 13 (dss_one (ds_ret (de_if (dt_eq hu (de_var (pv 13)) (de_lst da_nil)) (de_lst (da_cons de_str da_nil)) (de_tup (da_cons de_str (da_cons (de_ix (de_var (pv 13)) de_int (fun _ _ => rfl)) da_nil))))))))))))))))))
theorem h_common (T : Txt K mg)  : Has P w K mg base 1 "common" ["one", "other"] F_common :=
  has_mk (k := 0) T.s_common sc_common fun ff cdv A outer s0 H E gd hr => by
    have hu := hr.units
    exact (dss_cons (ds_while PassesOwn.never (dt_ne hu (de_var (pv 1)) de_int) (dss_one (ds_par (i := 0) (j := 1) rfl sc_common.nd rfl rfl (by decide) rfl rfl (da_cons (de_var (pv 1)) (da_cons (de_mod (de_var (pv 0)) (de_var (pv 1))) da_nil)) (by rfl)))) (dss_one (ds_ret (de_var (pv 0)))))
theorem h_ratio (T : Txt K mg) (H_common : Has P w K mg base 1 "common" ["one", "other"] F_common) : Has P w K mg base 2 "ratio" ["top", "bottom"] F_ratio :=
  has_mk (k := 1) T.s_ratio sc_ratio fun ff cdv A outer s0 H E gd hr => by
    have hu := hr.units
    exact (dss_cons (ds_if (dt_eq hu (de_var (pv 1)) de_int) (dss_one ds_no) dss_nil) (dss_cons (ds_set (i := 2) sc_ratio.nd rfl (.inl rfl) (de_if (dt_lt (de_var (pv 1)) de_int) (de_neg de_int) de_int)) (dss_cons (ds_set (i := 3) sc_ratio.nd rfl (.inl rfl) (de_has H_common gd (hr.mono (by decide)) (by rfl) (da_cons (de_abs (by rfl) T.n_abs (de_var (pv 0))) (da_cons (de_abs (by rfl) T.n_abs (de_var (pv 1))) da_nil)))) (dss_one (ds_ret (de_tup (da_cons (de_fdiv (de_mul (de_var (pv 2)) (de_var (pv 0))) (de_var (pv 3))) (da_cons (de_fdiv (de_mul (de_var (pv 2)) (de_var (pv 1))) (de_var (pv 3))) da_nil))))))))
theorem h_plus (T : Txt K mg) (H_ratio : Has P w K mg base 2 "ratio" ["top", "bottom"] F_ratio) : Has P w K mg base 3 "plus" ["one", "other"] F_plus :=
  has_mk (k := 2) T.s_plus sc_plus fun ff cdv A outer s0 H E gd hr => by
    have hu := hr.units
    exact (dss_one (ds_ret (de_has H_ratio gd (hr.mono (by decide)) (by rfl) (da_cons (de_add (de_mul (de_ix (de_var (pv 0)) de_int (fun _ _ => rfl)) (de_ix (de_var (pv 1)) de_int (fun _ _ => rfl))) (de_mul (de_ix (de_var (pv 1)) de_int (fun _ _ => rfl)) (de_ix (de_var (pv 0)) de_int (fun _ _ => rfl)))) (da_cons (de_mul (de_ix (de_var (pv 0)) de_int (fun _ _ => rfl)) (de_ix (de_var (pv 1)) de_int (fun _ _ => rfl))) da_nil)))))
theorem h_chain (T : Txt K mg) (H_plus : Has P w K mg base 3 "plus" ["one", "other"] F_plus) : Has P w K mg base 4 "chain" ["kinds"] F_chain :=
  has_mk (k := 3) T.s_chain sc_chain fun ff cdv A outer s0 H E gd hr => by
    have hu := hr.units
    exact (dss_cons (ds_set (i := 1) sc_chain.nd rfl (.inl rfl) (de_lst da_nil)) (dss_cons (ds_for (T := (.one 2)) PassesOwn.never rfl (di_seq (de_var (pv 0))) (dg_one sc_chain.nd rfl (.inl rfl)) (dss_cons (ds_setLc (i := 3) (own := [("triple", 7)]) (T := (.one 7)) rfl sc_chain.nd rfl rfl (sw_true rfl rfl rfl (by decide +kernel)) (di_seq (de_var (pv 0))) (blkOk_by (own := [("triple", 7)]) (N := N_chain) (sc := defScope st_chain) (by decide +kernel)) (by decide) (fun _ _ _ _ _ => (dg_one sc_chain.nd rfl (.inl rfl))) (fun _ _ _ _ _ => ts_nil) (fun _ _ _ _ _ => (c_NOUGHT_kinds T rfl rfl (by rfl)))) (dss_cons (ds_for (T := (.many [4, 5, 6])) PassesOwn.never rfl (di_seq (de_var (pv 2))) (dg_many rfl (dga_cons (pg_name (i := 4) sc_chain.nd rfl (.inl rfl)) (dga_cons (pg_name (i := 5) sc_chain.nd rfl (.inl rfl)) (dga_cons (pg_name (i := 6) sc_chain.nd rfl (.inl rfl)) dga_nil)))) (dss_one (ds_put (i := 3) (pv 3) (de_var (pv 5)) (de_has H_plus gd (hr.mono (by decide)) (by rfl) (da_cons (de_ix (de_var (pv 3)) (de_var (pv 5)) (fun _ _ => rfl)) (da_cons (de_var (pv 6)) da_nil)))))) (dss_frz 3 (dss_one (ds_app (pv 1) (de_tuple (by rfl) T.n_tuple (de_var (pv 3))))))))) (dss_frz 1 (dss_one (ds_ret (de_tuple (by rfl) T.n_tuple (de_var (pv 1))))))))
theorem h_is_whole_0 (T : Txt K mg)  : Has P w K mg base 1 "is_whole_ratios" ["thing"] F_is_whole :=
  has_mk (k := 0) T.s_is_whole_0 sc_is_whole_0 fun ff cdv A outer s0 H E gd hr => by
    have hu := hr.units
    exact (dss_one (ds_ret (de_and (de_isi "int" (by decide) (by rfl) T.n_isinstance (by rfl) T.n_int (by decide +kernel) (de_var (pv 0))) (de_one (de_not (de_isi "bool" (by decide) (by rfl) T.n_isinstance (by rfl) T.n_bool (by decide +kernel) (de_var (pv 0))))))))
theorem h_is_ratio (T : Txt K mg) (H_is_whole_0 : Has P w K mg base 1 "is_whole_ratios" ["thing"] F_is_whole) (H_common : Has P w K mg base 1 "common" ["one", "other"] F_common) : Has P w K mg base 2 "is_ratio" ["thing"] F_is_ratio :=
  has_mk (k := 1) T.s_is_ratio sc_is_ratio fun ff cdv A outer s0 H E gd hr => by
    have hu := hr.units
    exact (dss_cons (ds_if (dt_w (dw_or (dt_not (dt_val (de_isi "tuple" (by decide) (by rfl) T.n_isinstance (by rfl) T.n_tuple (by decide +kernel) (de_var (pv 0))))) (dw_or (dt_ne hu (de_len (by rfl) T.n_len (de_var (pv 0))) de_int) (dw_or (dt_not (dt_val (de_has H_is_whole_0 gd (hr.mono (by decide)) (by rfl) (da_cons (de_ix (de_var (pv 0)) de_int (fun _ _ => rfl)) da_nil)))) (dw_or1 (dt_not (dt_val (de_has H_is_whole_0 gd (hr.mono (by decide)) (by rfl) (da_cons (de_ix (de_var (pv 0)) de_int (fun _ _ => rfl)) da_nil))))))))) (dss_one (ds_ret de_bl)) dss_nil) (dss_one (ds_ret (de_and (de_ge (de_ix (de_var (pv 0)) de_int (fun _ _ => rfl)) de_int) (de_one (de_eq hu (de_has H_common gd (hr.mono (by decide)) (by rfl) (da_cons (de_abs (by rfl) T.n_abs (de_ix (de_var (pv 0)) de_int (fun _ _ => rfl))) (da_cons (de_ix (de_var (pv 0)) de_int (fun _ _ => rfl)) da_nil))) de_int))))))
theorem h_is_whole_1 (T : Txt K mg)  : Has P w K mg base 1 "is_whole" ["thing"] F_is_whole :=
  has_mk (k := 0) T.s_is_whole_1 sc_is_whole_1 fun ff cdv A outer s0 H E gd hr => by
    have hu := hr.units
    exact (dss_one (ds_ret (de_and (de_isi "int" (by decide) (by rfl) T.n_isinstance (by rfl) T.n_int (by decide +kernel) (de_var (pv 0))) (de_one (de_not (de_isi "bool" (by decide) (by rfl) T.n_isinstance (by rfl) T.n_bool (by decide +kernel) (de_var (pv 0))))))))
theorem h_is_place (T : Txt K mg) (H_is_whole_1 : Has P w K mg base 1 "is_whole" ["thing"] F_is_whole) : Has P w K mg base 2 "is_place" ["thing", "size"] F_is_place :=
  has_mk (k := 1) T.s_is_place sc_is_place fun ff cdv A outer s0 H E gd hr => by
    have hu := hr.units
    exact (dss_one (ds_ret (de_and (de_has (H_is_whole_1.named T.a_is_whole_kinds) gd (hr.mono (by decide)) (by rfl) (da_cons (de_var (pv 0)) da_nil)) (de_one (de_chain op_le intsB_ok op_lt intsB_ok de_int (de_var (pv 0)) (de_var (pv 1)))))))
theorem h_is_named (T : Txt K mg)  : Has P w K mg base 1 "is_named" ["thing", "word", "length"] F_is_named :=
  has_mk (k := 0) T.s_is_named sc_is_named fun ff cdv A outer s0 H E gd hr => by
    have hu := hr.units
    exact (dss_one (ds_ret (de_and (de_isi "tuple" (by decide) (by rfl) T.n_isinstance (by rfl) T.n_tuple (by decide +kernel) (de_var (pv 0))) (de_and (de_eq hu (de_len (by rfl) T.n_len (de_var (pv 0))) (de_var (pv 2))) (de_and (de_isi "str" (by decide) (by rfl) T.n_isinstance (by rfl) T.n_str (by decide +kernel) (de_ix (de_var (pv 0)) de_int (fun _ _ => rfl))) (de_one (de_eq hu (de_ix (de_var (pv 0)) de_int (fun _ _ => rfl)) (de_var (pv 1)))))))))
theorem h_is_pair_of_kinds (T : Txt K mg) (H_is_place : Has P w K mg base 2 "is_place" ["thing", "size"] F_is_place) : Has P w K mg base 3 "is_pair_of_kinds" ["thing", "size"] F_is_pair_of_kinds :=
  has_mk (k := 2) T.s_is_pair_of_kinds sc_is_pair_of_kinds fun ff cdv A outer s0 H E gd hr => by
    have hu := hr.units
    exact (dss_one (ds_ret (de_and (de_isi "tuple" (by decide) (by rfl) T.n_isinstance (by rfl) T.n_tuple (by decide +kernel) (de_var (pv 0))) (de_and (de_eq hu (de_len (by rfl) T.n_len (de_var (pv 0))) de_int) (de_one (de_all rfl (by rfl) T.n_all (de_lc (own := [("one", 2)]) (T := (.one 2)) rfl sc_is_pair_of_kinds.nd (di_seq (de_var (pv 0))) (blkOk_by (own := [("one", 2)]) (N := N_is_pair_of_kinds) (sc := defScope st_is_pair_of_kinds) (by decide +kernel)) (by decide) (fun _ _ _ _ _ => (dg_one sc_is_pair_of_kinds.nd rfl (.inl rfl))) (fun _ _ _ _ _ => ts_nil) (fun _ _ _ _ _ => (de_has H_is_place gd (hr.mono (by decide)) (by rfl) (da_cons (de_var (pv 2)) (da_cons (de_var (pv 1)) da_nil)))))))))))
theorem h_is_share_shape (T : Txt K mg) (H_is_ratio : Has P w K mg base 2 "is_ratio" ["thing"] F_is_ratio) (H_is_place : Has P w K mg base 2 "is_place" ["thing", "size"] F_is_place) (H_is_named : Has P w K mg base 1 "is_named" ["thing", "word", "length"] F_is_named) (H_is_pair_of_kinds : Has P w K mg base 3 "is_pair_of_kinds" ["thing", "size"] F_is_pair_of_kinds) : Has P w K mg base 4 "is_share_shape" ["thing", "size"] F_is_share_shape :=
  has_mk (k := 3) T.s_is_share_shape sc_is_share_shape fun ff cdv A outer s0 H E gd hr => by
    have hu := hr.units
    exact (dss_cons (ds_if (dt_w (dw_or (dt_not (dt_val (de_has H_is_named gd (hr.mono (by decide)) (by rfl) (da_cons (de_var (pv 0)) (da_cons de_str (da_cons de_int da_nil)))))) (dw_or1 (dt_not (dt_val (de_has H_is_place gd (hr.mono (by decide)) (by rfl) (da_cons (de_ix (de_var (pv 0)) de_int (fun _ _ => rfl)) (da_cons (de_var (pv 1)) da_nil)))))))) (dss_one (ds_ret de_bl)) dss_nil) (dss_cons (ds_asg (T := (.many [2, 3])) (de_slice (de_var (pv 0)) (do_some de_int) do_none) (dg_many rfl (dga_cons (pg_name (i := 2) sc_is_share_shape.nd rfl (.inl rfl)) (dga_cons (pg_name (i := 3) sc_is_share_shape.nd rfl (.inl rfl)) dga_nil)))) (dss_cons (ds_if (dt_w (dw_or (dt_not (dt_val (de_isi "tuple" (by decide) (by rfl) T.n_isinstance (by rfl) T.n_tuple (by decide +kernel) (de_var (pv 2))))) (dw_or (dt_ne hu (de_len (by rfl) T.n_len (de_var (pv 2))) (de_var (pv 1))) (dw_or1 (dt_not (dt_val (de_all rfl (by rfl) T.n_all (de_lc (own := [("one", 4)]) (T := (.one 4)) rfl sc_is_share_shape.nd (di_seq (de_var (pv 2))) (blkOk_by (own := [("one", 4)]) (N := N_is_share_shape) (sc := defScope st_is_share_shape) (by decide +kernel)) (by decide) (fun _ _ _ _ _ => (dg_one sc_is_share_shape.nd rfl (.inl rfl))) (fun _ _ _ _ _ => ts_nil) (fun _ _ _ _ _ => (de_has H_is_ratio gd (hr.mono (by decide)) (by rfl) (da_cons (de_var (pv 4)) da_nil))))))))))) (dss_one (ds_ret de_bl)) dss_nil) (dss_cons (ds_if (dt_w (dw_or (dt_not (dt_val (de_isi "tuple" (by decide) (by rfl) T.n_isinstance (by rfl) T.n_tuple (by decide +kernel) (de_var (pv 3))))) (dw_or1 (dt_gt (de_len (by rfl) T.n_len (de_var (pv 3))) (c_MOST_WAYS T rfl rfl (by rfl)))))) (dss_one (ds_ret de_bl)) dss_nil) (dss_one (ds_ret (de_all rfl (by rfl) T.n_all (de_lc (own := [("one", 4)]) (T := (.one 4)) rfl sc_is_share_shape.nd (di_seq (de_var (pv 3))) (blkOk_by (own := [("one", 4)]) (N := N_is_share_shape) (sc := defScope st_is_share_shape) (by decide +kernel)) (by decide) (fun _ _ _ _ _ => (dg_one sc_is_share_shape.nd rfl (.inl rfl))) (fun _ _ _ _ _ => ts_nil) (fun _ _ _ _ _ => (de_has H_is_pair_of_kinds gd (hr.mono (by decide)) (by rfl) (da_cons (de_var (pv 4)) (da_cons (de_var (pv 1)) da_nil))))))))))))
theorem h_is_rising_kinds (T : Txt K mg) (H_is_place : Has P w K mg base 2 "is_place" ["thing", "size"] F_is_place) : Has P w K mg base 3 "is_rising_kinds" ["thing", "size"] F_is_rising_kinds :=
  has_mk (k := 2) T.s_is_rising_kinds sc_is_rising_kinds fun ff cdv A outer s0 H E gd hr => by
    have hu := hr.units
    exact (dss_cons (ds_if (dt_w (dw_or (dt_not (dt_val (de_isi "tuple" (by decide) (by rfl) T.n_isinstance (by rfl) T.n_tuple (by decide +kernel) (de_var (pv 0))))) (dw_or (dt_eq hu (de_var (pv 0)) (de_tup da_nil)) (dw_or1 (dt_not (dt_val (de_all rfl (by rfl) T.n_all (de_lc (own := [("one", 3)]) (T := (.one 3)) rfl sc_is_rising_kinds.nd (di_seq (de_var (pv 0))) (blkOk_by (own := [("one", 3)]) (N := N_is_rising_kinds) (sc := defScope st_is_rising_kinds) (by decide +kernel)) (by decide) (fun _ _ _ _ _ => (dg_one sc_is_rising_kinds.nd rfl (.inl rfl))) (fun _ _ _ _ _ => ts_nil) (fun _ _ _ _ _ => (de_has H_is_place gd (hr.mono (by decide)) (by rfl) (da_cons (de_var (pv 3)) (da_cons (de_var (pv 1)) da_nil)))))))))))) (dss_one (ds_ret de_bl)) dss_nil) (dss_one (ds_ret (de_all rfl (by rfl) T.n_all (de_lc (own := [("k", 2)]) (T := (.one 2)) rfl sc_is_rising_kinds.nd (di_range1 (by rfl) T.n_range (de_sub (de_len (by rfl) T.n_len (de_var (pv 0))) de_int)) (blkOk_by (own := [("k", 2)]) (N := N_is_rising_kinds) (sc := defScope st_is_rising_kinds) (by decide +kernel)) (by decide) (fun _ _ _ _ _ => (dg_one sc_is_rising_kinds.nd rfl (.inl rfl))) (fun _ _ _ _ _ => ts_nil) (fun _ _ _ _ _ => (de_lt (de_ix (de_var (pv 0)) (de_var (pv 2)) (fun _ _ => rfl)) (de_ix (de_var (pv 0)) (de_add (de_var (pv 2)) de_int) (fun _ _ => rfl)))))))))
theorem h_is_apart_shape (T : Txt K mg) (H_is_named : Has P w K mg base 1 "is_named" ["thing", "word", "length"] F_is_named) (H_is_rising_kinds : Has P w K mg base 3 "is_rising_kinds" ["thing", "size"] F_is_rising_kinds) : Has P w K mg base 4 "is_apart_shape" ["thing", "size"] F_is_apart_shape :=
  has_mk (k := 3) T.s_is_apart_shape sc_is_apart_shape fun ff cdv A outer s0 H E gd hr => by
    have hu := hr.units
    exact (dss_one (ds_ret (de_and (de_has H_is_named gd (hr.mono (by decide)) (by rfl) (da_cons (de_var (pv 0)) (da_cons de_str (da_cons de_int da_nil)))) (de_one (de_all rfl (by rfl) T.n_all (de_lc (own := [("some", 2)]) (T := (.one 2)) rfl sc_is_apart_shape.nd (di_seq (de_slice (de_var (pv 0)) (do_some de_int) do_none)) (blkOk_by (own := [("some", 2)]) (N := N_is_apart_shape) (sc := defScope st_is_apart_shape) (by decide +kernel)) (by decide) (fun _ _ _ _ _ => (dg_one sc_is_apart_shape.nd rfl (.inl rfl))) (fun _ _ _ _ _ => ts_nil) (fun _ _ _ _ _ => (de_has H_is_rising_kinds gd (hr.mono (by decide)) (by rfl) (da_cons (de_var (pv 2)) (da_cons (de_var (pv 1)) da_nil))))))))))
theorem h_times (T : Txt K mg) (H_ratio : Has P w K mg base 2 "ratio" ["top", "bottom"] F_ratio) : Has P w K mg base 3 "times" ["one", "other"] F_times :=
  has_mk (k := 2) T.s_times sc_times fun ff cdv A outer s0 H E gd hr => by
    have hu := hr.units
    exact (dss_one (ds_ret (de_has H_ratio gd (hr.mono (by decide)) (by rfl) (da_cons (de_mul (de_ix (de_var (pv 0)) de_int (fun _ _ => rfl)) (de_ix (de_var (pv 1)) de_int (fun _ _ => rfl))) (da_cons (de_mul (de_ix (de_var (pv 0)) de_int (fun _ _ => rfl)) (de_ix (de_var (pv 1)) de_int (fun _ _ => rfl))) da_nil)))))
theorem h_look_at_weights_X (T : Txt K mg) (H_plus : Has P w K mg base 3 "plus" ["one", "other"] F_plus) (H_times : Has P w K mg base 3 "times" ["one", "other"] F_times) : HasX P w K mg base 4 "look_at_weights" ["rows", "weights"] F_look_at_weights_X :=
  has_mkX (k := 3) T.s_look_at_weights_X sc_look_at_weights_X fun ff cdv A outer s0 H E gd hr => by
    have hu := hr.units
    have tk : Takes (cxOf (L2.CX P w) P w K mg base N_look_at_weights_X "look_at_weights" (defScope st_look_at_weights_X) ff cdv A outer s0 H E) (fun cls d _ H => E cls d H) := takes_of rfl rfl rfl rfl
    exact (dss_cons (ds_set (i := 2) sc_look_at_weights_X.nd rfl (.inl rfl) (c_NOUGHT_sharechecker T rfl rfl (by rfl))) (dss_cons (ds_for (T := (.one 3)) (passes_of rfl) rfl (di_seq (de_var (pv 1))) (dg_one sc_look_at_weights_X.nd rfl (.inl rfl)) (dss_one (ds_set (i := 2) sc_look_at_weights_X.nd rfl (.inl rfl) (de_has H_plus gd (hr.mono (by decide)) (by rfl) (da_cons (de_var (pv 2)) (da_cons (de_var (pv 3)) da_nil)))))) (dss_cons (ds_if (dt_ne hu (de_var (pv 2)) (c_ONE T rfl rfl (by rfl))) (dss_one (ds_raise (i_NoPaper (P := P) (w := w) (base := base) T) rfl tk (hr.mono (by decide)) (by rfl) (da_cons de_str (da_cons de_int da_nil)))) dss_nil) (dss_one (ds_for (T := (.many [4, 3])) (passes_of rfl) rfl (di_enum (by rfl) T.n_enumerate (de_var (pv 1))) (dg_many rfl (dga_cons (pg_name (i := 4) sc_look_at_weights_X.nd rfl (.inl rfl)) (dga_cons (pg_name (i := 3) sc_look_at_weights_X.nd rfl (.inl rfl)) dga_nil))) (dss_cons (ds_set (i := 2) sc_look_at_weights_X.nd rfl (.inl rfl) (c_NOUGHT_sharechecker T rfl rfl (by rfl))) (dss_cons (ds_for (T := (.many [5, 6])) (passes_of rfl) rfl (di_enum (by rfl) T.n_enumerate (de_var (pv 0))) (dg_many rfl (dga_cons (pg_name (i := 5) sc_look_at_weights_X.nd rfl (.inl rfl)) (dga_cons (pg_name (i := 6) sc_look_at_weights_X.nd rfl (.inl rfl)) dga_nil))) (dss_one (ds_set (i := 2) sc_look_at_weights_X.nd rfl (.inl rfl) (de_has H_plus gd (hr.mono (by decide)) (by rfl) (da_cons (de_var (pv 2)) (da_cons (de_has H_times gd (hr.mono (by decide)) (by rfl) (da_cons (de_ix (de_var (pv 1)) (de_var (pv 5)) (fun _ _ => rfl)) (da_cons (de_ix (de_var (pv 6)) (de_var (pv 4)) (fun _ _ => rfl)) da_nil))) da_nil)))))) (dss_one (ds_if (dt_ne hu (de_var (pv 2)) (de_var (pv 3))) (dss_one (ds_raise (i_NoPaper (P := P) (w := w) (base := base) T) rfl tk (hr.mono (by decide)) (by rfl) (da_cons de_str (da_cons (de_var (pv 4)) da_nil)))) dss_nil)))))))))
theorem h_is_led_to (T : Txt K mg)  : Has P w K mg base 1 "is_led_to" ["rows", "kind", "following"] F_is_led_to :=
  has_mk (k := 0) T.s_is_led_to sc_is_led_to fun ff cdv A outer s0 H E gd hr => by
    have hu := hr.units
    exact (dss_one (ds_ret (de_ne hu (de_ix (de_ix (de_var (pv 0)) (de_var (pv 1)) (fun _ _ => rfl)) (de_var (pv 2)) (fun _ _ => rfl)) (c_NOUGHT_sharechecker T rfl rfl (by rfl)))))
theorem h_look_at_ways_X (T : Txt K mg) (H_is_led_to : Has P w K mg base 1 "is_led_to" ["rows", "kind", "following"] F_is_led_to) : HasX P w K mg base 3 "look_at_ways" ["rows", "home", "ways"] F_look_at_ways_X :=
  has_mkX (k := 2) T.s_look_at_ways_X sc_look_at_ways_X fun ff cdv A outer s0 H E gd hr => by
    have hu := hr.units
    have tk : Takes (cxOf (L2.CX P w) P w K mg base N_look_at_ways_X "look_at_ways" (defScope st_look_at_ways_X) ff cdv A outer s0 H E) (fun cls d _ H => E cls d H) := takes_of rfl rfl rfl rfl
    exact (dss_cons (ds_set (i := 3) sc_look_at_ways_X.nd rfl (.inl rfl) (de_lst (da_cons (de_var (pv 1)) da_nil))) (dss_cons (ds_for (T := (.many [4, 5])) (passes_of rfl) rfl (di_enum (by rfl) T.n_enumerate (de_var (pv 2))) (dg_many rfl (dga_cons (pg_name (i := 4) sc_look_at_ways_X.nd rfl (.inl rfl)) (dga_cons (pg_name (i := 5) sc_look_at_ways_X.nd rfl (.inl rfl)) dga_nil))) (dss_cons (ds_asg (T := (.many [6, 7])) (de_var (pv 5)) (dg_many rfl (dga_cons (pg_name (i := 6) sc_look_at_ways_X.nd rfl (.inl rfl)) (dga_cons (pg_name (i := 7) sc_look_at_ways_X.nd rfl (.inl rfl)) dga_nil)))) (dss_cons (ds_if (dt_w (dw_or (dt_in (de_var (pv 6)) (de_var (pv 3))) (dw_or (dt_not (dt_val (de_has H_is_led_to gd (hr.mono (by decide)) (by rfl) (da_cons (de_var (pv 0)) (da_cons (de_var (pv 6)) (da_cons (de_var (pv 7)) da_nil)))))) (dw_or1 (dt_nin (de_var (pv 7)) (de_var (pv 3))))))) (dss_one (ds_raise (i_NoPaper (P := P) (w := w) (base := base) T) rfl tk (hr.mono (by decide)) (by rfl) (da_cons de_str (da_cons (de_var (pv 4)) da_nil)))) dss_nil) (dss_one (ds_app (pv 3) (de_var (pv 6))))))) (dss_frz 3 (dss_one (ds_for (T := (.one 6)) (passes_of rfl) rfl (di_range1 (by rfl) T.n_range (de_len (by rfl) T.n_len (de_var (pv 0)))) (dg_one sc_look_at_ways_X.nd rfl (.inl rfl)) (dss_one (ds_if (dt_nin (de_var (pv 6)) (de_var (pv 3))) (dss_one (ds_raise (i_NoPaper (P := P) (w := w) (base := base) T) rfl tk (hr.mono (by decide)) (by rfl) (da_cons de_str (da_cons (de_var (pv 6)) da_nil)))) dss_nil)))))))
theorem h_look_at_apart_X (T : Txt K mg) (H_is_led_to : Has P w K mg base 1 "is_led_to" ["rows", "kind", "following"] F_is_led_to) : HasX P w K mg base 3 "look_at_apart" ["rows", "one", "other"] F_look_at_apart_X :=
  has_mkX (k := 2) T.s_look_at_apart_X sc_look_at_apart_X fun ff cdv A outer s0 H E gd hr => by
    have hu := hr.units
    have tk : Takes (cxOf (L2.CX P w) P w K mg base N_look_at_apart_X "look_at_apart" (defScope st_look_at_apart_X) ff cdv A outer s0 H E) (fun cls d _ H => E cls d H) := takes_of rfl rfl rfl rfl
    exact (dss_cons (ds_for (T := (.one 3)) (passes_of rfl) rfl (di_seq (de_var (pv 1))) (dg_one sc_look_at_apart_X.nd rfl (.inr rfl)) (dss_one (ds_if (dt_in (de_var (pv 3)) (de_var (pv 2))) (dss_one (ds_raise (i_NoPaper (P := P) (w := w) (base := base) T) rfl tk (hr.mono (by decide)) (by rfl) (da_cons de_str (da_cons (de_var (pv 3)) da_nil)))) dss_nil))) (dss_one (ds_for (T := (.one 4)) (passes_of rfl) rfl (di_seq (de_tup (da_cons (de_var (pv 1)) (da_cons (de_var (pv 2)) da_nil)))) (dg_one sc_look_at_apart_X.nd rfl (.inr rfl)) (dss_one (ds_for (T := (.one 3)) (passes_of rfl) rfl (di_seq (de_var (pv 4))) (dg_one sc_look_at_apart_X.nd rfl (.inr rfl)) (dss_one (ds_if (dt_not (dt_val (de_all rfl (by rfl) T.n_all (de_lc (own := [("following", 5)]) (T := (.one 5)) rfl sc_look_at_apart_X.nd (di_range1 (by rfl) T.n_range (de_len (by rfl) T.n_len (de_var (pv 0)))) (blkOk_by (own := [("following", 5)]) (N := N_look_at_apart_X) (sc := defScope st_look_at_apart_X) (by decide +kernel)) (by decide) (fun _ _ _ _ _ => (dg_one sc_look_at_apart_X.nd rfl (.inl rfl))) (fun _ _ _ _ _ => (ts_one (dt_val (de_has H_is_led_to gd (hr.mono (by decide)) (by rfl) (da_cons (de_var (pv 0)) (da_cons (de_var (pv 3)) (da_cons (de_var (pv 5)) da_nil))))))) (fun _ _ _ _ _ => (de_in (de_var (pv 5)) (de_var (pv 4)))))))) (dss_one (ds_raise (i_NoPaper (P := P) (w := w) (base := base) T) rfl tk (hr.mono (by decide)) (by rfl) (da_cons de_str (da_cons (de_var (pv 3)) da_nil)))) dss_nil)))))))
theorem h_lets_share_X (T : Txt K mg) (H_chain : Has P w K mg base 4 "chain" ["kinds"] F_chain) (H_is_share_shape : Has P w K mg base 4 "is_share_shape" ["thing", "size"] F_is_share_shape) (H_is_apart_shape : Has P w K mg base 4 "is_apart_shape" ["thing", "size"] F_is_apart_shape) (H_look_at_weights_X : HasX P w K mg base 4 "look_at_weights" ["rows", "weights"] F_look_at_weights_X) (H_look_at_ways_X : HasX P w K mg base 3 "look_at_ways" ["rows", "home", "ways"] F_look_at_ways_X) (H_look_at_apart_X : HasX P w K mg base 3 "look_at_apart" ["rows", "one", "other"] F_look_at_apart_X) : HasX P w K mg base 5 "lets_share" ["kinds", "thing"] F_lets_share_X :=
  has_mkX (k := 4) T.s_lets_share_X sc_lets_share_X fun ff cdv A outer s0 H E gd hr => by
    have hu := hr.units
    have tk : Takes (cxOf (L2.CX P w) P w K mg base N_lets_share_X "lets_share" (defScope st_lets_share_X) ff cdv A outer s0 H E) (fun cls d _ H => E cls d H) := takes_of rfl rfl rfl rfl
    exact (dss_cons (ds_set (i := 2) sc_lets_share_X.nd rfl (.inl rfl) (de_has H_chain gd (hr.mono (by decide)) (by rfl) (da_cons (de_var (pv 0)) da_nil))) (dss_cons (ds_if (dt_val (de_has H_is_share_shape gd (hr.mono (by decide)) (by rfl) (da_cons (de_var (pv 1)) (da_cons (de_len (by rfl) T.n_len (de_var (pv 0))) da_nil)))) (dss_cons (ds_expr (de_hasX H_look_at_weights_X tk gd (hr.mono (by decide)) (by rfl) (da_cons (de_var (pv 2)) (da_cons (de_ix (de_var (pv 1)) de_int (fun _ _ => rfl)) da_nil)))) (dss_cons (ds_expr (de_hasX H_look_at_ways_X tk gd (hr.mono (by decide)) (by rfl) (da_cons (de_var (pv 2)) (da_cons (de_ix (de_var (pv 1)) de_int (fun _ _ => rfl)) (da_cons (de_ix (de_var (pv 1)) de_int (fun _ _ => rfl)) da_nil))))) (dss_one (ds_ret de_str)))) dss_nil) (dss_cons (ds_if (dt_val (de_has H_is_apart_shape gd (hr.mono (by decide)) (by rfl) (da_cons (de_var (pv 1)) (da_cons (de_len (by rfl) T.n_len (de_var (pv 0))) da_nil)))) (dss_cons (ds_expr (de_hasX H_look_at_apart_X tk gd (hr.mono (by decide)) (by rfl) (da_cons (de_var (pv 2)) (da_cons (de_ix (de_var (pv 1)) de_int (fun _ _ => rfl)) (da_cons (de_ix (de_var (pv 1)) de_int (fun _ _ => rfl)) da_nil))))) (dss_one (ds_ret de_str))) dss_nil) (dss_one (ds_raise (i_NoPaper (P := P) (w := w) (base := base) T) rfl tk (hr.mono (by decide)) (by rfl) (da_cons de_str (da_cons de_int da_nil)))))))
theorem h_q_told (T : Txt K mg) (H_lets_share_X : HasX P w K mg base 5 "lets_share" ["kinds", "thing"] F_lets_share_X) : Has P w K mg base 6 "_law_told" ["_law_kinds_here", "_law_thing"] F_q_told_v4 :=
  has_mk (k := 5) T.s_q_told sc_q_told fun ff cdv A outer s0 H E gd hr => by
    have hu := hr.units
    obtain ⟨c_FreshError, e_FreshError⟩ := errT_p T.p_FreshError
    obtain ⟨c_NoPaper, e_NoPaper⟩ := errT_p T.p_NoPaper
    have e_ValueError := T.p_ValueError
    exact (dss_cons (ds_set (i := 2) sc_q_told.nd rfl (.inl rfl) de_str) (dss_cons (ds_tryS (i := 2) (j := 3) rfl rfl sc_q_told.nd rfl (.inl rfl) rfl rfl (by rfl) e_FreshError (names_cons T.r_NoPaper.nm names_nil) (fun W pn xe tk2 po2 => (de_lst (da_cons (de_hasX H_lets_share_X tk2 gd (hr.mono (by decide)) (by rfl) (da_cons (de_var (pv 0)) (da_cons (de_var (pv 1)) da_nil))) da_nil))) (fun a pn => (dss_cons (ds_set (i := 4) sc_q_told.nd rfl (.inl rfl) (de_isEs T.e_ok (cls_cons T.p_NoAge (by rfl) (cls_cons T.p_NoBeat (by rfl) (cls_cons T.p_NoLines (by rfl) (cls_cons T.p_NoName (by rfl) (cls_cons T.p_NoRatio (by rfl) (cls_cons T.p_NoRow (by rfl) (cls_cons T.p_NoText (by rfl) (cls_cons T.p_TooMany (by rfl) cls_nil)))))))) (by decide) (by rfl) T.n_isinstance (de_var (pv 3)) (fun h => pe_tup h))) (dss_one (ds_if (dt_w (dw_and (dt_val (de_isE T.e_ok e_NoPaper (.inl ⟨_, rfl, rfl⟩) (by rfl) T.n_isinstance (by rfl) (de_var (pv 3)))) (dw_and (dt_val (de_isE T.e_ok e_ValueError (.inr ⟨_, rfl, rfl⟩) (by rfl) T.n_isinstance (by rfl) (de_var (pv 3)))) (dw_and1 (dt_not (dt_val (de_var (pv 4)))))))) (dss_one (ds_set (i := 2) sc_q_told.nd rfl (.inl rfl) (de_tup (da_cons (de_fld T.e_ok (de_var (pv 3))) (da_cons (de_fld T.e_ok (de_var (pv 3))) da_nil))))) dss_nil))))) (dss_one (ds_ret (de_var (pv 2))))))
theorem feed_ok {f : Addr} {fd : FuncData} (F : Fun K "_law_feed" "_law_feed" st_q_feed f fd) (ml : mg "list" = none) : FnG P w K mg base CX0 1 f fd ["_law_script"] (spFeed K) :=
  fnG_ok F sc_q_feed (fun vs H Q E h => by obtain ⟨a, ns, rfl, _⟩ := h; rfl) fun cdv A outer s0 H vs Q E gd hr h =>
    ⟨_, pss_one (ps_ret (pe_disp (pps_cons pe_str (pe_callTy call_list_of (by rfl) ml (by decide +kernel) (pa_cons (pe_slice sl_list (pv 0) po_none (po_some pe_int)) pa_nil)) (pps_cons pe_str pe_int (pps_cons pe_str pe_int (pps_cons pe_str pe_int pps_nil)))) rfl rfl (by decide) (by decide))), feed_made h⟩
theorem ok_law (T : Txt K mg) (H_q_draw : Has P w K mg base 1 "_law_draw" ["_law_feed_here", "_law_size"] F_q_draw_v3) (H_q_kinds : Has P w K mg base 3 "_law_kinds" ["_law_feed_here", "_law_size", "_law_is_full"] F_q_kinds) (H_q_rows : Has P w K mg base 4 "_law_rows" ["_law_kinds_here"] F_q_rows_v2) (H_q_paper : Has P w K mg base 5 "_law_paper" ["_law_feed_here", "_law_rows_here"] F_q_paper_v2) (H_q_due : Has P w K mg base 5 "_law_due" ["_law_kinds_here", "_law_thing"] F_q_due_v7) (H_q_told : Has P w K mg base 6 "_law_told" ["_law_kinds_here", "_law_thing"] F_q_told_v4) {f : Addr} {fd : FuncData} (F : Fun K "law" "law" st_law f fd) (fin : ∀ ns : List Int, ns.length ≤ 63 → ∃ f, S_law (.emp :: .feed :: List.replicate 9 .emp) (feed0 ns) = .ok (.rt (.dat (.bool true))) f) : FnG P w K mg base CX0 7 f fd ["_law_script"] (spLaw K) := by
  refine fnG_ok F sc_law (fun vs H Q E h => by obtain ⟨a, ns, rfl, _⟩ := h; rfl) fun cdv A outer s0 H vs Q E gd hr h => ?_
  obtain ⟨a, ns, rfl, hS, hl, qq⟩ := h
  obtain ⟨fF, fdF, mF, FF, bF⟩ := T.s_q_feed.src
  have GF : FnG P w K mg base CX0 1 fF fdF ["_law_script"] (spFeed K) := feed_ok FF T.n_list
  have hu := hr.units
  have rest : DSs (cxOf CX0 P w K mg base N_law "law" (defScope st_law) f cdv A outer s0 H E).nox (fun _ _ _ => False) (defBody st_law).tail S_law := (dss_cons (ds_for (T := (.one 2)) PassesOwn.never rfl (di_range1 (by rfl) T.n_range de_int) (dg_one sc_law.nd rfl (.inl rfl)) (dss_cons (ds_set (i := 3) sc_law.nd rfl (.inl rfl) (de_add de_int (de_has H_q_draw gd (hr.mono (by decide)) (by rfl) (da_cons (de_var (pv 1)) (da_cons de_int da_nil))))) (dss_cons (ds_par (i := 4) (j := 5) rfl sc_law.nd rfl rfl (by decide) rfl rfl (da_cons (de_has H_q_kinds gd (hr.mono (by decide)) (by rfl) (da_cons (de_var (pv 1)) (da_cons (de_var (pv 3)) (da_cons de_bl da_nil)))) (da_cons (de_has H_q_kinds gd (hr.mono (by decide)) (by rfl) (da_cons (de_var (pv 1)) (da_cons (de_var (pv 3)) (da_cons de_bl da_nil)))) da_nil)) (by rfl)) (dss_cons (ds_for (T := (.one 6)) PassesOwn.never rfl (di_range1 (by rfl) T.n_range de_int) (dg_one sc_law.nd rfl (.inl rfl)) (dss_cons (ds_set (i := 7) sc_law.nd rfl (.inl rfl) (de_has H_q_paper gd (hr.mono (by decide)) (by rfl) (da_cons (de_var (pv 1)) (da_cons (de_has H_q_rows gd (hr.mono (by decide)) (by rfl) (da_cons (de_var (pv 4)) da_nil)) da_nil)))) (dss_cons (ds_set (i := 8) sc_law.nd rfl (.inl rfl) (de_reprX gd hu (by rfl) T.n_repr (de_tup (da_cons (de_var (pv 4)) (da_cons (de_var (pv 5)) (da_cons (de_var (pv 7)) da_nil)))))) (dss_cons (ds_set (i := 9) sc_law.nd rfl (.inl rfl) (de_lst (da_cons (de_lst (da_cons (de_ix (de_var (pv 7)) de_int (fun _ _ => rfl)) da_nil)) (da_cons (de_has H_q_due gd (hr.mono (by decide)) (by rfl) (da_cons (de_var (pv 5)) (da_cons (de_var (pv 7)) da_nil))) (da_cons (de_lst (da_cons (de_ix (de_var (pv 7)) de_int (fun _ _ => rfl)) da_nil)) da_nil))))) (dss_frz 9 (dss_cons (ds_set (i := 10) sc_law.nd rfl (.inl rfl) (de_lst (da_cons (de_has H_q_told gd (hr.mono (by decide)) (by rfl) (da_cons (de_var (pv 4)) (da_cons (de_var (pv 7)) da_nil))) (da_cons (de_has H_q_told gd (hr.mono (by decide)) (by rfl) (da_cons (de_var (pv 5)) (da_cons (de_var (pv 7)) da_nil))) (da_cons (de_has H_q_told gd (hr.mono (by decide)) (by rfl) (da_cons (de_var (pv 4)) (da_cons (de_var (pv 7)) da_nil))) da_nil))))) (dss_frz 10 (dss_one (ds_if (dt_w (dw_or (dt_ne hu (de_reprX gd hu (by rfl) T.n_repr (de_var (pv 10))) (de_reprX gd hu (by rfl) T.n_repr (de_var (pv 9)))) (dw_or1 (dt_ne hu (de_reprX gd hu (by rfl) T.n_repr (de_tup (da_cons (de_var (pv 4)) (da_cons (de_var (pv 5)) (da_cons (de_var (pv 7)) da_nil))))) (de_var (pv 8)))))) (dss_one (ds_ret de_bl)) dss_nil))))))))) (dss_frz 9 (dss_frz 10 dss_nil)))))) (dss_one (ds_ret de_bl)))
  exact ⟨_, pss_cons (ps_set (i := 1) sc_law.nd rfl (.inl rfl) (callG GF gd (hr.mono (by decide)) (by rfl) mF FF.kp bF pass0 (pa_cons (pv 0) pa_nil))) rest, .ref a, rfl, a, ns, rfl, hS, hl, fun fa ca G hle hne e1 e2 => law_rest N_law rfl hne e1 e2 (fin ns hl) qq⟩
theorem all_ok (T : Txt K mg) {f : Addr} {fd : FuncData} (F : Fun K "law" "law" st_law f fd) (fn : ∀ ns : List Int, ns.length ≤ 63 → ∃ f, S_law (.emp :: .feed :: List.replicate 9 .emp) (feed0 ns) = .ok (.rt (.dat (.bool true))) f) : FnG P w K mg base CX0 7 f fd ["_law_script"] (spLaw K) := by
  have H_q_draw := h_q_draw (P := P) (w := w) (base := base) T
  have H_q_lowest := h_q_lowest (P := P) (w := w) (base := base) T
  have H_q_following := h_q_following (P := P) (w := w) (base := base) T H_q_draw
  have H_q_kinds := h_q_kinds (P := P) (w := w) (base := base) T H_q_draw H_q_lowest H_q_following
  have H_q_add := h_q_add (P := P) (w := w) (base := base) T H_q_lowest
  have H_q_all := h_q_all (P := P) (w := w) (base := base) T H_q_add
  have H_q_rows := h_q_rows (P := P) (w := w) (base := base) T H_q_all
  have H_q_reached := h_q_reached (P := P) (w := w) (base := base) T
  have H_q_homes := h_q_homes (P := P) (w := w) (base := base) T H_q_reached
  have H_q_by := h_q_by (P := P) (w := w) (base := base) T H_q_lowest
  have H_q_trees := h_q_trees (P := P) (w := w) (base := base) T H_q_add H_q_by
  have H_q_weights := h_q_weights (P := P) (w := w) (base := base) T H_q_lowest H_q_all H_q_trees
  have H_q_ways_home := h_q_ways_home (P := P) (w := w) (base := base) T H_q_draw
  have H_q_is_out := h_q_is_out (P := P) (w := w) (base := base) T
  have H_q_closed := h_q_closed (P := P) (w := w) (base := base) T H_q_is_out
  have H_q_paper := h_q_paper (P := P) (w := w) (base := base) T H_q_draw H_q_homes H_q_weights H_q_ways_home H_q_closed
  have H_q_whole := h_q_whole (P := P) (w := w) (base := base) T
  have H_q_is_ratio := h_q_is_ratio (P := P) (w := w) (base := base) T H_q_lowest H_q_whole
  have H_q_place := h_q_place (P := P) (w := w) (base := base) T H_q_whole
  have H_q_is_shape := h_q_is_shape (P := P) (w := w) (base := base) T H_q_is_ratio H_q_place
  have H_q_due := h_q_due (P := P) (w := w) (base := base) T H_q_by H_q_all H_q_rows H_q_is_out H_q_is_shape
  have H_common := h_common (P := P) (w := w) (base := base) T
  have H_ratio := h_ratio (P := P) (w := w) (base := base) T H_common
  have H_plus := h_plus (P := P) (w := w) (base := base) T H_ratio
  have H_chain := h_chain (P := P) (w := w) (base := base) T H_plus
  have H_is_whole_0 := h_is_whole_0 (P := P) (w := w) (base := base) T
  have H_is_ratio := h_is_ratio (P := P) (w := w) (base := base) T H_is_whole_0 H_common
  have H_is_whole_1 := h_is_whole_1 (P := P) (w := w) (base := base) T
  have H_is_place := h_is_place (P := P) (w := w) (base := base) T H_is_whole_1
  have H_is_named := h_is_named (P := P) (w := w) (base := base) T
  have H_is_pair_of_kinds := h_is_pair_of_kinds (P := P) (w := w) (base := base) T H_is_place
  have H_is_share_shape := h_is_share_shape (P := P) (w := w) (base := base) T H_is_ratio H_is_place H_is_named H_is_pair_of_kinds
  have H_is_rising_kinds := h_is_rising_kinds (P := P) (w := w) (base := base) T H_is_place
  have H_is_apart_shape := h_is_apart_shape (P := P) (w := w) (base := base) T H_is_named H_is_rising_kinds
  have H_times := h_times (P := P) (w := w) (base := base) T H_ratio
  have H_look_at_weights_X := h_look_at_weights_X (P := P) (w := w) (base := base) T H_plus H_times
  have H_is_led_to := h_is_led_to (P := P) (w := w) (base := base) T
  have H_look_at_ways_X := h_look_at_ways_X (P := P) (w := w) (base := base) T H_is_led_to
  have H_look_at_apart_X := h_look_at_apart_X (P := P) (w := w) (base := base) T H_is_led_to
  have H_lets_share_X := h_lets_share_X (P := P) (w := w) (base := base) T H_chain H_is_share_shape H_is_apart_shape H_look_at_weights_X H_look_at_ways_X H_look_at_apart_X
  have H_q_told := h_q_told (P := P) (w := w) (base := base) T H_lets_share_X
  exact ok_law T H_q_draw H_q_kinds H_q_rows H_q_paper H_q_due H_q_told F fn
theorem all_mk {l : PySem.W.OpenLaw} {w : World} {K : PySem.W.Frag} {h : Heap} {mg : Str → Option Value} {fa : Addr} (KX : K.In h) (G : h.Ns mainGlobals mg) (hmg : mg "law" = some (.ref fa)) (T : Txt K mg) :
    ∃ fd : FuncData, (∀ (s : Shared) (u : Value), BindsTo s fd ⟨[u], []⟩ [("_law_script", u)]) ∧ ∀ base : Heap, K.In base → base.Ns mainGlobals mg → FnG l.prog w K mg base CX0 7 fa fd ["_law_script"] (spLaw K) := by
  obtain ⟨f, fd, hm, F, _⟩ := T.s_law.src
  cases hmg.symm.trans hm
  have F0 := F
  obtain ⟨oc, od, kV, dc, pm, an, cd, ct, sl, e, _, _⟩ := F0.ex
  exact ⟨fd, fun s v => e ▸ .of_eq rfl, fun base _ _ => all_ok T F fin⟩
end
end
end Lfreshparts_k58_papers_of_kinds_let_by
open PySem PySem.W PyProof.Rows
set_option maxHeartbeats 0 in
theorem PySem.Challenge.cw_freshparts_k58_papers_of_kinds_let_by_holds : PySem.Challenge.rw_freshparts_k58_papers_of_kinds_let_by.Holds := by
  w_on; o_law; k_head; (case hw => w_witness2)
  k_fill
  refine Dn.walkG (l := PySem.Challenge.rw_freshparts_k58_papers_of_kinds_let_by) (k := 7) (x := "_law_script") rfl rfl ⟨rfl, by decide, by decide⟩ (fun w h Y => PySem.W.kIn_of Y) ?F
  case F =>
    intro w mg fa h KX G hmg
    refine' Lfreshparts_k58_papers_of_kinds_let_by.all_mk (l := PySem.Challenge.rw_freshparts_k58_papers_of_kinds_let_by) KX G hmg ?T
    case T =>
      refine' ⟨?e_ok, ?p_FreshError, ?p_NoAge, ?p_NoBeat, ?p_NoLines, ?p_NoName, ?p_NoPaper, ?p_NoRatio, ?p_NoRow, ?p_NoText, ?p_TooMany, ?p_ValueError, ?b_FE, ?r_NoPaper, ?n_abs, ?n_all, ?n_bool, ?n_enumerate, ?n_int, ?n_isinstance, ?n_len, ?n_list, ?n_min, ?n_range, ?n_repr, ?n_set, ?n_sorted, ?n_str, ?n_sum, ?n_tuple, ?a_is_whole_kinds, ?s_q_feed, ?s_q_draw, ?s_q_lowest, ?s_q_following, ?s_q_kinds, ?s_q_add, ?s_q_all, ?s_q_rows, ?s_q_reached, ?s_q_homes, ?s_q_by, ?s_q_trees, ?s_q_weights, ?s_q_ways_home, ?s_q_is_out, ?s_q_closed, ?s_q_paper, ?s_q_whole, ?s_q_is_ratio, ?s_q_place, ?s_q_is_shape, ?s_q_due, ?s_common, ?s_ratio, ?s_plus, ?s_chain, ?s_is_whole_0, ?s_is_ratio, ?s_is_whole_1, ?s_is_place, ?s_is_named, ?s_is_pair_of_kinds, ?s_is_share_shape, ?s_is_rising_kinds, ?s_is_apart_shape, ?s_times, ?s_look_at_weights_X, ?s_is_led_to, ?s_look_at_ways_X, ?s_look_at_apart_X, ?s_lets_share_X, ?s_q_told, ?s_law, ?k_NOUGHT_kinds, ?k_NOUGHT_sharechecker, ?k_ONE, ?k_MOST_WAYS⟩
      (case e_ok => kernel_rfl)
      (case p_FreshError => refine' Dn.errP_mk KX G ?pa_FreshError ?pb_FreshError; (case pa_FreshError => k_is); (case pb_FreshError => kernel_rfl))
      (case p_NoAge => refine' Dn.errP_mk KX G ?pa_NoAge ?pb_NoAge; (case pa_NoAge => k_is); (case pb_NoAge => kernel_rfl))
      (case p_NoBeat => refine' Dn.errP_mk KX G ?pa_NoBeat ?pb_NoBeat; (case pa_NoBeat => k_is); (case pb_NoBeat => kernel_rfl))
      (case p_NoLines => refine' Dn.errP_mk KX G ?pa_NoLines ?pb_NoLines; (case pa_NoLines => k_is); (case pb_NoLines => kernel_rfl))
      (case p_NoName => refine' Dn.errP_mk KX G ?pa_NoName ?pb_NoName; (case pa_NoName => k_is); (case pb_NoName => kernel_rfl))
      (case p_NoPaper => refine' Dn.errP_mk KX G ?pa_NoPaper ?pb_NoPaper; (case pa_NoPaper => k_is); (case pb_NoPaper => kernel_rfl))
      (case p_NoRatio => refine' Dn.errP_mk KX G ?pa_NoRatio ?pb_NoRatio; (case pa_NoRatio => k_is); (case pb_NoRatio => kernel_rfl))
      (case p_NoRow => refine' Dn.errP_mk KX G ?pa_NoRow ?pb_NoRow; (case pa_NoRow => k_is); (case pb_NoRow => kernel_rfl))
      (case p_NoText => refine' Dn.errP_mk KX G ?pa_NoText ?pb_NoText; (case pa_NoText => k_is); (case pb_NoText => kernel_rfl))
      (case p_TooMany => refine' Dn.errP_mk KX G ?pa_TooMany ?pb_TooMany; (case pa_TooMany => k_is); (case pb_TooMany => kernel_rfl))
      (case p_ValueError => refine' ⟨.inr ⟨PySem.W.mg_none_of KX G ?vea, by decide +kernel, by decide⟩, ?veb⟩; (case vea => k_is); (case veb => kernel_rfl))
      (case b_FE => refine' Dn.errB_mk KX G ?bfa ?bfb ?bfc ?bfd; (case bfa => k_is); (case bfb => k_is); (case bfc => k_is); (case bfd => k_is))
      (case r_NoPaper => refine' Dn.errS_mk KX G ?ra_NoPaper ?rl_NoPaper ?rs_NoPaper ?re_NoPaper ?rt_NoPaper ?rk_NoPaper ?rn_NoPaper ?ri_NoPaper ?rj_NoPaper ?rm_NoPaper ?rc_NoPaper ?ry_NoPaper (fun _ _ _ _ _ _ us hl => match us, hl with | [_, _, _], _ => rfl); (case ra_NoPaper => k_is); (case rl_NoPaper => k_is); (case rs_NoPaper => k_is); (case re_NoPaper => k_is); (case rt_NoPaper => k_is); (case rk_NoPaper => k_is); (case rn_NoPaper => kernel_rfl); (case ri_NoPaper => k_is); (case rj_NoPaper => k_is); (case rm_NoPaper => k_is); (case rc_NoPaper => k_is); (case ry_NoPaper => k_is))
      (case n_abs => refine' PySem.W.mg_none_of KX G ?a0; (case a0 => k_is))
      (case n_all => refine' PySem.W.mg_none_of KX G ?a1; (case a1 => k_is))
      (case n_bool => refine' PySem.W.mg_none_of KX G ?a2; (case a2 => k_is))
      (case n_enumerate => refine' PySem.W.mg_none_of KX G ?a3; (case a3 => k_is))
      (case n_int => refine' PySem.W.mg_none_of KX G ?a4; (case a4 => k_is))
      (case n_isinstance => refine' PySem.W.mg_none_of KX G ?a5; (case a5 => k_is))
      (case n_len => refine' PySem.W.mg_none_of KX G ?a6; (case a6 => k_is))
      (case n_list => refine' PySem.W.mg_none_of KX G ?a7; (case a7 => k_is))
      (case n_min => refine' PySem.W.mg_none_of KX G ?a8; (case a8 => k_is))
      (case n_range => refine' PySem.W.mg_none_of KX G ?a9; (case a9 => k_is))
      (case n_repr => refine' PySem.W.mg_none_of KX G ?a10; (case a10 => k_is))
      (case n_set => refine' PySem.W.mg_none_of KX G ?a11; (case a11 => k_is))
      (case n_sorted => refine' PySem.W.mg_none_of KX G ?a12; (case a12 => k_is))
      (case n_str => refine' PySem.W.mg_none_of KX G ?a13; (case a13 => k_is))
      (case n_sum => refine' PySem.W.mg_none_of KX G ?a14; (case a14 => k_is))
      (case n_tuple => refine' PySem.W.mg_none_of KX G ?a15; (case a15 => k_is))
      (case a_is_whole_kinds => refine' Dn.same_mk KX G ?a16 ?b16; (case a16 => k_is); (case b16 => k_is))
      (case s_q_feed => refine' Dn.src_mk KX G ?a17 ?l17 ?c17 ?k17 (fun _ _ _ _ _ _ us hl => match us, hl with | [_], _ => rfl); (case a17 => k_is); (case l17 => k_is); (case c17 => k_is); (case k17 => k_is))
      (case s_q_draw => refine' Dn.src_mk KX G ?a18 ?l18 ?c18 ?k18 (fun _ _ _ _ _ _ us hl => match us, hl with | [_, _], _ => rfl); (case a18 => k_is); (case l18 => k_is); (case c18 => k_is); (case k18 => k_is))
      (case s_q_lowest => refine' Dn.src_mk KX G ?a19 ?l19 ?c19 ?k19 (fun _ _ _ _ _ _ us hl => match us, hl with | [_, _], _ => rfl); (case a19 => k_is); (case l19 => k_is); (case c19 => k_is); (case k19 => k_is))
      (case s_q_following => refine' Dn.src_mk KX G ?a20 ?l20 ?c20 ?k20 (fun _ _ _ _ _ _ us hl => match us, hl with | [_, _, _, _], _ => rfl); (case a20 => k_is); (case l20 => k_is); (case c20 => k_is); (case k20 => k_is))
      (case s_q_kinds => refine' Dn.src_mk KX G ?a21 ?l21 ?c21 ?k21 (fun _ _ _ _ _ _ us hl => match us, hl with | [_, _, _], _ => rfl); (case a21 => k_is); (case l21 => k_is); (case c21 => k_is); (case k21 => k_is))
      (case s_q_add => refine' Dn.src_mk KX G ?a22 ?l22 ?c22 ?k22 (fun _ _ _ _ _ _ us hl => match us, hl with | [_, _], _ => rfl); (case a22 => k_is); (case l22 => k_is); (case c22 => k_is); (case k22 => k_is))
      (case s_q_all => refine' Dn.src_mk KX G ?a23 ?l23 ?c23 ?k23 (fun _ _ _ _ _ _ us hl => match us, hl with | [_], _ => rfl); (case a23 => k_is); (case l23 => k_is); (case c23 => k_is); (case k23 => k_is))
      (case s_q_rows => refine' Dn.src_mk KX G ?a24 ?l24 ?c24 ?k24 (fun _ _ _ _ _ _ us hl => match us, hl with | [_], _ => rfl); (case a24 => k_is); (case l24 => k_is); (case c24 => k_is); (case k24 => k_is))
      (case s_q_reached => refine' Dn.src_mk KX G ?a25 ?l25 ?c25 ?k25 (fun _ _ _ _ _ _ us hl => match us, hl with | [_, _], _ => rfl); (case a25 => k_is); (case l25 => k_is); (case c25 => k_is); (case k25 => k_is))
      (case s_q_homes => refine' Dn.src_mk KX G ?a26 ?l26 ?c26 ?k26 (fun _ _ _ _ _ _ us hl => match us, hl with | [_], _ => rfl); (case a26 => k_is); (case l26 => k_is); (case c26 => k_is); (case k26 => k_is))
      (case s_q_by => refine' Dn.src_mk KX G ?a27 ?l27 ?c27 ?k27 (fun _ _ _ _ _ _ us hl => match us, hl with | [_, _], _ => rfl); (case a27 => k_is); (case l27 => k_is); (case c27 => k_is); (case k27 => k_is))
      (case s_q_trees => refine' Dn.src_mk KX G ?a28 ?l28 ?c28 ?k28 (fun _ _ _ _ _ _ us hl => match us, hl with | [_, _], _ => rfl); (case a28 => k_is); (case l28 => k_is); (case c28 => k_is); (case k28 => k_is))
      (case s_q_weights => refine' Dn.src_mk KX G ?a29 ?l29 ?c29 ?k29 (fun _ _ _ _ _ _ us hl => match us, hl with | [_], _ => rfl); (case a29 => k_is); (case l29 => k_is); (case c29 => k_is); (case k29 => k_is))
      (case s_q_ways_home => refine' Dn.src_mk KX G ?a30 ?l30 ?c30 ?k30 (fun _ _ _ _ _ _ us hl => match us, hl with | [_, _, _], _ => rfl); (case a30 => k_is); (case l30 => k_is); (case c30 => k_is); (case k30 => k_is))
      (case s_q_is_out => refine' Dn.src_mk KX G ?a31 ?l31 ?c31 ?k31 (fun _ _ _ _ _ _ us hl => match us, hl with | [_, _, _], _ => rfl); (case a31 => k_is); (case l31 => k_is); (case c31 => k_is); (case k31 => k_is))
      (case s_q_closed => refine' Dn.src_mk KX G ?a32 ?l32 ?c32 ?k32 (fun _ _ _ _ _ _ us hl => match us, hl with | [_], _ => rfl); (case a32 => k_is); (case l32 => k_is); (case c32 => k_is); (case k32 => k_is))
      (case s_q_paper => refine' Dn.src_mk KX G ?a33 ?l33 ?c33 ?k33 (fun _ _ _ _ _ _ us hl => match us, hl with | [_, _], _ => rfl); (case a33 => k_is); (case l33 => k_is); (case c33 => k_is); (case k33 => k_is))
      (case s_q_whole => refine' Dn.src_mk KX G ?a34 ?l34 ?c34 ?k34 (fun _ _ _ _ _ _ us hl => match us, hl with | [_], _ => rfl); (case a34 => k_is); (case l34 => k_is); (case c34 => k_is); (case k34 => k_is))
      (case s_q_is_ratio => refine' Dn.src_mk KX G ?a35 ?l35 ?c35 ?k35 (fun _ _ _ _ _ _ us hl => match us, hl with | [_], _ => rfl); (case a35 => k_is); (case l35 => k_is); (case c35 => k_is); (case k35 => k_is))
      (case s_q_place => refine' Dn.src_mk KX G ?a36 ?l36 ?c36 ?k36 (fun _ _ _ _ _ _ us hl => match us, hl with | [_, _], _ => rfl); (case a36 => k_is); (case l36 => k_is); (case c36 => k_is); (case k36 => k_is))
      (case s_q_is_shape => refine' Dn.src_mk KX G ?a37 ?l37 ?c37 ?k37 (fun _ _ _ _ _ _ us hl => match us, hl with | [_, _], _ => rfl); (case a37 => k_is); (case l37 => k_is); (case c37 => k_is); (case k37 => k_is))
      (case s_q_due => refine' Dn.src_mk KX G ?a38 ?l38 ?c38 ?k38 (fun _ _ _ _ _ _ us hl => match us, hl with | [_, _], _ => rfl); (case a38 => k_is); (case l38 => k_is); (case c38 => k_is); (case k38 => k_is))
      (case s_common => refine' Dn.src_mk KX G ?a39 ?l39 ?c39 ?k39 (fun _ _ _ _ _ _ us hl => match us, hl with | [_, _], _ => rfl); (case a39 => k_is); (case l39 => k_is); (case c39 => k_is); (case k39 => k_is))
      (case s_ratio => refine' Dn.src_mk KX G ?a40 ?l40 ?c40 ?k40 (fun _ _ _ _ _ _ us hl => match us, hl with | [_, _], _ => rfl); (case a40 => k_is); (case l40 => k_is); (case c40 => k_is); (case k40 => k_is))
      (case s_plus => refine' Dn.src_mk KX G ?a41 ?l41 ?c41 ?k41 (fun _ _ _ _ _ _ us hl => match us, hl with | [_, _], _ => rfl); (case a41 => k_is); (case l41 => k_is); (case c41 => k_is); (case k41 => k_is))
      (case s_chain => refine' Dn.src_mk KX G ?a42 ?l42 ?c42 ?k42 (fun _ _ _ _ _ _ us hl => match us, hl with | [_], _ => rfl); (case a42 => k_is); (case l42 => k_is); (case c42 => k_is); (case k42 => k_is))
      (case s_is_whole_0 => refine' Dn.src_mk KX G ?a43 ?l43 ?c43 ?k43 (fun _ _ _ _ _ _ us hl => match us, hl with | [_], _ => rfl); (case a43 => k_is); (case l43 => k_is); (case c43 => k_is); (case k43 => k_is))
      (case s_is_ratio => refine' Dn.src_mk KX G ?a44 ?l44 ?c44 ?k44 (fun _ _ _ _ _ _ us hl => match us, hl with | [_], _ => rfl); (case a44 => k_is); (case l44 => k_is); (case c44 => k_is); (case k44 => k_is))
      (case s_is_whole_1 => refine' Dn.src_mk KX G ?a45 ?l45 ?c45 ?k45 (fun _ _ _ _ _ _ us hl => match us, hl with | [_], _ => rfl); (case a45 => k_is); (case l45 => k_is); (case c45 => k_is); (case k45 => k_is))
      (case s_is_place => refine' Dn.src_mk KX G ?a46 ?l46 ?c46 ?k46 (fun _ _ _ _ _ _ us hl => match us, hl with | [_, _], _ => rfl); (case a46 => k_is); (case l46 => k_is); (case c46 => k_is); (case k46 => k_is))
      (case s_is_named => refine' Dn.src_mk KX G ?a47 ?l47 ?c47 ?k47 (fun _ _ _ _ _ _ us hl => match us, hl with | [_, _, _], _ => rfl); (case a47 => k_is); (case l47 => k_is); (case c47 => k_is); (case k47 => k_is))
      (case s_is_pair_of_kinds => refine' Dn.src_mk KX G ?a48 ?l48 ?c48 ?k48 (fun _ _ _ _ _ _ us hl => match us, hl with | [_, _], _ => rfl); (case a48 => k_is); (case l48 => k_is); (case c48 => k_is); (case k48 => k_is))
      (case s_is_share_shape => refine' Dn.src_mk KX G ?a49 ?l49 ?c49 ?k49 (fun _ _ _ _ _ _ us hl => match us, hl with | [_, _], _ => rfl); (case a49 => k_is); (case l49 => k_is); (case c49 => k_is); (case k49 => k_is))
      (case s_is_rising_kinds => refine' Dn.src_mk KX G ?a50 ?l50 ?c50 ?k50 (fun _ _ _ _ _ _ us hl => match us, hl with | [_, _], _ => rfl); (case a50 => k_is); (case l50 => k_is); (case c50 => k_is); (case k50 => k_is))
      (case s_is_apart_shape => refine' Dn.src_mk KX G ?a51 ?l51 ?c51 ?k51 (fun _ _ _ _ _ _ us hl => match us, hl with | [_, _], _ => rfl); (case a51 => k_is); (case l51 => k_is); (case c51 => k_is); (case k51 => k_is))
      (case s_times => refine' Dn.src_mk KX G ?a52 ?l52 ?c52 ?k52 (fun _ _ _ _ _ _ us hl => match us, hl with | [_, _], _ => rfl); (case a52 => k_is); (case l52 => k_is); (case c52 => k_is); (case k52 => k_is))
      (case s_look_at_weights_X => refine' Dn.src_mk KX G ?a53 ?l53 ?c53 ?k53 (fun _ _ _ _ _ _ us hl => match us, hl with | [_, _], _ => rfl); (case a53 => k_is); (case l53 => k_is); (case c53 => k_is); (case k53 => k_is))
      (case s_is_led_to => refine' Dn.src_mk KX G ?a54 ?l54 ?c54 ?k54 (fun _ _ _ _ _ _ us hl => match us, hl with | [_, _, _], _ => rfl); (case a54 => k_is); (case l54 => k_is); (case c54 => k_is); (case k54 => k_is))
      (case s_look_at_ways_X => refine' Dn.src_mk KX G ?a55 ?l55 ?c55 ?k55 (fun _ _ _ _ _ _ us hl => match us, hl with | [_, _, _], _ => rfl); (case a55 => k_is); (case l55 => k_is); (case c55 => k_is); (case k55 => k_is))
      (case s_look_at_apart_X => refine' Dn.src_mk KX G ?a56 ?l56 ?c56 ?k56 (fun _ _ _ _ _ _ us hl => match us, hl with | [_, _, _], _ => rfl); (case a56 => k_is); (case l56 => k_is); (case c56 => k_is); (case k56 => k_is))
      (case s_lets_share_X => refine' Dn.src_mk KX G ?a57 ?l57 ?c57 ?k57 (fun _ _ _ _ _ _ us hl => match us, hl with | [_, _], _ => rfl); (case a57 => k_is); (case l57 => k_is); (case c57 => k_is); (case k57 => k_is))
      (case s_q_told => refine' Dn.src_mk KX G ?a58 ?l58 ?c58 ?k58 (fun _ _ _ _ _ _ us hl => match us, hl with | [_, _], _ => rfl); (case a58 => k_is); (case l58 => k_is); (case c58 => k_is); (case k58 => k_is))
      (case s_law => refine' Dn.src_mk KX G ?a59 ?l59 ?c59 ?k59 (fun _ _ _ _ _ _ us hl => match us, hl with | [_], _ => rfl); (case a59 => k_is); (case l59 => k_is); (case c59 => k_is); (case k59 => k_is))
      (case k_NOUGHT_kinds => refine' Dn.rat_mk KX G ?a60 ?l60; (case a60 => k_is); (case l60 => k_is))
      (case k_NOUGHT_sharechecker => refine' Dn.rat_mk KX G ?a61 ?l61; (case a61 => k_is); (case l61 => k_is))
      (case k_ONE => refine' Dn.rat_mk KX G ?a62 ?l62; (case a62 => k_is); (case l62 => k_is))
      (case k_MOST_WAYS => refine' Dn.int_mk KX G ?a63; (case a63 => k_is))
